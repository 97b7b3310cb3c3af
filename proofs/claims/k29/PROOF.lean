import PyProof.Rows.All
import Wide.All
import OpenK.AllK
import Wide.FinOn
import HandS.ForMost
import HandS.Exc
import HandS.ExcCtx
import HandS.WordsExc
import HandS.Lambda
import HandS.Defaults
import HandS.CallSlots
import HandS.ExcOwn
import HandS.SortInts
import HandS.Zip
import HandS.WideBits
import HandS.More
import HandS.SetFor
import HandS.Conv
import HandS.OwnEq
import HandS.NoneIn
import KE.GoesMore
import HandS.Codes
import HandS.Head0
import HandS.Head1
import HandS.Head2
import HandS.HeadEnd
import HandS.HeadHook1
import HandS.HeadHook2
import HandS.HeadHook3
import HandS.HeadHook4
import HandS.HeadWalk
import HandS.EndTab
import HandS.TupAny
import HandS.HotCalls
import HandS.ExcIs
import HandS.ExcField
import HandS.IsInst
import HandS.SetBool
import HandS.SortKw
import PyProof.MinMaxWalk
import HandS.Strs
import HandS.Dict
import HandS.Style
import PyProof.WalksMore
import HandS.MakeKwOnly
import HandS.WordsDict
import HandS.Small
import HandS.Text
import PyProof.CollectIter
import HandS.ExcInit
import KE.GoesZip
import HandS.FStr
import PyProof.InstNe
import HandS.DictComp
import PyProof.StrOps2
import KE.KIndexOf
import PyProof.ListStr
import HandS.TupLe
import KE.KDictPairs
import HandS.TupMul
import KE.SortData
import PyProof.SumWalkG
import PyProof.NeKinds
import PyProof.EqAt
import KE.KDictKeyed
import PyProof.StrLaws
import PyProof.EqLayable
import PyProof.Rows.InDataRows
import PySem.Challenge.RW_foldberth_k29_tables_laid
set_option Elab.async false
set_option linter.all false
set_option autoImplicit false
set_option maxRecDepth 100000
set_option maxHeartbeats 4000000
namespace Hz
open PySem PySem.Spec PyProof.Rows L2
def blFa : List He.Fa := [.free "len", .free "range", .free "enumerate", .free "zip", .free "sorted", .free "sum", .free "all", .free "any", .free "list", .free "tuple", .free "int", .free "isinstance", .free "min", .free "max", .free "set", .free "abs", .free "bool", .free "str", .free "repr", .free "dict"]
def oexB (K : PySem.W.Frag) (C : Addr) : Bool := (match K.lookup C with
  | some ⟨.type "type", _, .cls cd, sl⟩ => (match cd.mro, sl.toList with
    | .ref C' :: bm, [_, _, _, _, some (.builtin n), _] => C' == C && n == "ValueError.__new__" && !cd.hasDel && cd.hasDict && PySem.HandSPX.refsVE bm
    | _, _ => false)
  | _ => false) && (He.eqO (PySem.W.findIn K (.ref C) "__setattr__") (some (some (.builtin "object.__setattr__"))) && (decide (PySem.W.subIn K (.ref C) (.type "BaseException") = some true) && (decide (PySem.W.typeIn K (.ref C) = some (.type "type")) && PySem.W.keepIn K (.ref C))))
def basB (K : PySem.W.Frag) (B : Addr) : Bool := He.eqO (PySem.W.specialIn K (.ref B) "__getattribute__") (some (some (.builtin "type.__getattribute__"))) && (decide (PySem.W.typeIn K (.ref B) = some (.type "type")) && (PySem.W.readsIn K B (.type "type") && (match PySem.W.findCls K (.ref B) (.type "type") "__init__" with | some (.val (.builtin n)) => n == "ValueError.__init__" | _ => false)))
def xmB (K : PySem.W.Frag) (c f : Str) : Bool := He.eqO (PySem.W.findIn K (.ref (He.ga K c)) f) (some none) && (He.eqO (PySem.W.findIn K (.ref (He.ga K c)) "__init__") (some (some (.ref (He.ma K (He.ga K c) "__init__")))) && decide (PySem.W.typeIn K (.ref (He.ma K (He.ga K c) "__init__")) = some (.type "function")))
def frZ (g : Addr → Option Obj) (as : List Addr) : PySem.W.Frag := He.frT g as
def obsZ (as : List Addr) (fa : List He.Fa) (fn : List He.DefD) (ts : List He.Tab) (tf : List He.Defn) (ex : PySem.W.Frag → Bool) (g : Addr → Option Obj) : He.AlX :=
  (He.obsT fa fn ts (frZ g as), ex (frZ g as) && He.tabsB g tf (frZ g as))
theorem saysZ_of {as : List Addr} {fa : List He.Fa} {fn : List He.DefD} {ts : List He.Tab} {tf : List He.Defn} {ex : PySem.W.Frag → Bool} {w : World} {h : Heap} (e : obsZ as fa fn ts tf ex h.get? = He.valX fn ts w) : He.SaysX fa fn ts tf ex w h (frZ h.get? as) := by
  have z1 := congrArg Prod.fst e
  have z2 : (ex (frZ h.get? as) && He.tabsB h.get? tf (frZ h.get? as)) = true := congrArg Prod.snd e
  obtain ⟨y1, y2⟩ := He.ba z2
  have tabs : ∀ p ∈ tf, PySem.W.codeHdIn (frZ h.get? as) (He.cT (frZ h.get? as) p).1 (He.cT (frZ h.get? as) p).2 = true ∧ ∃ o, h.get? (He.cT (frZ h.get? as) p).2 = some o ∧ He.emptyTab o = true := fun p hp => by
    obtain ⟨y3, y4⟩ := He.ba (List.all_eq_true.mp y2 p hp)
    refine ⟨y3, ?_⟩
    split at y4
    · rename_i o q
      exact ⟨o, q, y4⟩
    · cases y4
  refine ⟨z1, y1, fun p hp => (tabs p hp).1, fun p hp => ?_, fun p hp => ?_⟩
  · obtain ⟨_, o, q, z⟩ := tabs p hp
    exact He.frT_none q z
  · obtain ⟨_, o, q, z⟩ := tabs p hp
    exact q.trans (congrArg some (He.emptyTab_eq z))
def hookZ (as : List Addr) (fa : List He.Fa) (fn : List He.DefD) (ts : List He.Tab) (tf : List He.Defn) (ex : PySem.W.Frag → Bool) : PySem.W.Hook where
  α := He.AlX
  obs := fun s => obsZ as fa fn ts tf ex s.heap.get?
  val := fun w => He.valX fn ts w
  says := (He.hookX 0 fa fn ts tf ex).says
  of := fun _ _ e => ⟨_, He.frT_in, saysZ_of e⟩
  keeps := (He.hookX 0 fa fn ts tf ex).keeps
theorem obsZ_eq {as : List Addr} {fa : List He.Fa} {fn : List He.DefD} {ts : List He.Tab} {tf : List He.Defn} {ex : PySem.W.Frag → Bool} {g : Addr → Option Obj} {s : Shared} (h : ∀ a, g a = s.heap.get? a) : obsZ as fa fn ts tf ex g = (hookZ as fa fn ts tf ex).obs s := by
  obtain rfl : g = s.heap.get? := funext h
  rfl
theorem obsZ_two {as : List Addr} {fa1 fa2 : List He.Fa} {fn1 fn2 : List He.DefD} {tf : List He.Defn} {ex ex1 ex2 : PySem.W.Frag → Bool} {w : World} {g : Addr → Option Obj} (hex : ∀ K, ex K = (ex1 K && ex2 K)) (e1 : obsZ as fa1 fn1 [] [] ex1 g = He.valX fn1 [] w) (e2 : obsZ as fa2 fn2 [] tf ex2 g = He.valX fn2 [] w) : obsZ as (fa1 ++ fa2) (fn1 ++ fn2) [] tf ex g = He.valX (fn1 ++ fn2) [] w := by
  have a1 : (He.obsD fa1 fn1 (frZ g as)) = He.valD fn1 := congrArg (fun z : He.AlX => z.1.1) e1
  have a2 : (He.obsD fa2 fn2 (frZ g as)) = He.valD fn2 := congrArg (fun z : He.AlX => z.1.1) e2
  have b1 : (ex1 (frZ g as) && He.tabsB g [] (frZ g as)) = true := congrArg (fun z : He.AlX => z.2) e1
  have b2 : (ex2 (frZ g as) && He.tabsB g tf (frZ g as)) = true := congrArg (fun z : He.AlX => z.2) e2
  have c1 := congrArg (fun z : He.AlD => z.1) a1
  have c2 := congrArg (fun z : He.AlD => z.1) a2
  have d1 := congrArg (fun z : He.AlD => z.2) a1
  have d2 := congrArg (fun z : He.AlD => z.2) a2
  simp only [He.obsD, He.valD, Bool.and_eq_true] at c1 c2 d1 d2 b1 b2
  have dd : He.obsD (fa1 ++ fa2) (fn1 ++ fn2) (frZ g as) = He.valD (fn1 ++ fn2) := by
    unfold He.obsD He.valD
    rw [List.all_append, List.all_append, List.map_append, List.map_append, d1, d2, c1.1, c1.2, c2.1, c2.2]
    rfl
  have xx : (ex (frZ g as) && He.tabsB g tf (frZ g as)) = true := by
    rw [hex, b1.1, b2.1, b2.2]
    rfl
  show ((He.obsD (fa1 ++ fa2) (fn1 ++ fn2) (frZ g as), []), _) = ((He.valD (fn1 ++ fn2), []), true)
  rw [dd, xx]
theorem runEq_four {r : PySem.W.OpenRow} {q : Program} {H : PySem.W.Hook} {ob : PySem.W.SharedT → H.α} {α β : Type} {ob1 : PySem.W.SharedT → α} {ob2 : PySem.W.SharedT → β} {v1 : α} {v2 : β} {M : Nat} {loose : List PySem.Str} {w : World}
    (h1 : ∀ os : OsState, (HandSHeadRun.endF (HandSHeadRun.stepQ (HandSHeadRun.denQ HandSHeadRun.tabQ) r.prog w) M r.prog w os).map (fun s => HandSHeadRun.looksF r.prog (PySem.W.boot_heap w.params) s.abs) = some true)
    (h2 : ∀ os : OsState, (HandSHeadRun.endF (HandSHeadRun.stepQ (HandSHeadRun.denQ HandSHeadRun.tabQ) r.prog w) M r.prog w os).map (fun s => HandSHeadRun.seenQ q loose (importedModules r.prog.main.body) (fun s => PySem.W.xlAt q [] s && PySem.W.recOk r.toRowW.records s) s.abs) = some (PySem.W.openGood q loose))
    (h3 : ∀ os : OsState, (HandSHeadRun.endF (HandSHeadRun.stepQ (HandSHeadRun.denQ HandSHeadRun.tabQ) r.prog w) M r.prog w os).map ob1 = some v1)
    (h4 : ∀ os : OsState, (HandSHeadRun.endF (HandSHeadRun.stepQ (HandSHeadRun.denQ HandSHeadRun.tabQ) r.prog w) M r.prog w os).map ob2 = some v2)
    (hc : ∀ s, ob1 s = v1 → ob2 s = v2 → ob s = H.val w) : HandSHeadRun.RunEq r q H ob M loose w := fun os => by
  have a := h1 os
  have b := h2 os
  have c := h3 os
  have d := h4 os
  cases e : HandSHeadRun.endF (HandSHeadRun.stepQ (HandSHeadRun.denQ HandSHeadRun.tabQ) r.prog w) M r.prog w os with
  | none => rw [e] at a; cases a
  | some s =>
    rw [e] at a b c d
    have a' := Option.some.inj a
    have b' := Option.some.inj b
    have k := hc s (Option.some.inj c) (Option.some.inj d)
    exact congrArg some (Prod.ext a' (Prod.ext b' k))
end Hz
namespace K29
open PySem L2
def top (i : Nat) : Stmt := PySem.Challenge.pw_foldberth_k29_tables_laid.main.body.getD i (.Pass ⟨0, 0, 0, 0⟩)
abbrev s_NoTableU_initU : Stmt := inClass (top 17) 0
abbrev s_NoStashU_initU : Stmt := inClass (top 19) 0
abbrev s__law_box : Stmt := top 55
abbrev s__law_model : Stmt := top 67
abbrev s__law_take : Stmt := top 56
abbrev s__law_of : Stmt := top 57
abbrev s__law_wide : Stmt := top 72
abbrev s_BodyU_initU : Stmt := inClass (top 53) 0
abbrev s__law_cells : Stmt := top 70
abbrev s__law_shuffled : Stmt := top 59
abbrev s__law_numbers : Stmt := top 62
abbrev s__law_lines : Stmt := top 71
abbrev s__law_new_name : Stmt := top 73
abbrev s__law_lay : Stmt := top 74
abbrev s__law_deep : Stmt := top 68
abbrev s_is_name : Stmt := top 47
abbrev s_Body_need_new : Stmt := inClass (top 53) 6
abbrev s_digits_of : Stmt := top 52
abbrev s_TableU_initU : Stmt := inClass (top 41) 0
abbrev s_Fold_many : Stmt := inClass (top 31) 5
abbrev s_blended : Stmt := top 24
abbrev s_picked : Stmt := top 25
abbrev s_Fold_to : Stmt := inClass (top 31) 7
abbrev s_laid : Stmt := top 42
abbrev s_FoldU_initU : Stmt := inClass (top 31) 0
abbrev s_top_of : Stmt := top 23
abbrev s_reduced : Stmt := top 26
abbrev s_basis_of : Stmt := top 27
abbrev s_Fold_onto : Stmt := inClass (top 31) 9
abbrev s_Body_need_spread : Stmt := inClass (top 53) 7
abbrev s_Body_lay : Stmt := inClass (top 53) 10
abbrev s__law_many : Stmt := top 69
abbrev s__law_images : Stmt := top 63
abbrev s__law_homes : Stmt := top 64
abbrev s__law_same : Stmt := top 58
abbrev s_Body_need : Stmt := inClass (top 53) 4
abbrev s_Fold_rows : Stmt := inClass (top 31) 4
abbrev s_Move_told : Stmt := inClass (top 40) 1
abbrev s_Body_moving : Stmt := inClass (top 53) 29
abbrev s_Body_rows : Stmt := inClass (top 53) 25
abbrev s_Fold_size : Stmt := inClass (top 31) 6
abbrev s_Body_digits : Stmt := inClass (top 53) 24
abbrev s_traced : Stmt := top 28
abbrev s_trail_to : Stmt := top 29
abbrev s_Fold_kernel : Stmt := inClass (top 31) 8
abbrev s_Fold_least : Stmt := inClass (top 31) 14
abbrev s_Fold_back : Stmt := inClass (top 31) 15
abbrev s_Table_plain : Stmt := inClass (top 41) 1
abbrev s_Body_cells : Stmt := inClass (top 53) 26
abbrev s_Body_berths : Stmt := inClass (top 53) 28
abbrev s_BodyU_lenU : Stmt := inClass (top 53) 1
abbrev s_Body_paid : Stmt := inClass (top 53) 34
abbrev s_Body_stored : Stmt := inClass (top 53) 31
abbrev s_Body_names : Stmt := inClass (top 53) 23
abbrev s_BodyU_reprU : Stmt := inClass (top 53) 2
abbrev s__law_blend : Stmt := top 60
abbrev s__law_to : Stmt := top 61
abbrev s__law_shelves : Stmt := top 75
abbrev s_Body_need_stash : Stmt := inClass (top 53) 8
abbrev s_Body_folding : Stmt := inClass (top 53) 32
abbrev s_Body_shelf : Stmt := inClass (top 53) 33
abbrev s__law_stands : Stmt := top 76
abbrev s__law_choices : Stmt := top 65
abbrev s__law_swings : Stmt := top 66
abbrev s_Move_is_ready : Stmt := inClass (top 40) 2
abbrev s_Body_ready : Stmt := inClass (top 53) 30
abbrev s_Table_berth_now : Stmt := inClass (top 41) 2
abbrev s_Body_held : Stmt := inClass (top 53) 27
abbrev s__law_held_right : Stmt := top 77
abbrev s_law : Stmt := top 78
def d_NoTableU_initU : He.DefD := ⟨("NoTable", some "__init__"), "__init__", "NoTable.__init__", defArgs s_NoTableU_initU, defBody s_NoTableU_initU, defScope s_NoTableU_initU, [], []⟩
def d_NoStashU_initU : He.DefD := ⟨("NoStash", some "__init__"), "__init__", "NoStash.__init__", defArgs s_NoStashU_initU, defBody s_NoStashU_initU, defScope s_NoStashU_initU, [], []⟩
def d__law_box : He.DefD := ⟨("_law_box", none), "_law_box", "_law_box", defArgs s__law_box, defBody s__law_box, defScope s__law_box, [], []⟩
def d__law_model : He.DefD := ⟨("_law_model", none), "_law_model", "_law_model", defArgs s__law_model, defBody s__law_model, defScope s__law_model, [], []⟩
def d__law_take : He.DefD := ⟨("_law_take", none), "_law_take", "_law_take", defArgs s__law_take, defBody s__law_take, defScope s__law_take, [], []⟩
def d__law_of : He.DefD := ⟨("_law_of", none), "_law_of", "_law_of", defArgs s__law_of, defBody s__law_of, defScope s__law_of, [], []⟩
def d__law_wide : He.DefD := ⟨("_law_wide", none), "_law_wide", "_law_wide", defArgs s__law_wide, defBody s__law_wide, defScope s__law_wide, [], []⟩
def d_BodyU_initU : He.DefD := ⟨("Body", some "__init__"), "__init__", "Body.__init__", defArgs s_BodyU_initU, defBody s_BodyU_initU, defScope s_BodyU_initU, [], [("banks", .int 2)]⟩
def d__law_cells : He.DefD := ⟨("_law_cells", none), "_law_cells", "_law_cells", defArgs s__law_cells, defBody s__law_cells, defScope s__law_cells, [], []⟩
def d__law_shuffled : He.DefD := ⟨("_law_shuffled", none), "_law_shuffled", "_law_shuffled", defArgs s__law_shuffled, defBody s__law_shuffled, defScope s__law_shuffled, [], []⟩
def d__law_numbers : He.DefD := ⟨("_law_numbers", none), "_law_numbers", "_law_numbers", defArgs s__law_numbers, defBody s__law_numbers, defScope s__law_numbers, [], []⟩
def d__law_lines : He.DefD := ⟨("_law_lines", none), "_law_lines", "_law_lines", defArgs s__law_lines, defBody s__law_lines, defScope s__law_lines, [], []⟩
def d__law_new_name : He.DefD := ⟨("_law_new_name", none), "_law_new_name", "_law_new_name", defArgs s__law_new_name, defBody s__law_new_name, defScope s__law_new_name, [], []⟩
def d__law_lay : He.DefD := ⟨("_law_lay", none), "_law_lay", "_law_lay", defArgs s__law_lay, defBody s__law_lay, defScope s__law_lay, [], []⟩
def d__law_deep : He.DefD := ⟨("_law_deep", none), "_law_deep", "_law_deep", defArgs s__law_deep, defBody s__law_deep, defScope s__law_deep, [], []⟩
def d_is_name : He.DefD := ⟨("is_name", none), "is_name", "is_name", defArgs s_is_name, defBody s_is_name, defScope s_is_name, [], []⟩
def d_Body_need_new : He.DefD := ⟨("Body", some "need_new"), "need_new", "Body.need_new", defArgs s_Body_need_new, defBody s_Body_need_new, defScope s_Body_need_new, [], []⟩
def d_digits_of : He.DefD := ⟨("digits_of", none), "digits_of", "digits_of", defArgs s_digits_of, defBody s_digits_of, defScope s_digits_of, [], []⟩
def d_TableU_initU : He.DefD := ⟨("Table", some "__init__"), "__init__", "Table.__init__", defArgs s_TableU_initU, defBody s_TableU_initU, defScope s_TableU_initU, [], [("move", .non)]⟩
def d_Fold_many : He.DefD := ⟨("Fold", some "many"), "many", "Fold.many", defArgs s_Fold_many, defBody s_Fold_many, defScope s_Fold_many, [], []⟩
def d_blended : He.DefD := ⟨("blended", none), "blended", "blended", defArgs s_blended, defBody s_blended, defScope s_blended, [], []⟩
def d_picked : He.DefD := ⟨("picked", none), "picked", "picked", defArgs s_picked, defBody s_picked, defScope s_picked, [], []⟩
def d_Fold_to : He.DefD := ⟨("Fold", some "to"), "to", "Fold.to", defArgs s_Fold_to, defBody s_Fold_to, defScope s_Fold_to, [], []⟩
def d_laid : He.DefD := ⟨("laid", none), "laid", "laid", defArgs s_laid, defBody s_laid, defScope s_laid, [], []⟩
def d_FoldU_initU : He.DefD := ⟨("Fold", some "__init__"), "__init__", "Fold.__init__", defArgs s_FoldU_initU, defBody s_FoldU_initU, defScope s_FoldU_initU, [], []⟩
def d_top_of : He.DefD := ⟨("top_of", none), "top_of", "top_of", defArgs s_top_of, defBody s_top_of, defScope s_top_of, [], []⟩
def d_reduced : He.DefD := ⟨("reduced", none), "reduced", "reduced", defArgs s_reduced, defBody s_reduced, defScope s_reduced, [], []⟩
def d_basis_of : He.DefD := ⟨("basis_of", none), "basis_of", "basis_of", defArgs s_basis_of, defBody s_basis_of, defScope s_basis_of, [], []⟩
def d_Fold_onto : He.DefD := ⟨("Fold", some "onto"), "onto", "Fold.onto", defArgs s_Fold_onto, defBody s_Fold_onto, defScope s_Fold_onto, [], []⟩
def d_Body_need_spread : He.DefD := ⟨("Body", some "need_spread"), "need_spread", "Body.need_spread", defArgs s_Body_need_spread, defBody s_Body_need_spread, defScope s_Body_need_spread, [], []⟩
def d_Body_lay : He.DefD := ⟨("Body", some "lay"), "lay", "Body.lay", defArgs s_Body_lay, defBody s_Body_lay, defScope s_Body_lay, [], []⟩
def d__law_many : He.DefD := ⟨("_law_many", none), "_law_many", "_law_many", defArgs s__law_many, defBody s__law_many, defScope s__law_many, [], []⟩
def d__law_images : He.DefD := ⟨("_law_images", none), "_law_images", "_law_images", defArgs s__law_images, defBody s__law_images, defScope s__law_images, [], []⟩
def d__law_homes : He.DefD := ⟨("_law_homes", none), "_law_homes", "_law_homes", defArgs s__law_homes, defBody s__law_homes, defScope s__law_homes, [], []⟩
def d__law_same : He.DefD := ⟨("_law_same", none), "_law_same", "_law_same", defArgs s__law_same, defBody s__law_same, defScope s__law_same, [], []⟩
def d_Body_need : He.DefD := ⟨("Body", some "need"), "need", "Body.need", defArgs s_Body_need, defBody s_Body_need, defScope s_Body_need, [], []⟩
def d_Fold_rows : He.DefD := ⟨("Fold", some "rows"), "rows", "Fold.rows", defArgs s_Fold_rows, defBody s_Fold_rows, defScope s_Fold_rows, [], []⟩
def d_Move_told : He.DefD := ⟨("Move", some "told"), "told", "Move.told", defArgs s_Move_told, defBody s_Move_told, defScope s_Move_told, [], []⟩
def d_Body_moving : He.DefD := ⟨("Body", some "moving"), "moving", "Body.moving", defArgs s_Body_moving, defBody s_Body_moving, defScope s_Body_moving, [], []⟩
def d_Body_rows : He.DefD := ⟨("Body", some "rows"), "rows", "Body.rows", defArgs s_Body_rows, defBody s_Body_rows, defScope s_Body_rows, [], []⟩
def d_Fold_size : He.DefD := ⟨("Fold", some "size"), "size", "Fold.size", defArgs s_Fold_size, defBody s_Fold_size, defScope s_Fold_size, [], []⟩
def d_Body_digits : He.DefD := ⟨("Body", some "digits"), "digits", "Body.digits", defArgs s_Body_digits, defBody s_Body_digits, defScope s_Body_digits, [], []⟩
def d_traced : He.DefD := ⟨("traced", none), "traced", "traced", defArgs s_traced, defBody s_traced, defScope s_traced, [], []⟩
def d_trail_to : He.DefD := ⟨("trail_to", none), "trail_to", "trail_to", defArgs s_trail_to, defBody s_trail_to, defScope s_trail_to, [], []⟩
def d_Fold_kernel : He.DefD := ⟨("Fold", some "kernel"), "kernel", "Fold.kernel", defArgs s_Fold_kernel, defBody s_Fold_kernel, defScope s_Fold_kernel, [], []⟩
def d_Fold_least : He.DefD := ⟨("Fold", some "least"), "least", "Fold.least", defArgs s_Fold_least, defBody s_Fold_least, defScope s_Fold_least, [], []⟩
def d_Fold_back : He.DefD := ⟨("Fold", some "back"), "back", "Fold.back", defArgs s_Fold_back, defBody s_Fold_back, defScope s_Fold_back, [], []⟩
def d_Table_plain : He.DefD := ⟨("Table", some "plain"), "plain", "Table.plain", defArgs s_Table_plain, defBody s_Table_plain, defScope s_Table_plain, [], []⟩
def d_Body_cells : He.DefD := ⟨("Body", some "cells"), "cells", "Body.cells", defArgs s_Body_cells, defBody s_Body_cells, defScope s_Body_cells, [], []⟩
def d_Body_berths : He.DefD := ⟨("Body", some "berths"), "berths", "Body.berths", defArgs s_Body_berths, defBody s_Body_berths, defScope s_Body_berths, [], []⟩
def d_BodyU_lenU : He.DefD := ⟨("Body", some "__len__"), "__len__", "Body.__len__", defArgs s_BodyU_lenU, defBody s_BodyU_lenU, defScope s_BodyU_lenU, [], []⟩
def d_Body_paid : He.DefD := ⟨("Body", some "paid"), "paid", "Body.paid", defArgs s_Body_paid, defBody s_Body_paid, defScope s_Body_paid, [], []⟩
def d_Body_stored : He.DefD := ⟨("Body", some "stored"), "stored", "Body.stored", defArgs s_Body_stored, defBody s_Body_stored, defScope s_Body_stored, [], []⟩
def d_Body_names : He.DefD := ⟨("Body", some "names"), "names", "Body.names", defArgs s_Body_names, defBody s_Body_names, defScope s_Body_names, [], []⟩
def d_BodyU_reprU : He.DefD := ⟨("Body", some "__repr__"), "__repr__", "Body.__repr__", defArgs s_BodyU_reprU, defBody s_BodyU_reprU, defScope s_BodyU_reprU, [], []⟩
def d__law_blend : He.DefD := ⟨("_law_blend", none), "_law_blend", "_law_blend", defArgs s__law_blend, defBody s__law_blend, defScope s__law_blend, [], []⟩
def d__law_to : He.DefD := ⟨("_law_to", none), "_law_to", "_law_to", defArgs s__law_to, defBody s__law_to, defScope s__law_to, [], []⟩
def d__law_shelves : He.DefD := ⟨("_law_shelves", none), "_law_shelves", "_law_shelves", defArgs s__law_shelves, defBody s__law_shelves, defScope s__law_shelves, [], []⟩
def d_Body_need_stash : He.DefD := ⟨("Body", some "need_stash"), "need_stash", "Body.need_stash", defArgs s_Body_need_stash, defBody s_Body_need_stash, defScope s_Body_need_stash, [], []⟩
def d_Body_folding : He.DefD := ⟨("Body", some "folding"), "folding", "Body.folding", defArgs s_Body_folding, defBody s_Body_folding, defScope s_Body_folding, [], []⟩
def d_Body_shelf : He.DefD := ⟨("Body", some "shelf"), "shelf", "Body.shelf", defArgs s_Body_shelf, defBody s_Body_shelf, defScope s_Body_shelf, [], []⟩
def d__law_stands : He.DefD := ⟨("_law_stands", none), "_law_stands", "_law_stands", defArgs s__law_stands, defBody s__law_stands, defScope s__law_stands, [], []⟩
def d__law_choices : He.DefD := ⟨("_law_choices", none), "_law_choices", "_law_choices", defArgs s__law_choices, defBody s__law_choices, defScope s__law_choices, [], []⟩
def d__law_swings : He.DefD := ⟨("_law_swings", none), "_law_swings", "_law_swings", defArgs s__law_swings, defBody s__law_swings, defScope s__law_swings, [], []⟩
def d_Move_is_ready : He.DefD := ⟨("Move", some "is_ready"), "is_ready", "Move.is_ready", defArgs s_Move_is_ready, defBody s_Move_is_ready, defScope s_Move_is_ready, [], []⟩
def d_Body_ready : He.DefD := ⟨("Body", some "ready"), "ready", "Body.ready", defArgs s_Body_ready, defBody s_Body_ready, defScope s_Body_ready, [], []⟩
def d_Table_berth_now : He.DefD := ⟨("Table", some "berth_now"), "berth_now", "Table.berth_now", defArgs s_Table_berth_now, defBody s_Table_berth_now, defScope s_Table_berth_now, [], []⟩
def d_Body_held : He.DefD := ⟨("Body", some "held"), "held", "Body.held", defArgs s_Body_held, defBody s_Body_held, defScope s_Body_held, [], []⟩
def d__law_held_right : He.DefD := ⟨("_law_held_right", none), "_law_held_right", "_law_held_right", defArgs s__law_held_right, defBody s__law_held_right, defScope s__law_held_right, [], []⟩
def d_law : He.DefD := ⟨("law", none), "law", "law", defArgs s_law, defBody s_law, defScope s_law, [], []⟩
def fns1 : List He.DefD := [d__law_box, d__law_model, d__law_take, d__law_of, d__law_wide, d_BodyU_initU, d__law_cells, d__law_shuffled, d__law_numbers, d__law_lines, d__law_new_name, d__law_lay, d__law_deep, d_is_name, d_Body_need_new, d_digits_of, d_TableU_initU, d_Fold_many, d_blended, d_picked, d_Fold_to, d_laid, d_FoldU_initU, d_top_of, d_reduced, d_basis_of, d_Fold_onto, d_Body_need_spread, d_Body_lay, d__law_many, d__law_images, d__law_homes, d__law_same, d_Body_need, d_Fold_rows]
def fns2 : List He.DefD := [d_Move_told, d_Body_moving, d_Body_rows, d_Fold_size, d_Body_digits, d_traced, d_trail_to, d_Fold_kernel, d_Fold_least, d_Fold_back, d_Table_plain, d_Body_cells, d_Body_berths, d_BodyU_lenU, d_Body_paid, d_Body_stored, d_Body_names, d_BodyU_reprU, d__law_blend, d__law_to, d__law_shelves, d_Body_need_stash, d_Body_folding, d_Body_shelf, d__law_stands, d__law_choices, d__law_swings, d_Move_is_ready, d_Body_ready, d_Table_berth_now, d_Body_held, d__law_held_right, d_law, d_NoTableU_initU, d_NoStashU_initU]
def fns : List He.DefD := fns1 ++ fns2
def tfd : List He.Defn := []
def facl1 : List He.Fa := Hz.blFa ++ [.glo "_law_box", .glo "_law_take", .glo "_law_of", .glo "_law_wide", .glo "_law_model", .glo "BadSize", .exc "BadSize", .cls "Body", .noat "Body" "wide", .noat "Body" "tables", .noat "Body" "store", .noat "Body" "dues", .mkr "Body", .glo "Body", .glo "_law_deep", .glo "_law_cells", .glo "_law_numbers", .glo "_law_shuffled", .glo "_law_lines", .glo "_law_new_name", .glo "_law_lay", .str "SMALL" "abcdefghijklmnopqrstuvwxyz", .glo "is_name", .glo "BadName", .exc "BadName", .glo "Taken", .exc "Taken", .int "MOST_TABLES" 6, .glo "Full", .exc "Full", .meth "Body" "need_new", .glo "BadCells", .exc "BadCells", .glo "digits_of", .int "MOST" 1000000000, .glo "BadRows", .exc "BadRows", .int "MOST_DIGITS" 12, .glo "BadFold", .exc "BadFold", .cls "Fold", .noat "Fold" "lines", .noat "Fold" "wide", .mkr "Fold", .glo "Fold", .glo "top_of", .glo "reduced", .glo "basis_of", .meth "Fold" "onto", .meth "Body" "need_spread", .cls "Table", .noat "Table" "spread", .noat "Table" "grip", .noat "Table" "move", .mkr "Table", .glo "Table", .meth "Fold" "many", .glo "BadNumber", .exc "BadNumber", .glo "blended", .glo "picked"]
def facl2 : List He.Fa := [.meth "Fold" "to", .glo "laid", .meth "Body" "lay", .glo "_law_many", .glo "_law_images", .glo "_law_homes", .glo "FoldError", .glo "NoTable", .meth "Body" "need", .cls "Move", .noat "Move" "left", .noat "Move" "done", .meth "Fold" "rows", .noat "Move" "aim", .meth "Move" "told", .meth "Body" "moving", .meth "Body" "rows", .meth "Fold" "size", .meth "Body" "digits", .glo "_law_same", .glo "NotOnto", .exc "NotOnto", .glo "traced", .glo "trail_to", .meth "Fold" "kernel", .meth "Fold" "least", .meth "Fold" "back", .meth "Table" "plain", .meth "Body" "cells", .glo "NoCell", .exc "NoCell", .meth "Body" "berths", .meth "Body" "__len__", .meth "Body" "paid", .meth "Body" "stored", .meth "Body" "names", .meth "Body" "__repr__", .glo "_law_blend", .glo "_law_to", .glo "_law_shelves", .glo "NoStash", .meth "Body" "need_stash", .meth "Body" "folding", .glo "NoBank", .exc "NoBank", .meth "Body" "shelf", .glo "_law_stands", .glo "_law_choices", .glo "_law_swings", .glo "NotMoving", .exc "NotMoving", .noat "Move" "swings", .meth "Move" "is_ready", .meth "Body" "ready", .glo "NoBerth", .exc "NoBerth", .noat "Move" "springs", .meth "Table" "berth_now", .meth "Body" "held", .glo "_law_held_right", .glo "law"]
def facl : List He.Fa := facl1 ++ facl2
def exs1 : List (PySem.W.Frag → Bool) := [fun K => Hz.basB K (He.ga K "FoldError"), fun K => Hz.xmB K "NoTable" "name", fun K => Hz.oexB K (He.ga K "NoTable")]
def exs2 : List (PySem.W.Frag → Bool) := [fun K => Hz.xmB K "NoStash" "name", fun K => Hz.oexB K (He.ga K "NoStash")]
def exs : List (PySem.W.Frag → Bool) := exs1 ++ exs2
def ex (K : PySem.W.Frag) : Bool := exs.all fun f => f K
abbrev R : PySem.W.OpenRow := PySem.W.OpenLaw.row PySem.Challenge.rw_foldberth_k29_tables_laid
def asl0 : List Addr := [3, 6, 4, 21, 31, 44, 56, 68, 80, 92, 104, 116, 128, 140, 152, 164, 176, 188, 200, 219, 238, 257, 267, 274, 281, 286, 293, 298, 305, 312]
def asl1 : List Addr := [432, 443, 450, 455, 462, 493, 527, 536, 543, 548, 553, 560, 806, 817, 824, 831, 836, 843, 850, 855, 860, 865, 872, 877, 882, 889, 896, 903, 908, 913]
def asl2 : List Addr := [920, 927, 934, 939, 944, 949, 956, 0, 20, 30, 43, 55, 67, 79, 91, 103, 115, 127, 139, 151, 163, 175, 187, 199, 218, 237, 256, 266, 260, 273]
def asl3 : List Addr := [280, 285, 292, 297, 304, 311, 431, 442, 449, 454, 461, 492, 526, 535, 542, 547, 552, 559, 805, 816, 823, 830, 835, 842, 849, 854, 859, 864, 871, 876]
def asl4 : List Addr := [881, 888, 895, 902, 907, 912, 919, 926, 933, 938, 943, 948, 955, 15, 16, 17, 18, 19, 29, 32, 42, 54, 66, 78, 90, 102, 114, 126, 138, 150]
def asl5 : List Addr := [162, 174, 186, 198, 216, 217, 235, 236, 254, 255, 261, 262, 263, 264, 265, 268, 269, 270, 271, 272, 275, 276, 277, 278, 279, 282, 283, 284, 287, 288]
def asl6 : List Addr := [289, 290, 291, 294, 295, 296, 299, 300, 301, 302, 303, 306, 307, 308, 309, 310, 326, 333, 340, 347, 354, 361, 368, 375, 382, 389, 396, 403, 410, 417]
def asl7 : List Addr := [424, 429, 430, 433, 434, 437, 438, 439, 440, 441, 444, 445, 446, 447, 448, 451, 452, 453, 456, 457, 458, 459, 460, 476, 483, 490, 491, 494, 495, 512]
def asl8 : List Addr := [517, 524, 525, 528, 529, 532, 533, 534, 537, 538, 539, 540, 541, 544, 545, 546, 549, 550, 551, 554, 555, 556, 557, 558, 575, 582, 589, 596, 603, 610]
def asl9 : List Addr := [617, 622, 629, 636, 641, 648, 655, 662, 669, 676, 683, 690, 698, 703, 711, 718, 725, 732, 739, 746, 753, 760, 765, 772, 777, 784, 791, 796, 803, 804]
def asl10 : List Addr := [807, 808, 811, 812, 813, 814, 815, 818, 819, 820, 821, 822, 825, 826, 827, 828, 829, 832, 833, 834, 837, 838, 839, 840, 841, 844, 845, 846, 847, 848]
def asl11 : List Addr := [851, 852, 853, 856, 857, 858, 861, 862, 863, 866, 867, 868, 869, 870, 873, 874, 875, 878, 879, 880, 883, 884, 885, 886, 887, 890, 891, 892, 893, 894]
def asl12 : List Addr := [897, 898, 899, 900, 901, 904, 905, 906, 909, 910, 911, 914, 915, 916, 917, 918, 921, 922, 923, 924, 925, 928, 929, 930, 931, 932, 935, 936, 937, 940]
def asl13 : List Addr := [941, 942, 945, 946, 947, 950, 951, 952, 953, 954, 215, 234, 253, 325, 332, 339, 346, 353, 360, 367, 374, 381, 388, 395, 402, 409, 416, 423, 428, 475]
def asl14 : List Addr := [482, 489, 511, 505, 516, 523, 574, 568, 581, 588, 595, 602, 609, 616, 621, 628, 635, 640, 647, 654, 661, 668, 675, 682, 689, 697, 691, 702, 710, 704]
def asl15 : List Addr := [717, 724, 731, 738, 745, 752, 759, 764, 771, 776, 783, 790, 795, 802, 210, 211, 212, 213, 214, 229, 230, 231, 232, 233, 248, 249, 250, 251, 252, 320]
def asl16 : List Addr := [321, 322, 323, 324, 327, 328, 329, 330, 331, 334, 335, 336, 337, 338, 341, 342, 343, 344, 345, 348, 349, 350, 351, 352, 355, 356, 357, 358, 359, 362]
def asl17 : List Addr := [363, 364, 365, 366, 369, 370, 371, 372, 373, 376, 377, 378, 379, 380, 383, 384, 385, 386, 387, 390, 391, 392, 393, 394, 397, 398, 399, 400, 401, 404]
def asl18 : List Addr := [405, 406, 407, 408, 411, 412, 413, 414, 415, 418, 419, 420, 421, 422, 425, 426, 427, 470, 471, 472, 473, 474, 477, 478, 479, 480, 481, 484, 485, 486]
def asl19 : List Addr := [487, 488, 506, 507, 508, 509, 510, 513, 514, 515, 518, 519, 520, 521, 522, 569, 570, 571, 572, 573, 576, 577, 578, 579, 580, 583, 584, 585, 586, 587]
def asl20 : List Addr := [590, 591, 592, 593, 594, 597, 598, 599, 600, 601, 604, 605, 606, 607, 608, 611, 612, 613, 614, 615, 618, 619, 620, 623, 624, 625, 626, 627, 630, 631]
def asl21 : List Addr := [632, 633, 634, 637, 638, 639, 642, 643, 644, 645, 646, 649, 650, 651, 652, 653, 656, 657, 658, 659, 660, 663, 664, 665, 666, 667, 670, 671, 672, 673]
def asl22 : List Addr := [674, 677, 678, 679, 680, 681, 684, 685, 686, 687, 688, 692, 693, 694, 695, 696, 699, 700, 701, 705, 706, 707, 708, 709, 712, 713, 714, 715, 716, 719]
def asl23 : List Addr := [720, 721, 722, 723, 726, 727, 728, 729, 730, 733, 734, 735, 736, 737, 740, 741, 742, 743, 744, 747, 748, 749, 750, 751, 754, 755, 756, 757, 758, 761]
def asl24 : List Addr := [762, 763, 766, 767, 768, 769, 770, 773, 774, 775, 778, 779, 780, 781, 782, 785, 786, 787, 788, 789, 792, 793, 794, 797, 798, 799, 800, 801]
def asl : List Addr := cStatics :: (asl0 ++ asl1 ++ asl2 ++ asl3 ++ asl4 ++ asl5 ++ asl6 ++ asl7 ++ asl8 ++ asl9 ++ asl10 ++ asl11 ++ asl12 ++ asl13 ++ asl14 ++ asl15 ++ asl16 ++ asl17 ++ asl18 ++ asl19 ++ asl20 ++ asl21 ++ asl22 ++ asl23 ++ asl24)
abbrev hk : PySem.W.Hook := Hz.hookZ asl facl fns [] tfd ex
def ob (s : PySem.W.SharedT) : He.AlX := Hz.obsZ asl facl fns [] tfd ex (HandSHeadRun.getT s)
theorem ob_eq (s : PySem.W.SharedT) : ob s = hk.obs s.abs := Hz.obsZ_eq (HandSHeadRun.getT_eq s)
def loose0 : List Str := ["_wall", "FoldError", "BadNumber", "BadFold", "NotOnto", "BadSize", "NoBerth", "NoCell", "NoBank", "BadName", "Taken", "Full", "NotMoving", "BadRows", "BadCells", "BadBanks", "NoTable", "Moving", "NoStash", "MOST_DIGITS", "need_numbers", "top_of", "blended", "picked", "reduced", "basis_of", "traced", "trail_to", "Fold", "need_lanes"]
def loose1 : List Str := ["BANKS", "walk", "turns_of", "turns", "Move", "Table", "laid", "beaten", "settled", "SMALL", "is_name", "MOST", "MOST_TABLES", "MOST_STASHES", "digits_of", "Body", "_law_box", "_law_take", "_law_of", "_law_same", "_law_shuffled", "_law_blend", "_law_to", "_law_numbers", "_law_images", "_law_homes", "_law_choices", "_law_swings", "_law_model", "_law_deep"]
def loose2 : List Str := ["_law_many", "_law_cells", "_law_lines", "_law_wide", "_law_new_name", "_law_lay", "_law_shelves", "_law_stands", "_law_held_right"]
def loose : List Str := loose0 ++ loose1 ++ loose2
def ex1 (K : PySem.W.Frag) : Bool := exs1.all fun f => f K
def ex2 (K : PySem.W.Frag) : Bool := exs2.all fun f => f K
def ob1 (s : PySem.W.SharedT) : He.AlX := Hz.obsZ asl facl1 fns1 [] [] ex1 (HandSHeadRun.getT s)
def ob2 (s : PySem.W.SharedT) : He.AlX := Hz.obsZ asl facl2 fns2 [] tfd ex2 (HandSHeadRun.getT s)
set_option maxHeartbeats 0 in
theorem run1 (w : World) (os : OsState) : (HandSHeadRun.endF (HandSHeadRun.stepQ (HandSHeadRun.denQ HandSHeadRun.tabQ) R.prog w) 20000 R.prog w os).map (fun s => HandSHeadRun.looksF R.prog (PySem.W.boot_heap w.params) s.abs) = some true := by
  kernel_rfl
set_option maxHeartbeats 0 in
theorem run2 (w : World) (os : OsState) : (HandSHeadRun.endF (HandSHeadRun.stepQ (HandSHeadRun.denQ HandSHeadRun.tabQ) R.prog w) 20000 R.prog w os).map (fun s => HandSHeadRun.seenQ (PySem.W.view R.prog [78]) loose (importedModules R.prog.main.body) (fun s => PySem.W.xlAt (PySem.W.view R.prog [78]) [] s && PySem.W.recOk R.toRowW.records s) s.abs) = some (PySem.W.openGood (PySem.W.view R.prog [78]) loose) := by
  kernel_rfl
set_option maxHeartbeats 0 in
theorem run3 (w : World) (os : OsState) : (HandSHeadRun.endF (HandSHeadRun.stepQ (HandSHeadRun.denQ HandSHeadRun.tabQ) R.prog w) 20000 R.prog w os).map ob1 = some (He.valX fns1 [] w) := by
  kernel_rfl
set_option maxHeartbeats 0 in
theorem run4 (w : World) (os : OsState) : (HandSHeadRun.endF (HandSHeadRun.stepQ (HandSHeadRun.denQ HandSHeadRun.tabQ) R.prog w) 20000 R.prog w os).map ob2 = some (He.valX fns2 [] w) := by
  kernel_rfl
theorem run (w : World) : HandSHeadRun.RunEq R (PySem.W.view R.prog [78]) hk ob 20000 loose w := Hz.runEq_four (run1 w) (run2 w) (run3 w) (run4 w) fun s a b => Hz.obsZ_two (fun K => by
  show (exs1 ++ exs2).all _ = _
  rw [List.all_append]
  rfl) a b
end K29
namespace Mm
open PySem L2
inductive D where
  | non | bl (b : Bool) | int (i : Int) | str (x : Str)
  | lst (xs : List D) | tup (xs : List D) | ins (c : Str) (fs : List (Str × D)) | ref (n : Nat) | scr (ns : List Int) | ty (n : String) | cls (c : Str)
  | adr (a : Addr) | set (xs : List Int) | dic (ks : List (Key × D)) | tdc (ks : List (List Key × Int)) | tds (ks : List (List Int)) | any
inductive Cell where
  | lst (xs : List D) | ins (c : Str) (fs : List (Str × D)) | dic (ks : List (Key × D)) | tdc (ks : List (List Key × Int)) | lck (ks : List (Key × D)) | mem (ks : List ((List Int × List Int) × Int)) | lkl (ds : List D)
def tsV (ks : List (List Int)) : List (List Key × V) := ks.map fun k => (k.map Sum.inl, .bl true)
def tdV (ks : List (List Key × Int)) : List (List Key × V) := ks.map fun kv => (kv.1, .int kv.2)
def Cell.d : Cell → D
  | .lst xs => .lst xs
  | .ins c fs => .ins c fs
  | .dic ks => .dic ks
  | .tdc ks => .tdc ks
  | .lck ks => .dic ks
  | .mem _ => .any
  | .lkl _ => .any
inductive Sl where
  | no | v (d : D) | o (c : Cell)
abbrev Sto := List Cell
abbrev Envr := List Sl
inductive R (α : Type) where
  | stuck | exc (c : Str) (p : Option D) (s : Sto) | ok (a : α) (s : Sto)
inductive Ret where
  | val (d : D) | own (c : Cell)
def Ret.d : Ret → D
  | .val d => d
  | .own c => c.d
inductive Out where
  | stuck | nx (e : Envr) (s : Sto) | rt (r : Ret) (s : Sto) | bk (e : Envr) (s : Sto) | ct (e : Envr) (s : Sto) | exc (c : Str) (p : Option D) (e : Envr) (s : Sto)
structure Gam where
  K : PySem.W.Frag
  ca : Str → Addr
  T : List (Addr × Str)
structure Wd where
  rho : List Addr
  G : Hp
def TupR (K : PySem.W.Frag) (H : Hp) (a : Addr) (vs : List V) : Prop := (H a = some (.tup vs) ∨ False) ∨ (SqT K H a vs ∧ ∃ x r, vs = V.str x :: r)
theorem TupR.sq {K : PySem.W.Frag} {H : Hp} {a : Addr} {vs : List V} (h : TupR K H a vs) : SqT K H a vs := by
  rcases h with (h | h) | h
  · exact .inl (.inl h)
  · exact h.elim
  · exact h.1
mutual
def Rep (g : Gam) (w : Wd) : D → V → Prop
  | .non, v => v = .non
  | .bl b, v => v = .bl b
  | .int i, v => v = .int i
  | .str x, v => v = .str x
  | .lst ds, v => ∃ a vs, v = .ref a ∧ w.G a = some (.lst vs) ∧ RepL g w ds vs
  | .tup ds, v => ∃ a vs, v = .ref a ∧ TupR g.K w.G a vs ∧ RepL g w ds vs
  | .ins c fs, v => ∃ a dx gs, v = .ref a ∧ w.G a = some (.ins (g.ca c) dx gs) ∧ RepF g w fs gs
  | .ref n, v => ∃ a, w.rho[n]? = some a ∧ v = .ref a
  | .scr ns, v => ∃ a, v = .ref a ∧ SqL g.K w.G a (ns.map V.int)
  | .ty n, v => v = .ty n
  | .cls c, v => v = .ref (g.ca c)
  | .adr a, v => v = .ref a
  | .set xs, v => ∃ a S, v = .ref a ∧ w.G a = some (.set S xs.length) ∧ xs.Nodup ∧ ∀ i, S i = decide (i ∈ xs)
  | .dic ks, v => ∃ a vs, v = .ref a ∧ Rd w.G a (.dK vs) ∧ RepK g w ks vs
  | .tdc ks, v => ∃ a, v = .ref a ∧ w.G a = some (.dT (tdV ks))
  | .tds ks, v => ∃ a, v = .ref a ∧ w.G a = some (.dT (tsV ks))
  | .any, v => ∃ a, v = .ref a
def RepL (g : Gam) (w : Wd) : List D → List V → Prop
  | [], vs => vs = []
  | d :: ds, vs => ∃ v r, vs = v :: r ∧ Rep g w d v ∧ RepL g w ds r
def RepF (g : Gam) (w : Wd) : List (Str × D) → List (Str × V) → Prop
  | [], gs => gs = []
  | (f, d) :: fs, gs => ∃ v r, gs = (f, v) :: r ∧ Rep g w d v ∧ RepF g w fs r
def RepK (g : Gam) (w : Wd) : List (Key × D) → List (Key × V) → Prop
  | [], gs => gs = []
  | (f, d) :: fs, gs => ∃ v r, gs = (f, v) :: r ∧ Rep g w d v ∧ RepK g w fs r
end
structure Wd.le (w w' : Wd) : Prop where
  pre : ∃ t, w'.rho = w.rho ++ t
  ex : Same w.G w'.G
theorem Wd.le.refl (w : Wd) : w.le w := ⟨⟨[], by simp⟩, Same.refl _⟩
theorem Wd.le.trans {a b c : Wd} (x : a.le b) (y : b.le c) : a.le c := by
  obtain ⟨t, e⟩ := x.pre
  obtain ⟨u, e'⟩ := y.pre
  exact ⟨⟨t ++ u, by rw [e', e, List.append_assoc]⟩, x.ex.trans y.ex⟩
theorem Wd.le.get {a b : Wd} (x : a.le b) {n : Nat} {p : Addr} (h : a.rho[n]? = some p) : b.rho[n]? = some p := by
  obtain ⟨t, e⟩ := x.pre
  rw [e, List.getElem?_append_left (List.getElem?_eq_some_iff.mp h).1]
  exact h
theorem same_rd {H H' : Hp} {a : Addr} {u : HO} (e : Same H H') (h : Rd H a u) : Rd H' a u := by
  rcases h with h | ⟨o, h⟩
  · exact .inl (e _ _ h)
  · exact .inr ⟨o, e _ _ h⟩
theorem same_sqT {K : PySem.W.Frag} {H H' : Hp} {a : Addr} {xs : List V} (e : Same H H') (h : SqT K H a xs) : SqT K H' a xs := by
  rcases h with (h | ⟨o, h⟩) | h
  · exact .inl (.inl (e _ _ h))
  · exact .inl (.inr ⟨o, e _ _ h⟩)
  · exact .inr h
theorem TupR.same {K : PySem.W.Frag} {H H' : Hp} {a : Addr} {xs : List V} (e : Same H H') (h : TupR K H a xs) : TupR K H' a xs := by
  rcases h with (h | h) | h
  · exact .inl (.inl (e _ _ h))
  · exact h.elim
  · exact .inr ⟨same_sqT e h.1, h.2⟩
mutual
theorem Rep.mono {g : Gam} {w w' : Wd} (l : w.le w') : ∀ {d : D} {v : V}, Rep g w d v → Rep g w' d v
  | .non, _, h => h
  | .bl _, _, h => h
  | .int _, _, h => h
  | .str _, _, h => h
  | .lst ds, v, h => by
    unfold Rep at h ⊢
    obtain ⟨a, vs, e, q, r⟩ := h
    exact ⟨a, vs, e, l.ex _ _ q, RepL.mono l r⟩
  | .tup ds, v, h => by
    unfold Rep at h ⊢
    obtain ⟨a, vs, e, q, r⟩ := h
    exact ⟨a, vs, e, q.same l.ex, RepL.mono l r⟩
  | .ins c fs, v, h => by
    unfold Rep at h ⊢
    obtain ⟨a, dx, gs, e, q, r⟩ := h
    exact ⟨a, dx, gs, e, l.ex _ _ q, RepF.mono l r⟩
  | .ref n, v, h => by
    unfold Rep at h ⊢
    obtain ⟨a, e, q⟩ := h
    exact ⟨a, l.get e, q⟩
  | .scr ns, v, h => by
    unfold Rep at h ⊢
    obtain ⟨a, e, q⟩ := h
    exact ⟨a, e, l.ex.seq q⟩
  | .ty _, _, h => h
  | .cls _, _, h => h
  | .adr _, _, h => h
  | .set xs, v, h => by
    unfold Rep at h ⊢
    obtain ⟨a, q, e, r, s⟩ := h
    exact ⟨a, q, e, l.ex _ _ r, s⟩
  | .dic ds, v, h => by
    unfold Rep at h ⊢
    obtain ⟨a, vs, e, q, r⟩ := h
    exact ⟨a, vs, e, same_rd l.ex q, RepK.mono l r⟩
  | .tdc ks, v, h => by
    unfold Rep at h ⊢
    obtain ⟨a, e, q⟩ := h
    exact ⟨a, e, l.ex _ _ q⟩
  | .tds ks, v, h => by
    unfold Rep at h ⊢
    obtain ⟨a, e, q⟩ := h
    exact ⟨a, e, l.ex _ _ q⟩
  | .any, v, h => by
    unfold Rep at h ⊢
    exact h
theorem RepL.mono {g : Gam} {w w' : Wd} (l : w.le w') : ∀ {ds : List D} {vs : List V}, RepL g w ds vs → RepL g w' ds vs
  | [], _, h => h
  | d :: ds, vs, h => by
    unfold RepL at h ⊢
    obtain ⟨v, r, e, a, b⟩ := h
    exact ⟨v, r, e, Rep.mono l a, RepL.mono l b⟩
theorem RepF.mono {g : Gam} {w w' : Wd} (l : w.le w') : ∀ {ds : List (Str × D)} {vs : List (Str × V)}, RepF g w ds vs → RepF g w' ds vs
  | [], _, h => h
  | (f, d) :: ds, vs, h => by
    unfold RepF at h ⊢
    obtain ⟨v, r, e, a, b⟩ := h
    exact ⟨v, r, e, Rep.mono l a, RepF.mono l b⟩
theorem RepK.mono {g : Gam} {w w' : Wd} (l : w.le w') : ∀ {ds : List (Key × D)} {vs : List (Key × V)}, RepK g w ds vs → RepK g w' ds vs
  | [], _, h => h
  | (f, d) :: ds, vs, h => by
    unfold RepK at h ⊢
    obtain ⟨v, r, e, a, b⟩ := h
    exact ⟨v, r, e, Rep.mono l a, RepK.mono l b⟩
end
theorem RepL.nil_ {g : Gam} {w : Wd} : RepL g w [] [] := by unfold RepL; rfl
theorem RepL.cons_ {g : Gam} {w : Wd} {d : D} {ds : List D} {v : V} {vs : List V} (a : Rep g w d v) (b : RepL g w ds vs) : RepL g w (d :: ds) (v :: vs) := by
  unfold RepL
  exact ⟨v, vs, rfl, a, b⟩
theorem RepL.len {g : Gam} {w : Wd} : ∀ {ds : List D} {vs : List V}, RepL g w ds vs → ds.length = vs.length
  | [], vs, h => by
    unfold RepL at h
    rw [h]
    rfl
  | d :: ds, vs, h => by
    unfold RepL at h
    obtain ⟨v, r, e, a, b⟩ := h
    rw [e, List.length_cons, List.length_cons, RepL.len b]
theorem RepL.append_ {g : Gam} {w : Wd} : ∀ {ds es : List D} {vs us : List V}, RepL g w ds vs → RepL g w es us → RepL g w (ds ++ es) (vs ++ us)
  | [], es, vs, us, h, k => by
    unfold RepL at h
    rw [h]
    exact k
  | d :: ds, es, vs, us, h, k => by
    unfold RepL at h
    obtain ⟨v, r, e, a, b⟩ := h
    rw [e]
    exact RepL.cons_ a (RepL.append_ b k)
theorem RepL.at_ {g : Gam} {w : Wd} : ∀ {ds : List D} {vs : List V} {i : Nat} {d : D}, RepL g w ds vs → ds[i]? = some d → ∃ v, vs[i]? = some v ∧ Rep g w d v
  | [], _, _, _, _, e => by simp at e
  | d :: ds, vs, 0, d', h, e => by
    unfold RepL at h
    obtain ⟨v, r, e1, a, b⟩ := h
    have e2 : d = d' := by simpa using e
    rw [e1, ← e2]
    exact ⟨v, rfl, a⟩
  | d :: ds, vs, i + 1, d', h, e => by
    unfold RepL at h
    obtain ⟨v, r, e1, a, b⟩ := h
    rw [e1]
    exact RepL.at_ (i := i) b (by simpa using e)
theorem RepL.drop_ {g : Gam} {w : Wd} : ∀ {ds : List D} {vs : List V} (n : Nat), RepL g w ds vs → RepL g w (ds.drop n) (vs.drop n)
  | _, _, 0, h => h
  | [], vs, n + 1, h => by
    unfold RepL at h
    rw [h]
    exact RepL.nil_
  | d :: ds, vs, n + 1, h => by
    unfold RepL at h
    obtain ⟨v, r, e, a, b⟩ := h
    rw [e]
    exact RepL.drop_ n b
theorem RepL.take_ {g : Gam} {w : Wd} : ∀ {ds : List D} {vs : List V} (n : Nat), RepL g w ds vs → RepL g w (ds.take n) (vs.take n)
  | _, _, 0, h => RepL.nil_
  | [], vs, n + 1, h => by
    unfold RepL at h
    rw [h]
    exact RepL.nil_
  | d :: ds, vs, n + 1, h => by
    unfold RepL at h
    obtain ⟨v, r, e, a, b⟩ := h
    rw [e]
    exact RepL.cons_ a (RepL.take_ n b)
theorem RepL.set_ {g : Gam} {w : Wd} {d : D} {v : V} (q : Rep g w d v) : ∀ {ds : List D} {vs : List V} (n : Nat), RepL g w ds vs → RepL g w (ds.set n d) (vs.set n v)
  | [], vs, n, h => by
    unfold RepL at h
    rw [h]
    exact RepL.nil_
  | e :: ds, vs, 0, h => by
    unfold RepL at h
    obtain ⟨u, r, e1, a, b⟩ := h
    rw [e1]
    exact RepL.cons_ q b
  | e :: ds, vs, n + 1, h => by
    unfold RepL at h
    obtain ⟨u, r, e1, a, b⟩ := h
    rw [e1]
    exact RepL.cons_ a (RepL.set_ q n b)
theorem RepL.ints {g : Gam} {w : Wd} : ∀ (ns : List Int), RepL g w (ns.map D.int) (ns.map V.int)
  | [] => RepL.nil_
  | n :: ns => RepL.cons_ (by unfold Rep; rfl) (RepL.ints ns)
def nKey (A B : List Int) : NestedKey := .tup [.tup (A.map .num), .tup (B.map .num)]
def MemX (g : Gam) (w : Wd) : List ((List Int × List Int) × Int) → List (NestedKey × Addr × Value) → Prop
  | [], xs => xs = []
  | ((A, B), z) :: ks, xs => ∃ t tok r, (xs = (nKey A B, t, .int z tok) :: r ∧ ∀ kz ∈ ks, kz.1 ≠ (A, B)) ∧ Rep g w (.tup [.tup (A.map .int), .tup (B.map .int)]) (.ref t) ∧ MemX g w ks r
theorem MemX.mono {g : Gam} {w w' : Wd} (l : w.le w') : ∀ {ks : List ((List Int × List Int) × Int)} {xs : List (NestedKey × Addr × Value)}, MemX g w ks xs → MemX g w' ks xs
  | [], _, h => h
  | ((A, B), z) :: ks, xs, h => by
    obtain ⟨t, tok, r, e, q, m⟩ := h
    exact ⟨t, tok, r, e, q.mono l, m.mono l⟩
def NoMem (φ : Heap → Prop) : Prop := ∀ (a : Addr) (o : Obj) (es : Array DictEntry) (ep : Nat), o.data = .dict es ep → φ ≠ fun h => h.get? a = some o
theorem noMem_of {φ : Heap → Prop} (h : ∀ hp, φ hp → ∃ b oc, hp.get? b = some oc ∧ ∀ es ep, oc.data ≠ .dict es ep) : NoMem φ := fun a o es ep hd e => by
  have gt : ∀ (b : Addr) (oc : Obj), (Heap.mk (Array.replicate (a + 1) o) {}).get? b = some oc → oc = o := fun b oc q => by
    unfold Heap.get? at q
    have at_ : ∀ x, (Array.replicate (a + 1) o)[b]? = some x → x = o := fun x hx => by
      obtain ⟨i, rfl⟩ := Array.getElem?_eq_some_iff.mp hx
      simp
    split at q
    · cases q
    · exact at_ _ q
  have ga : (Heap.mk (Array.replicate (a + 1) o) {}).get? a = some o := by
    have q : (Array.replicate (a + 1) o)[a]? = some o := by simp
    unfold Heap.get?
    split
    · rename_i c d s hx
      have hx : (Array.replicate (a + 1) o)[a]? = some _ := hx
      rw [q] at hx
      cases hx
      cases hd
    · exact q
  obtain ⟨b, oc, q1, q2⟩ := h (Heap.mk (Array.replicate (a + 1) o) {}) (by rw [e]; exact ga)
  have := gt b oc q1
  subst this
  exact q2 es ep hd
theorem noMem_code (c : Addr) (q : Str) {φ : Heap → Prop} (e : LamX.CodeO c q = .ext φ) : NoMem φ := by
  cases e
  refine noMem_of fun hp h => ?_
  obtain ⟨oc, vs, t, h1, h2, _⟩ := h
  exact ⟨c, oc, h1, fun es ep z => by rw [h2] at z; cases z⟩
def CellR (g : Gam) (w : Wd) (H : Hp) (a : Addr) : Cell → Prop
  | .mem ks => ∃ o es ep xs, H a = some (.ext fun h => h.get? a = some o) ∧ o.ExactDict ∧ o.data = .dict es ep ∧ (a == sysModules) = false ∧ (∀ (P : Program) (w' : World), es.toList = xs.map (entryOfKey (nestedKind P w'))) ∧ MemX g w ks xs
  | .lst ds => ∃ vs, H a = some (.lst vs) ∧ RepL g w ds vs
  | .ins c fs => ∃ dx gs, H a = some (.ins (g.ca c) dx gs) ∧ RepF g w fs gs
  | .dic ks => ∃ gs, H a = some (.dK gs) ∧ RepK g w ks gs
  | .tdc ks => H a = some (.dT (tdV ks))
  | .lck ks => ∃ o gs, H a = some (.frz o (.dK gs)) ∧ RepK g w ks gs
  | .lkl ds => ∃ o vs, H a = some (.frz o (.lst vs)) ∧ RepL g w ds vs
theorem CellR.some_ {g : Gam} {w : Wd} {H : Hp} {a : Addr} {c : Cell} (h : CellR g w H a c) : ∃ o, H a = some o ∧ ∀ ps, o ≠ .tbl ps := by
  cases c with
  | lst ds =>
    obtain ⟨vs, e, _⟩ := h
    exact ⟨_, e, fun ps z => by cases z⟩
  | ins c fs =>
    obtain ⟨dx, gs, e, _⟩ := h
    exact ⟨_, e, fun ps z => by cases z⟩
  | dic ks =>
    obtain ⟨gs, e, _⟩ := h
    exact ⟨_, e, fun ps z => by cases z⟩
  | tdc ks => exact ⟨_, h, fun ps z => by cases z⟩
  | lck ks =>
    obtain ⟨o, gs, e, _⟩ := h
    exact ⟨_, e, fun ps z => by cases z⟩
  | mem ks =>
    obtain ⟨o, es, ep, xs, e, _⟩ := h
    exact ⟨_, e, fun ps z => by cases z⟩
  | lkl ds =>
    obtain ⟨o, gs, e, _⟩ := h
    exact ⟨_, e, fun ps z => by cases z⟩
def Cell.fr : Cell → Prop
  | .lck _ => False
  | .lkl _ => False
  | _ => True
theorem CellR.nofrz {g : Gam} {w : Wd} {H : Hp} {a : Addr} {c : Cell} (h : CellR g w H a c) (hc : c.fr) (o : Obj) (u : HO) : H a ≠ some (.frz o u) := fun z => by
  cases c with
  | lst ds =>
    obtain ⟨vs, e, _⟩ := h
    rw [e] at z
    cases z
  | ins c fs =>
    obtain ⟨dx, gs, e, _⟩ := h
    rw [e] at z
    cases z
  | dic ks =>
    obtain ⟨gs, e, _⟩ := h
    rw [e] at z
    cases z
  | tdc ks =>
    have h : H a = some (.dT (tdV ks)) := h
    rw [h] at z
    cases z
  | lck ks => exact hc
  | lkl ks => exact hc
  | mem ks =>
    obtain ⟨o, es, ep, xs, e, _⟩ := h
    rw [e] at z
    cases z
theorem CellR.noext {g : Gam} {w : Wd} {H : Hp} {a : Addr} {c : Cell} (h : CellR g w H a c) (φ : Heap → Prop) (nm : NoMem φ) : H a ≠ some (.ext φ) := fun z => by
  cases c with
  | lst ds =>
    obtain ⟨vs, e, _⟩ := h
    rw [e] at z
    cases z
  | ins c fs =>
    obtain ⟨dx, gs, e, _⟩ := h
    rw [e] at z
    cases z
  | dic ks =>
    obtain ⟨gs, e, _⟩ := h
    rw [e] at z
    cases z
  | tdc ks =>
    have h : H a = some (.dT (tdV ks)) := h
    rw [h] at z
    cases z
  | lck ks =>
    obtain ⟨o, gs, e, _⟩ := h
    rw [e] at z
    cases z
  | mem ks =>
    obtain ⟨o, es, ep, xs, e, _, hd, _⟩ := h
    rw [e] at z
    cases z
    exact nm a o es ep hd rfl
  | lkl ds =>
    obtain ⟨o, gs, e, _⟩ := h
    rw [e] at z
    cases z
theorem tabs_upd {T : List (Addr × Str)} {H : Hp} {p : Addr} {o : HO} (t : LamX.Tabs T H) (h1 : ∀ ps, H p ≠ some (.tbl ps)) (h2 : ∀ φ, NoMem φ → H p ≠ some (.ext φ)) : LamX.Tabs T (upd H p o) := fun x hx => by
  obtain ⟨ps, a, b, c⟩ := t x hx
  refine ⟨ps, by rw [upd_ne (fun z => h1 ps (by rw [← z]; exact a))]; exact a, b, fun pos cv e => ?_⟩
  obtain ⟨c0, e1, e2⟩ := c pos cv e
  exact ⟨c0, e1, by rw [upd_ne (fun z => h2 _ (noMem_code _ _ rfl) (by rw [← z]; exact e2))]; exact e2⟩
theorem CellR.move {g : Gam} {w w' : Wd} {H H' : Hp} {a : Addr} {c : Cell} (h : CellR g w H a c) (l : w.le w') (e : H' a = H a) : CellR g w' H' a c := by
  cases c with
  | lst ds =>
    obtain ⟨vs, e1, r⟩ := h
    exact ⟨vs, e.trans e1, r.mono l⟩
  | ins c fs =>
    obtain ⟨dx, gs, e1, r⟩ := h
    exact ⟨dx, gs, e.trans e1, r.mono l⟩
  | dic ks =>
    obtain ⟨gs, e1, r⟩ := h
    exact ⟨gs, e.trans e1, r.mono l⟩
  | tdc ks => exact e.trans h
  | lck ks =>
    obtain ⟨o, gs, e1, r⟩ := h
    exact ⟨o, gs, e.trans e1, r.mono l⟩
  | mem ks =>
    obtain ⟨o, es, ep, xs, e1, h1, h2, h3, h4, h5⟩ := h
    exact ⟨o, es, ep, xs, e.trans e1, h1, h2, h3, h4, h5.mono l⟩
  | lkl ds =>
    obtain ⟨o, gs, e1, r⟩ := h
    exact ⟨o, gs, e.trans e1, r.mono l⟩
structure CellsR (g : Gam) (w : Wd) (H : Hp) (S : Sto) : Prop where
  nd : ∀ (i j : Nat) (a : Addr), w.rho[i]? = some a → w.rho[j]? = some a → i = j
  len : w.rho.length = S.length
  at_ : ∀ (n : Nat) (a : Addr) (c : Cell), w.rho[n]? = some a → S[n]? = some c → w.G a = none ∧ CellR g w H a c
theorem CellsR.in_ {g : Gam} {w : Wd} {H : Hp} {S : Sto} (h : CellsR g w H S) {a : Addr} (m : a ∈ w.rho) : w.G a = none ∧ ∃ o, H a = some o := by
  obtain ⟨n, hn⟩ := List.getElem?_of_mem m
  have l : n < S.length := by
    rw [← h.len]
    exact (List.getElem?_eq_some_iff.mp hn).1
  obtain ⟨h1, h2⟩ := h.at_ n a S[n] hn (List.getElem?_eq_getElem l)
  obtain ⟨o, e, _⟩ := h2.some_
  exact ⟨h1, o, e⟩
structure Ok (g : Gam) (w : Wd) (H : Hp) (S : Sto) : Prop where
  ex : Same w.G H
  cells : CellsR g w H S
  tabs : LamX.Tabs g.T H
  notab : ∀ a ps, w.G a ≠ some (.tbl ps)
structure Frame (w0 : Wd) (H0 : Hp) (w : Wd) (H : Hp) : Prop where
  le : w0.le w
  keep : ∀ a o, H0 a = some o → a ∉ w0.rho → (∀ ps, o ≠ .tbl ps) → H a = some o
  newG : ∀ a, H0 a ≠ none → w.G a = w0.G a
  rho : ∀ a ∈ w.rho, a ∈ w0.rho ∨ H0 a = none
  dom : ∀ a, H0 a ≠ none → H a ≠ none
  tb : ∀ a ps, H0 a = some (.tbl ps) → ∃ qs, H a = some (.tbl qs)
  fz : ∀ a o u, H0 a = some (.frz o u) → H a = some (.frz o u)
theorem Frame.refl (w : Wd) (H : Hp) : Frame w H w H := ⟨.refl w, fun _ _ h _ _ => h, fun _ _ => rfl, fun _ h => .inl h, fun _ h => h, fun _ ps h => ⟨ps, h⟩, fun _ _ _ h => h⟩
theorem Frame.trans {w0 w1 w2 : Wd} {H0 H1 H2 : Hp} (a : Frame w0 H0 w1 H1) (b : Frame w1 H1 w2 H2) : Frame w0 H0 w2 H2 where
  le := a.le.trans b.le
  keep := fun p o h n t => b.keep p o (a.keep p o h n t) (fun z => by
    rcases a.rho p z with z | z
    · exact n z
    · rw [z] at h
      cases h) t
  newG := fun p h => (b.newG p (a.dom p h)).trans (a.newG p h)
  rho := fun p h => by
    rcases b.rho p h with z | z
    · exact a.rho p z
    · refine .inr ?_
      cases e : H0 p with
      | none => rfl
      | some o => exact absurd z (a.dom p (by rw [e]; exact fun q => nomatch q))
  dom := fun p h => b.dom p (a.dom p h)
  tb := fun p ps h => let ⟨qs, e⟩ := a.tb p ps h; b.tb p qs e
  fz := fun p o u h => b.fz p o u (a.fz p o u h)
def SlotR (g : Gam) (w : Wd) (H : Hp) : Sl → Option V → Option Addr → Prop
  | .no, _, o => o = none
  | .v d, x, o => o = none ∧ ∃ v, x = some v ∧ Rep g w d v
  | .o c, x, o => ∃ p, o = some p ∧ x = some (.ref p) ∧ w.G p = none ∧ CellR g w H p c
structure StR (g : Gam) (w0 : Wd) (H0 : Hp) (w : Wd) (H : Hp) (σ : L2.St) (env : Envr) (S : Sto) (O : List (Option Addr)) : Prop where
  ok : Ok g w H S
  fr : Frame w0 H0 w H
  l1 : env.length = σ.length
  l2 : O.length = σ.length
  sl : ∀ (i : Nat) (s : Sl) (x : Option V) (o : Option Addr), env[i]? = some s → σ[i]? = some x → O[i]? = some o → SlotR g w H s x o
  inj : ∀ (i j : Nat) (p : Addr), O[i]? = some (some p) → O[j]? = some (some p) → i = j
  fresh : ∀ (i : Nat) (p : Addr), O[i]? = some (some p) → H0 p = none ∧ p ∉ w.rho ∧ ∃ c, env[i]? = some (.o c)
section
variable {g : Gam} {w0 w w' : Wd} {H0 H H' : Hp} {σ : L2.St} {env : Envr} {S S' : Sto} {O : List (Option Addr)}
theorem StR.after (h : StR g w0 H0 w H σ env S O) (f : Frame w H w' H') (k : Ok g w' H' S') : StR g w0 H0 w' H' σ env S' O := by
  have own : ∀ (i : Nat) (p : Addr), O[i]? = some (some p) → ∃ o, H p = some o ∧ (∀ ps, o ≠ .tbl ps) := fun i p e => by
    obtain ⟨_, _, c, hc⟩ := h.fresh i p e
    have hi : i < σ.length := by
      rw [← h.l2]
      exact (List.getElem?_eq_some_iff.mp e).1
    have q := h.sl i (.o c) σ[i] (some p) hc (List.getElem?_eq_getElem hi) e
    obtain ⟨p', e1, e2, e3, e4⟩ := q
    cases e1
    exact e4.some_
  refine ⟨k, h.fr.trans f, h.l1, h.l2, fun i s x o e1 e2 e3 => ?_, h.inj, fun i p e => ?_⟩
  · have q := h.sl i s x o e1 e2 e3
    cases s with
    | no => exact q
    | v d =>
      obtain ⟨q1, v, q2, q3⟩ := q
      exact ⟨q1, v, q2, q3.mono f.le⟩
    | o c =>
      obtain ⟨p, q1, q2, q3, q4⟩ := q
      obtain ⟨ob, z1, z2⟩ := q4.some_
      rw [q1] at e3
      refine ⟨p, q1, q2, (f.newG p (by rw [z1]; exact fun q => nomatch q)).trans q3, q4.move f.le ?_⟩
      rw [f.keep p ob z1 (h.fresh i p e3).2.1 z2, z1]
  · obtain ⟨z1, z2, z3⟩ := h.fresh i p e
    refine ⟨z1, fun m => ?_, z3⟩
    obtain ⟨ob, z4, _⟩ := own i p e
    rcases f.rho p m with z | z
    · exact z2 z
    · rw [z4] at z
      cases z
end
inductive Grow (w : Wd) (H : Hp) : Wd → Hp → Prop
  | refl : Grow w H w H
  | new {w1 : Wd} {H1 : Hp} {p : Addr} {o : HO} : Grow w H w1 H1 → H1 p = none → (∀ ps, o ≠ .tbl ps) → Grow w H ⟨w1.rho, upd w1.G p o⟩ (upd H1 p o)
theorem Grow.one {w : Wd} {H : Hp} {p : Addr} {o : HO} (h : H p = none) (n : ∀ ps, o ≠ .tbl ps) : Grow w H ⟨w.rho, upd w.G p o⟩ (upd H p o) := .new .refl h n
theorem same_upd {H : Hp} {p : Addr} {o : HO} (h : H p = none) : Same H (upd H p o) := fun b x e => by
  rw [upd_ne (ne_of_none e h)]
  exact e
theorem same_upd2 {G H : Hp} {p : Addr} {o : HO} (h : Same G H) : Same (upd G p o) (upd H p o) := fun b x e => by
  by_cases hb : b = p
  · rw [hb, upd_same] at e ⊢
    exact e
  · rw [upd_ne hb] at e ⊢
    exact h b x e
theorem none_of_same {G H : Hp} {p : Addr} (h : Same G H) (e : H p = none) : G p = none := h.free e
theorem ok_new {g : Gam} {w : Wd} {H : Hp} {S : Sto} {p : Addr} {o : HO} (k : Ok g w H S) (h : H p = none) (n : ∀ ps, o ≠ .tbl ps) : Ok g ⟨w.rho, upd w.G p o⟩ (upd H p o) S ∧ Frame w H ⟨w.rho, upd w.G p o⟩ (upd H p o) := by
  have hG : w.G p = none := none_of_same k.ex h
  have le : w.le ⟨w.rho, upd w.G p o⟩ := ⟨⟨[], by simp⟩, same_upd hG⟩
  refine ⟨⟨same_upd2 k.ex, ⟨k.cells.nd, k.cells.len, fun m a c e1 e2 => ?_⟩, k.tabs.ext (same_upd h), fun a ps e => ?_⟩, ⟨le, fun a x e _ _ => same_upd h a x e, fun a e => ?_, fun a m => .inl m, fun a e => ?_, fun a ps e => ⟨ps, same_upd h a _ e⟩, fun a x u e => same_upd h a _ e⟩⟩
  · obtain ⟨q1, q2⟩ := k.cells.at_ m a c e1 e2
    obtain ⟨x, q3, _⟩ := q2.some_
    have ne : a ≠ p := ne_of_none q3 h
    exact ⟨(upd_ne ne).trans q1, q2.move le (upd_ne ne)⟩
  · by_cases ha : a = p
    · rw [ha] at e
      have e2 : upd w.G p o p = some (.tbl ps) := e
      rw [upd_same] at e2
      exact n ps (Option.some.inj e2)
    · have e2 : upd w.G p o a = some (.tbl ps) := e
      rw [upd_ne ha] at e2
      exact k.notab a ps e2
  · have ne : a ≠ p := fun z => e (by rw [z]; exact h)
    exact upd_ne ne
  · have ne : a ≠ p := fun z => e (by rw [z]; exact h)
    rw [upd_ne ne]
    exact e
theorem Grow.ok {g : Gam} {w w' : Wd} {H H' : Hp} {S : Sto} (q : Grow w H w' H') (k : Ok g w H S) : Ok g w' H' S ∧ Frame w H w' H' := by
  induction q with
  | refl => exact ⟨k, Frame.refl w H⟩
  | new q hp hn ih =>
    obtain ⟨k1, f1⟩ := ih
    obtain ⟨k2, f2⟩ := ok_new k1 hp hn
    exact ⟨k2, f1.trans f2⟩
theorem StR.grow {g : Gam} {w0 w w' : Wd} {H0 H H' : Hp} {σ : L2.St} {env : Envr} {S : Sto} {O : List (Option Addr)} (h : StR g w0 H0 w H σ env S O) (q : Grow w H w' H') : StR g w0 H0 w' H' σ env S O :=
  let ⟨k, f⟩ := q.ok h.ok
  h.after f k
theorem Grow.le {g : Gam} {w w' : Wd} {H H' : Hp} {S : Sto} (q : Grow w H w' H') (k : Ok g w H S) : w.le w' := (q.ok k).2.le
def fldOf (c : Str) : Str := if c = "BadText" then "at" else "name"
def ExcR (g : Gam) (w : Wd) (H : Hp) (c : Str) (p : Option D) (cls : Value) (dd : Option Addr) : Prop :=
  cls = .ref (g.ca c) ∧ match p with
    | none => dd = none
    | some d => ∃ a v, dd = some a ∧ H a = some (.xd [(fldOf c, v)]) ∧ Rep g w d v
end Mm
namespace Mm
open PySem L2
def R.bind {α β : Type} (r : R α) (f : α → Sto → R β) : R β := match r with
  | .stuck => .stuck
  | .exc c p s => .exc c p s
  | .ok a s => f a s
def opt {α : Type} (o : Option α) (s : Sto) : R α := match o with
  | none => .stuck
  | some a => .ok a s
def PostX (g : Gam) (W : WX) (w0 : Wd) (H0 : Hp) (w : Wd) (σ : L2.St) (env : Envr) (O : List (Option Addr)) {α : Type} (r : R α) (k : α → Sto → Wd → Hp → Prop) : Prop := match r with
  | .stuck => False
  | .ok a S => ∀ w' H', StR g w0 H0 w' H' σ env S O → w.le w' → k a S w' H'
  | .exc c p S => ∀ w' H' cls dd, StR g w0 H0 w' H' σ env S O → w.le w' → ExcR g w' H' c p cls dd → W cls dd σ H'
section
variable {g : Gam} {W : WX} {w0 w w1 : Wd} {H0 H H1 : Hp} {σ : L2.St} {env : Envr} {S S1 : Sto} {O : List (Option Addr)} {α β : Type}
theorem PostX.mono {r : R α} {k : α → Sto → Wd → Hp → Prop} (h : PostX g W w0 H0 w σ env O r k) (l : w.le w1) : PostX g W w0 H0 w1 σ env O r k := by
  cases r with
  | stuck => exact h
  | ok a S => exact fun w' H' st l' => h w' H' st (l.trans l')
  | exc c p S => exact fun w' H' cls dd st l' => h w' H' cls dd st (l.trans l')
theorem PostX.imp {r : R α} {k k' : α → Sto → Wd → Hp → Prop} (h : PostX g W w0 H0 w σ env O r k) (f : ∀ a S w' H', StR g w0 H0 w' H' σ env S O → w.le w' → k a S w' H' → k' a S w' H') : PostX g W w0 H0 w σ env O r k' := by
  cases r with
  | stuck => exact h
  | ok a S => exact fun w' H' st l' => f a S w' H' st l' (h w' H' st l')
  | exc c p S => exact h
theorem PostX.bind {r : R α} {f : α → Sto → R β} {k : β → Sto → Wd → Hp → Prop} (h : PostX g W w0 H0 w σ env O (r.bind f) k) :
    PostX g W w0 H0 w σ env O r (fun a S w' _ => PostX g W w0 H0 w' σ env O (f a S) k) := by
  cases r with
  | stuck => exact h
  | ok a S => exact fun w' H' _ l' => PostX.mono (show PostX g W w0 H0 w σ env O (f a S) k from h) l'
  | exc c p S => exact h
theorem PostX.opt_ {o : Option α} {k : α → Sto → Wd → Hp → Prop} (h : PostX g W w0 H0 w σ env O (opt o S) k) (st : StR g w0 H0 w H σ env S O) : ∃ a, o = some a ∧ ∀ w' H', StR g w0 H0 w' H' σ env S O → w.le w' → k a S w' H' := by
  cases o with
  | none => exact False.elim h
  | some a => exact ⟨a, rfl, h⟩
end
abbrev ME := Envr → Sto → R D
abbrev MF := Envr → Sto → R Cell
abbrev MT := Envr → Sto → R Bool
abbrev MA := Envr → Sto → R (List D)
structure OwnAt (g : Gam) (w : Wd) (H0 H : Hp) (O : List (Option Addr)) (c : Cell) (p : Addr) : Prop where
  n0 : H0 p = none
  ng : w.G p = none
  nr : p ∉ w.rho
  no : ∀ i : Nat, O[i]? ≠ some (some p)
  at_ : CellR g w H p c
def SimE (g : Gam) (W : WX) (t : TE) (m : ME) : Prop := ∀ w0 H0 w H σ env S O (Q : VK), StR g w0 H0 w H σ env S O →
  PostX g W w0 H0 w σ env O (m env S) (fun d _ w' H' => ∀ v, Rep g w' d v → Q v H') → t σ H Q
def SimF (g : Gam) (W : WX) (t : TE) (m : MF) : Prop := ∀ w0 H0 w H σ env S O (Q : VK), StR g w0 H0 w H σ env S O →
  PostX g W w0 H0 w σ env O (m env S) (fun c _ w' H' => ∀ p, OwnAt g w' H0 H' O c p → Q (.ref p) H') → t σ H Q
def SimT (g : Gam) (W : WX) (t : TT) (m : MT) : Prop := ∀ w0 H0 w H σ env S O (Q : Bool → Hp → Prop), StR g w0 H0 w H σ env S O →
  PostX g W w0 H0 w σ env O (m env S) (fun b _ w' H' => Q b H') → t σ H Q
def SimA (g : Gam) (W : WX) (t : TA) (m : MA) : Prop := ∀ w0 H0 w H σ env S O (Q : List V → Hp → Prop), StR g w0 H0 w H σ env S O →
  PostX g W w0 H0 w σ env O (m env S) (fun ds _ w' H' => ∀ vs, RepL g w' ds vs → Q vs H') → t σ H Q
structure SE (X : Cx) (Y : Gam) (W : WX) (e : Expr) (t : TE) (m : ME) : Prop where
  pe : PE X e t
  sim : SimE Y W t m
structure SF (X : Cx) (Y : Gam) (W : WX) (e : Expr) (t : TE) (m : MF) : Prop where
  pe : PE X e t
  sim : SimF Y W t m
structure SC (X : Cx) (Y : Gam) (W : WX) (e : Expr) (t : TT) (m : MT) : Prop where
  pt : PT X e t
  sim : SimT Y W t m
structure SA (X : Cx) (Y : Gam) (W : WX) (es : List Expr) (t : TA) (m : MA) : Prop where
  pa : PA X es t
  sim : SimA Y W t m
  len : ∀ env S ds S1, m env S = .ok ds S1 → ds.length = es.length
section
variable {g : Gam} {W : WX} {w0 w w1 : Wd} {H0 H H1 : Hp} {σ : L2.St} {env : Envr} {S S1 : Sto} {O : List (Option Addr)} {α β : Type}
theorem ok_lay {p : Addr} {o : HO} (k : Ok g w H S) (h : H p = none) (n : ∀ ps, o ≠ .tbl ps) : Ok g w (upd H p o) S ∧ Frame w H w (upd H p o) := by
  refine ⟨⟨k.ex.trans (same_upd h), ⟨k.cells.nd, k.cells.len, fun m a c e1 e2 => ?_⟩, k.tabs.ext (same_upd h), k.notab⟩, ⟨.refl w, fun a x e _ _ => same_upd h a x e, fun a _ => rfl, fun a m => .inl m, fun a e => ?_, fun a ps e => ⟨ps, same_upd h a _ e⟩, fun a x u e => same_upd h a _ e⟩⟩
  · obtain ⟨q1, q2⟩ := k.cells.at_ m a c e1 e2
    obtain ⟨x, q3, _⟩ := q2.some_
    exact ⟨q1, q2.move (.refl w) (upd_ne (ne_of_none q3 h))⟩
  · have ne : a ≠ p := fun z => e (by rw [z]; exact h)
    rw [upd_ne ne]
    exact e
theorem StR.lay {p : Addr} {o : HO} (st : StR g w0 H0 w H σ env S O) (h : H p = none) (n : ∀ ps, o ≠ .tbl ps) : StR g w0 H0 w (upd H p o) σ env S O :=
  let ⟨k, f⟩ := ok_lay st.ok h n
  st.after f k
theorem StR.out {p : Addr} (st : StR g w0 H0 w H σ env S O) (h : H p = none) : H0 p = none ∧ w.G p = none ∧ p ∉ w.rho ∧ ∀ i : Nat, O[i]? ≠ some (some p) := by
  refine ⟨?_, none_of_same st.ok.ex h, fun m => ?_, fun i e => ?_⟩
  · cases e : H0 p with
    | none => rfl
    | some o => exact absurd h (st.fr.dom p (by rw [e]; exact fun q => nomatch q))
  · obtain ⟨_, o, e⟩ := st.ok.cells.in_ m
    rw [h] at e
    cases e
  · obtain ⟨_, _, c, hc⟩ := st.fresh i p e
    have hi : i < σ.length := by
      rw [← st.l2]
      exact (List.getElem?_eq_some_iff.mp e).1
    obtain ⟨p', e1, _, _, e4⟩ := st.sl i (.o c) σ[i] (some p) hc (List.getElem?_eq_getElem hi) e
    cases e1
    obtain ⟨o, e5, _⟩ := e4.some_
    rw [h] at e5
    cases e5
theorem StR.own_new {p : Addr} {o : HO} {c : Cell} (st : StR g w0 H0 w H σ env S O) (h : H p = none) (hc : CellR g w (upd H p o) p c) : OwnAt g w H0 (upd H p o) O c p := by
  obtain ⟨h1, h2, h3, h4⟩ := st.out h
  exact ⟨h1, h2, h3, h4, hc⟩
theorem own_freeze {c : Cell} {p : Addr} (st : StR g w0 H0 w H σ env S O) (a : OwnAt g w H0 H O c p) : ∃ w', StR g w0 H0 w' H σ env S O ∧ w.le w' ∧ Rep g w' c.d (.ref p) := by
  obtain ⟨o, ho, nt⟩ := a.at_.some_
  have le : w.le ⟨w.rho, upd w.G p o⟩ := ⟨⟨[], by simp⟩, same_upd a.ng⟩
  refine ⟨⟨w.rho, upd w.G p o⟩, ⟨⟨fun b x e => ?_, ⟨st.ok.cells.nd, st.ok.cells.len, fun m b c e1 e2 => ?_⟩, st.ok.tabs, fun b ps e => ?_⟩, ⟨st.fr.le.trans le, st.fr.keep, fun b e => ?_, st.fr.rho, st.fr.dom, st.fr.tb, st.fr.fz⟩, st.l1, st.l2, fun i s x q e1 e2 e3 => ?_, st.inj, st.fresh⟩, le, ?_⟩
  · by_cases hb : b = p
    · have e2 : upd w.G p o b = some x := e
      rw [hb, upd_same] at e2
      rw [hb, ho, e2]
    · have e2 : upd w.G p o b = some x := e
      rw [upd_ne hb] at e2
      exact st.ok.ex b x e2
  · obtain ⟨q1, q2⟩ := st.ok.cells.at_ m b c e1 e2
    have ne : b ≠ p := fun z => a.nr (by rw [← z]; exact List.mem_of_getElem? e1)
    exact ⟨(upd_ne ne).trans q1, q2.move le rfl⟩
  · by_cases hb : b = p
    · have e2 : upd w.G p o b = some (.tbl ps) := e
      rw [hb, upd_same] at e2
      exact nt ps (Option.some.inj e2)
    · have e2 : upd w.G p o b = some (.tbl ps) := e
      rw [upd_ne hb] at e2
      exact st.ok.notab b ps e2
  · have ne : b ≠ p := fun z => e (by rw [z]; exact a.n0)
    exact (upd_ne ne).trans (st.fr.newG b e)
  · have q' := st.sl i s x q e1 e2 e3
    cases s with
    | no => exact q'
    | v d =>
      obtain ⟨z1, v, z2, z3⟩ := q'
      exact ⟨z1, v, z2, z3.mono le⟩
    | o c' =>
      obtain ⟨p', z1, z2, z3, z4⟩ := q'
      have ne : p' ≠ p := fun z => a.no i (by rw [e3, z1, z])
      exact ⟨p', z1, z2, (upd_ne ne).trans z3, z4.move le rfl⟩
  · have c2 := a.at_.move le (rfl : H p = H p)
    cases c with
    | lst ds =>
      obtain ⟨vs, e1, e2⟩ := c2
      rw [ho] at e1
      unfold Cell.d Rep
      refine ⟨p, vs, rfl, ?_, e2⟩
      show upd w.G p o p = _
      rw [upd_same, e1]
    | ins c fs =>
      obtain ⟨dx, gs, e1, e2⟩ := c2
      rw [ho] at e1
      unfold Cell.d Rep
      refine ⟨p, dx, gs, rfl, ?_, e2⟩
      show upd w.G p o p = _
      rw [upd_same, e1]
    | dic ks =>
      obtain ⟨gs, e1, e2⟩ := c2
      rw [ho] at e1
      unfold Cell.d Rep
      refine ⟨p, gs, rfl, .inl ?_, e2⟩
      show upd w.G p o p = _
      rw [upd_same, e1]
    | lck ks =>
      obtain ⟨o', gs, e1, e2⟩ := c2
      rw [ho] at e1
      unfold Cell.d Rep
      refine ⟨p, gs, rfl, .inr ⟨o', ?_⟩, e2⟩
      show upd w.G p o p = _
      rw [upd_same, e1]
    | mem ks =>
      unfold Cell.d Rep
      exact ⟨p, rfl⟩
    | lkl ks =>
      unfold Cell.d Rep
      exact ⟨p, rfl⟩
    | tdc ks =>
      have e1 : H p = some (.dT (tdV ks)) := c2
      rw [ho] at e1
      unfold Cell.d Rep
      refine ⟨p, rfl, ?_⟩
      show upd w.G p o p = _
      rw [upd_same, e1]
end
section
variable {X : Cx} {Y : Gam} {W : WX} {e a b : Expr} {es : List Expr} {ta tb te : TE} {tt tu : TT} {ma mb me : ME} {mt mu : MT} {t : TA} {m : MA} {pos : Pos}
def mFrz (mf : MF) : ME := fun env S => (mf env S).bind fun c S1 => .ok c.d S1
theorem SF.val {mf : MF} (h : SF X Y W e te mf) : SE X Y W e te (mFrz mf) := by
  refine ⟨h.pe, fun w0 H0 w H σ env S O Q st p => h.sim w0 H0 w H σ env S O Q st ((PostX.bind p).imp fun c S1 w1 H1 st1 l1 p1 q ow => ?_)⟩
  obtain ⟨w2, st2, l2, r⟩ := own_freeze st1 ow
  exact p1 w2 H1 st2 l2 _ r
def eV (i : Nat) : ME := fun env S => match env[i]? with
  | some (.v d) => .ok d S
  | _ => .stuck
theorem sim_var {g : Gam} {i : Nat} : SimE g W (tVar i) (eV i) := fun w0 H0 w H σ env S O Q st p => by
  unfold eV at p
  split at p
  · rename_i d e
    have hi : i < σ.length := by
      rw [← st.l1]
      exact (List.getElem?_eq_some_iff.mp e).1
    have hO : i < O.length := by
      rw [st.l2]
      exact hi
    obtain ⟨_, v, e1, r⟩ := st.sl i (.v d) σ[i] O[i] e (List.getElem?_eq_getElem hi) (List.getElem?_eq_getElem hO)
    exact ⟨v, by rw [List.getElem?_eq_getElem hi, e1], p w H st (.refl w) v r⟩
  · exact p.elim
theorem sv (i : Nat) {x : Str} (hN : X.N[i]? = some x := by rfl) (hv : Vis X.env.scope x := by first | exact Or.inl rfl | exact Or.inr (Or.inl rfl) | exact Or.inr (Or.inr rfl)) (hd : (x == ("__debug__" : Str)) = false := by decide)
    (hcd : (x == ("__classdict__" : Str)) = false := by decide) : SE X Y W (.Name x pos) (tVar i) (eV i) := ⟨pv i hN hv hd hcd, sim_var⟩
def eC (d : D) : ME := fun _ S => .ok d S
theorem sim_c {g : Gam} {v : V} {d : D} (h : ∀ w, Rep g w d v) : SimE g W (tC v) (eC d) := fun w0 H0 w H σ env S O Q st p => p w H st (.refl w) v (h w)
theorem s_int {i j} : SE X Y W (.Constant (.int i) j pos) (tC (.int i)) (eC (.int i)) := ⟨pe_int, sim_c fun _ => by unfold Rep; rfl⟩
theorem s_bl {i j} : SE X Y W (.Constant (.bool i) j pos) (tC (.bl i)) (eC (.bl i)) := ⟨pe_bl, sim_c fun _ => by unfold Rep; rfl⟩
theorem s_non {j} : SE X Y W (.Constant .none j pos) (tC .non) (eC .non) := ⟨pe_non, sim_c fun _ => by unfold Rep; rfl⟩
theorem s_str {i j} : SE X Y W (.Constant (.str i) j pos) (tC (.str i)) (eC (.str i)) := ⟨pe_str, sim_c fun _ => by unfold Rep; rfl⟩
theorem s_gint {x : Str} {i : Int} {u : Tok} (hm : X.mg x = some (.int i u)) (hg : Gl X x := by rfl) (hd : (x == ("__debug__" : Str)) = false := by decide) : SE X Y W (.Name x pos) (tC (.int i)) (eC (.int i)) :=
  ⟨pe_glob hg hm ⟨u, rfl⟩ hd, sim_c fun _ => by unfold Rep; rfl⟩
def OpD (g : Gam) (r : R2) (f : Sto → D → D → Option D) : Prop := ∀ w H S d1 d2 v1 v2 d (Q : VK), Ok g w H S → Rep g w d1 v1 → Rep g w d2 v2 → f S d1 d2 = some d → (∀ w' H' v, Grow w H w' H' → Rep g w' d v → Q v H') → r v1 v2 H Q
def eOp (f : Sto → D → D → Option D) (ma mb : ME) : ME := fun env S => (ma env S).bind fun d1 S1 => (mb env S1).bind fun d2 S2 => opt (f S2 d1 d2) S2
theorem sim_op {g : Gam} {r : R2} {f : Sto → D → D → Option D} (ho : OpD g r f) (ha : SimE g W ta ma) (hb : SimE g W tb mb) : SimE g W (tOp r ta tb) (eOp f ma mb) := fun w0 H0 w H σ env S O Q st p =>
  ha w0 H0 w H σ env S O _ st ((PostX.bind p).imp fun d1 S1 w1 H1 st1 l1 p1 v1 r1 => hb w0 H0 w1 H1 σ env S1 O _ st1 ((PostX.bind p1).imp fun d2 S2 w2 H2 st2 l2 p2 v2 r2 => by
    obtain ⟨d, e, k⟩ := PostX.opt_ p2 st2
    exact ho w2 H2 S2 d1 d2 v1 v2 d Q st2.ok (r1.mono l2) r2 e fun w3 H3 v q r => k w3 H3 (st2.grow q) (q.le st2.ok) v r))
theorem s_op {op : Operator} {r : R2} {f : Sto → D → D → Option D} (hd : OpD Y r f) (ho : OpR X (binaryOp op) r) (ha : SE X Y W a ta ma) (hb : SE X Y W b tb mb) : SE X Y W (.BinOp a op b pos) (tOp r ta tb) (eOp f ma mb) := ⟨pe_op ho ha.pe hb.pe, sim_op hd ha.sim hb.sim⟩
theorem s_cmp {op : CmpOp} {r : R2} {f : Sto → D → D → Option D} (hd : OpD Y r f) (ho : OpR X (compareOp op) r) (ha : SE X Y W a ta ma) (hb : SE X Y W b tb mb) (hm : behindInMarks op b = false) : SE X Y W (.Compare a [op] [b] pos) (tOp r ta tb) (eOp f ma mb) := ⟨pe_cmpR ho ha.pe hb.pe hm, sim_op hd ha.sim hb.sim⟩
theorem s_ix {r : R2} {f : Sto → D → D → Option D} (hd : OpD Y r f) (ho : IxR X r) (ha : SE X Y W a ta ma) (hb : SE X Y W b tb mb) (hs : PlainIx b) : SE X Y W (.Subscript a b pos) (tOp r ta tb) (eOp f ma mb) := ⟨pe_ix ho ha.pe hb.pe hs, sim_op hd ha.sim hb.sim⟩
theorem OpR.or {X : Cx} {f : Value → Value → Sem Value} {r r' : R2} (h : OpR X f r) (h' : OpR X f r') : OpR X f (fun x y H Q => r x y H Q ∨ r' x y H Q) := fun pins s σ H x y v u Q I r1 r2 q =>
  q.elim (h pins s σ H x y v u Q I r1 r2) (h' pins s σ H x y v u Q I r1 r2)
theorem OpD.or {g : Gam} {r r' : R2} {f f' : Sto → D → D → Option D} (h : OpD g r f) (h' : OpD g r' f') : OpD g (fun x y H Q => r x y H Q ∨ r' x y H Q) (fun S a b => (f S a b).or (f' S a b)) := fun w H S d1 d2 v1 v2 d Q k r1 r2 e q => by
  have e : (f S d1 d2).or (f' S d1 d2) = some d := e
  cases z : f S d1 d2 with
  | some d' =>
    rw [z] at e
    have e2 : d' = d := by simpa using e
    exact .inl (h w H S d1 d2 v1 v2 d Q k r1 r2 (by rw [z, e2]) q)
  | none =>
    rw [z] at e
    exact .inr (h' w H S d1 d2 v1 v2 d Q k r1 r2 (by simpa using e) q)
def fI (g : Int → Int → D) (c : Int → Int → Bool) : Sto → D → D → Option D
  | _, .int i, .int j => if c i j then some (g i j) else none
  | _, _, _ => none
theorem rep_int {g : Gam} {w : Wd} {i : Int} {v : V} (h : Rep g w (.int i) v) : v = .int i := by
  unfold Rep at h
  exact h
theorem rep_int' {g : Gam} {w : Wd} {i : Int} : Rep g w (.int i) (.int i) := by
  unfold Rep
  rfl
theorem rep_bl' {g : Gam} {w : Wd} {i : Bool} : Rep g w (.bl i) (.bl i) := by
  unfold Rep
  rfl
theorem od_I {g : Gam} {C : Int → Int → Prop} {h : Int → Int → V} {k : Int → Int → D} {c : Int → Int → Bool} (hc : ∀ i j, c i j = true → C i j) (hk : ∀ i j w, Rep g w (k i j) (h i j)) : OpD g (rI C h) (fI k c) := fun w H S d1 d2 v1 v2 d Q _ r1 r2 e q => by
  unfold fI at e
  split at e
  · rename_i i j
    split at e
    · rename_i z
      cases e
      exact ⟨i, j, rep_int r1, rep_int r2, hc i j z, q w H _ .refl (hk i j w)⟩
    · cases e
  · cases e
theorem od_I0 {g : Gam} {h : Int → Int → V} {k : Int → Int → D} (hk : ∀ i j w, Rep g w (k i j) (h i j)) : OpD g (rI0 h) (fI k fun _ _ => true) := fun w H S d1 d2 v1 v2 d Q _ r1 r2 e q => by
  unfold fI at e
  split at e
  · rename_i i j
    simp only [if_true] at e
    cases e
    exact ⟨i, j, rep_int r1, rep_int r2, q w H _ .refl (hk i j w)⟩
  · cases e
end
end Mm
namespace Mm
open PySem L2
section
variable {X : Cx} {Y : Gam} {W : WX} {e a b c : Expr} {es rest : List Expr} {ta tb te : TE} {tt tu : TT} {ma mb me : ME} {mt mu : MT} {t : TA} {m : MA} {pos : Pos}
def cB (me : ME) : MT := fun env S => (me env S).bind fun d S1 => match d with
  | .bl k => .ok k S1
  | _ => .stuck
theorem sim_test {g : Gam} (h : SimE g W te me) : SimT g W (tTest te) (cB me) := fun w0 H0 w H σ env S O Q st p =>
  h w0 H0 w H σ env S O _ st ((PostX.bind p).imp fun d S1 w1 H1 st1 l1 p1 v r => by
    cases d with
    | bl k =>
      unfold Rep at r
      exact ⟨k, r, p1 w1 H1 st1 (.refl w1)⟩
    | _ => exact False.elim p1)
theorem c_val {te : TE} (h : SE X Y W e te me) (he : ∀ whole, isTrue e X.env whole = (do let v ← whole; standAt e.pos; holding [v] (truthy v)) := by intro _; rfl) : SC X Y W e (tB te) (cB me) := ⟨pt_val h.pe he, sim_test h.sim⟩
theorem c_cmp {op : CmpOp} {r : R2} {f : Sto → D → D → Option D} (hd : OpD Y r f) (ho : OpR X (compareOp op) r) (ha : SE X Y W a ta ma) (hb : SE X Y W b tb mb) (hm : behindInMarks op b = false) : SC X Y W (.Compare a [op] [b] pos) (tTest (tOp r ta tb)) (cB (eOp f ma mb)) :=
  ⟨pt_cmpR ho ha.pe hb.pe hm, sim_test (sim_op hd ha.sim hb.sim)⟩
structure SW (X : Cx) (Y : Gam) (W : WX) (e : Expr) (t : TT) (m : MT) : Prop where
  pw : PW X e t
  sim : SimT Y W t m
theorem SW.sc (h : SW X Y W e tt mt) : SC X Y W e tt mt := ⟨h.pw.pt, h.sim⟩
def cAnd (a b : MT) : MT := fun env S => (a env S).bind fun k S1 => if k = true then b env S1 else .ok false S1
def cOr (a b : MT) : MT := fun env S => (a env S).bind fun k S1 => if k = true then .ok true S1 else b env S1
def cNot (a : MT) : MT := fun env S => (a env S).bind fun k S1 => .ok (!k) S1
theorem sim_and {g : Gam} (h1 : SimT g W tt mt) (h2 : SimT g W tu mu) : SimT g W (tAnd tt tu) (cAnd mt mu) := fun w0 H0 w H σ env S O Q st p =>
  h1 w0 H0 w H σ env S O _ st ((PostX.bind p).imp fun k S1 w1 H1 st1 l1 p1 => by
    cases k with
    | true =>
      simp only [if_true] at p1 ⊢
      exact h2 w0 H0 w1 H1 σ env S1 O Q st1 p1
    | false =>
      simp only [Bool.false_eq_true, if_false] at p1 ⊢
      exact p1 w1 H1 st1 (.refl w1))
theorem sim_or {g : Gam} (h1 : SimT g W tt mt) (h2 : SimT g W tu mu) : SimT g W (tOr tt tu) (cOr mt mu) := fun w0 H0 w H σ env S O Q st p =>
  h1 w0 H0 w H σ env S O _ st ((PostX.bind p).imp fun k S1 w1 H1 st1 l1 p1 => by
    cases k with
    | false =>
      simp only [Bool.false_eq_true, if_false] at p1 ⊢
      exact h2 w0 H0 w1 H1 σ env S1 O Q st1 p1
    | true =>
      simp only [if_true] at p1 ⊢
      exact p1 w1 H1 st1 (.refl w1))
theorem sim_not {g : Gam} (h1 : SimT g W tt mt) : SimT g W (tNot tt) (cNot mt) := fun w0 H0 w H σ env S O Q st p =>
  h1 w0 H0 w H σ env S O _ st ((PostX.bind p).imp fun k S1 w1 H1 st1 l1 p1 => p1 w1 H1 st1 (.refl w1))
theorem w_and1 (ha : SC X Y W a tt mt) : SW X Y W (.BoolOp .And [a] pos) tt mt := ⟨pw_and1 ha.pt, ha.sim⟩
theorem w_or1 (ha : SC X Y W a tt mt) : SW X Y W (.BoolOp .Or [a] pos) tt mt := ⟨pw_or1 ha.pt, ha.sim⟩
theorem w_and (ha : SC X Y W a tt mt) (hb : SW X Y W (.BoolOp .And (b :: rest) pos) tu mu) : SW X Y W (.BoolOp .And (a :: b :: rest) pos) (tAnd tt tu) (cAnd mt mu) := ⟨pw_and ha.pt hb.pw, sim_and ha.sim hb.sim⟩
theorem w_or (ha : SC X Y W a tt mt) (hb : SW X Y W (.BoolOp .Or (b :: rest) pos) tu mu) : SW X Y W (.BoolOp .Or (a :: b :: rest) pos) (tOr tt tu) (cOr mt mu) := ⟨pw_or ha.pt hb.pw, sim_or ha.sim hb.sim⟩
theorem c_not (ha : SC X Y W a tt mt) : SC X Y W (.UnaryOp .Not a pos) (tNot tt) (cNot mt) := ⟨pt_not ha.pt, sim_not ha.sim⟩
def eAnd (a b : ME) : ME := fun env S => (a env S).bind fun d S1 => match d with
  | .bl true => b env S1
  | .bl false => .ok (.bl false) S1
  | _ => .stuck
def eOr (a b : ME) : ME := fun env S => (a env S).bind fun d S1 => match d with
  | .bl true => .ok (.bl true) S1
  | .bl false => b env S1
  | _ => .stuck
theorem sim_andV {g : Gam} (h1 : SimE g W ta ma) (h2 : SimE g W tb mb) : SimE g W (tAndV ta tb) (eAnd ma mb) := fun w0 H0 w H σ env S O Q st p =>
  h1 w0 H0 w H σ env S O _ st ((PostX.bind p).imp fun d S1 w1 H1 st1 l1 p1 v r => by
    cases d with
    | bl k =>
      unfold Rep at r
      refine ⟨k, r, ?_⟩
      cases k with
      | true =>
        simp only [if_true]
        exact h2 w0 H0 w1 H1 σ env S1 O Q st1 p1
      | false =>
        simp only [Bool.false_eq_true, if_false]
        exact p1 w1 H1 st1 (.refl w1) _ rep_bl'
    | _ => exact False.elim p1)
theorem sim_orV {g : Gam} (h1 : SimE g W ta ma) (h2 : SimE g W tb mb) : SimE g W (tOrV ta tb) (eOr ma mb) := fun w0 H0 w H σ env S O Q st p =>
  h1 w0 H0 w H σ env S O _ st ((PostX.bind p).imp fun d S1 w1 H1 st1 l1 p1 v r => by
    cases d with
    | bl k =>
      unfold Rep at r
      refine ⟨k, r, ?_⟩
      cases k with
      | false =>
        simp only [Bool.false_eq_true, if_false]
        exact h2 w0 H0 w1 H1 σ env S1 O Q st1 p1
      | true =>
        simp only [if_true]
        exact p1 w1 H1 st1 (.refl w1) _ rep_bl'
    | _ => exact False.elim p1)
theorem s_one {op} (h : SE X Y W a te me) : SE X Y W (.BoolOp op [a] pos) te me := ⟨pe_one h.pe, h.sim⟩
theorem s_and (ha : SE X Y W a ta ma) (hb : SE X Y W (.BoolOp .And (b :: rest) pos) tb mb) : SE X Y W (.BoolOp .And (a :: b :: rest) pos) (tAndV ta tb) (eAnd ma mb) := ⟨pe_and ha.pe hb.pe, sim_andV ha.sim hb.sim⟩
theorem s_or (ha : SE X Y W a ta ma) (hb : SE X Y W (.BoolOp .Or (b :: rest) pos) tb mb) : SE X Y W (.BoolOp .Or (a :: b :: rest) pos) (tOrV ta tb) (eOr ma mb) := ⟨pe_or ha.pe hb.pe, sim_orV ha.sim hb.sim⟩
def eIf (t : MT) (a b : ME) : ME := fun env S => (t env S).bind fun k S1 => if k = true then a env S1 else b env S1
theorem s_if (hc : SC X Y W c tt mt) (ha : SE X Y W a ta ma) (hb : SE X Y W b tb mb) : SE X Y W (.IfExp c a b pos) (tIf tt ta tb) (eIf mt ma mb) := ⟨pe_ifExp hc.pt ha.pe hb.pe, fun w0 H0 w H σ env S O Q st p =>
  hc.sim w0 H0 w H σ env S O _ st ((PostX.bind p).imp fun k S1 w1 H1 st1 l1 p1 => by
    cases k with
    | true =>
      simp only [if_true] at p1 ⊢
      exact ha.sim w0 H0 w1 H1 σ env S1 O Q st1 p1
    | false =>
      simp only [Bool.false_eq_true, if_false] at p1 ⊢
      exact hb.sim w0 H0 w1 H1 σ env S1 O Q st1 p1)⟩
def UnD (g : Gam) (r : V → Hp → VK → Prop) (f : Sto → D → Option D) : Prop := ∀ w H S d1 v1 d (Q : VK), Ok g w H S → Rep g w d1 v1 → f S d1 = some d → (∀ w' H' v, Grow w H w' H' → Rep g w' d v → Q v H') → r v1 H Q
def eUn (f : Sto → D → Option D) (ma : ME) : ME := fun env S => (ma env S).bind fun d1 S1 => opt (f S1 d1) S1
theorem s_un {op : UnaryOp} {r : V → Hp → VK → Prop} {f : Sto → D → Option D} (hd : UnD Y r f) (ho : UnR X (unaryOp op) r) (ha : SE X Y W a ta ma) : SE X Y W (.UnaryOp op a pos) (tUn r ta) (eUn f ma) := ⟨pe_un ho ha.pe, fun w0 H0 w H σ env S O Q st p =>
  ha.sim w0 H0 w H σ env S O _ st ((PostX.bind p).imp fun d1 S1 w1 H1 st1 l1 p1 v1 r1 => by
    obtain ⟨d, e, k⟩ := PostX.opt_ p1 st1
    exact hd w1 H1 S1 d1 v1 d Q st1.ok r1 e fun w3 H3 v q r => k w3 H3 (st1.grow q) (q.le st1.ok) v r)⟩
def fNeg : Sto → D → Option D
  | _, .int i => some (.int (-i))
  | _, _ => none
theorem ud_neg {g : Gam} : UnD g (rU fun i => .int (-i)) fNeg := fun w H S d1 v1 d Q _ r1 e q => by
  unfold fNeg at e
  split at e
  · rename_i i
    cases e
    exact ⟨i, rep_int r1, q w H _ .refl rep_int'⟩
  · cases e
def aNil : MA := fun _ S => .ok [] S
def aCons (ma : ME) (mr : MA) : MA := fun env S => (ma env S).bind fun d S1 => (mr env S1).bind fun ds S2 => .ok (d :: ds) S2
theorem a_nil : SA X Y W [] tNil aNil := ⟨pa_nil, fun w0 H0 w H σ env S O Q st p => p w H st (.refl w) [] RepL.nil_, fun env S ds S1 e => by cases e; rfl⟩
theorem a_cons (ha : SE X Y W e te me) (hr : SA X Y W es t m) (hs : starEach (e :: es) X.env = (false, eval e X.env) :: starEach es X.env := by rfl) : SA X Y W (e :: es) (tCons te t) (aCons me m) := ⟨pa_cons ha.pe hr.pa hs, fun w0 H0 w H σ env S O Q st p =>
  ha.sim w0 H0 w H σ env S O _ st ((PostX.bind p).imp fun d S1 w1 H1 st1 l1 p1 v r => hr.sim w0 H0 w1 H1 σ env S1 O _ st1 ((PostX.bind p1).imp fun ds S2 w2 H2 st2 l2 p2 vs rs => p2 w2 H2 st2 (.refl w2) (v :: vs) (RepL.cons_ (r.mono l2) rs))), fun env S ds S1 h => by
  unfold aCons at h
  cases e1 : me env S with
  | stuck => rw [e1] at h; cases h
  | exc c q s => rw [e1] at h; cases h
  | ok d s =>
    rw [e1] at h
    have h : ((m env s).bind fun ds S2 => R.ok (d :: ds) S2) = .ok ds S1 := h
    cases e2 : m env s with
    | stuck => rw [e2] at h; cases h
    | exc c q s => rw [e2] at h; cases h
    | ok d2 s2 =>
      rw [e2] at h
      have h : R.ok (d :: d2) s2 = .ok ds S1 := h
      cases h
      rw [List.length_cons, List.length_cons, hr.len _ _ _ _ e2]⟩
def szB (n : Nat) : Bool := decide (n ≤ 100000)
theorem szB_le {n : Nat} (h : szB n = true) : n ≤ sizeLine := Nat.le_trans (of_decide_eq_true h) (by decide)
theorem nt_tup {xs : List V} : ∀ ps, HO.tup xs ≠ .tbl ps := fun _ z => by cases z
theorem nt_lst {xs : List V} : ∀ ps, HO.lst xs ≠ .tbl ps := fun _ z => by cases z
theorem nt_ins {C dx : Addr} {fs : List (Str × V)} : ∀ ps, HO.ins C dx fs ≠ .tbl ps := fun _ z => by cases z
theorem nt_own {x : Addr} : ∀ ps, HO.own x ≠ .tbl ps := fun _ z => by cases z
def eTup (m : MA) : ME := fun env S => (m env S).bind fun ds S1 => if szB ds.length then .ok (.tup ds) S1 else .stuck
theorem rep_tup_new {g : Gam} {w : Wd} {H : Hp} {S : Sto} {p : Addr} {ds : List D} {vs : List V} (k : Ok g w H S) (h : H p = none) (r : RepL g w ds vs) : Rep g ⟨w.rho, upd w.G p (.tup vs)⟩ (.tup ds) (.ref p) := by
  unfold Rep
  exact ⟨p, vs, rfl, .inl (.inl upd_same), r.mono (Grow.le (Grow.one h nt_tup) k)⟩
theorem s_tup {x1} (h : SA X Y W es t m) : SE X Y W (.Tuple es x1 pos) (tTup t) (eTup m) := ⟨pe_tup h.pa, fun w0 H0 w H σ env S O Q st p =>
  h.sim w0 H0 w H σ env S O _ st ((PostX.bind p).imp fun ds S1 w1 H1 st1 l1 p1 vs r => by
    split at p1
    · rename_i z
      refine ⟨by rw [← r.len]; exact szB_le z, fun q hq => ?_⟩
      have G := Grow.one (w := w1) (o := .tup vs) hq nt_tup
      exact p1 _ _ (st1.grow G) (G.le st1.ok) _ (rep_tup_new st1.ok hq r)
    · exact False.elim p1)⟩
def fLst (m : MA) : MF := fun env S => (m env S).bind fun ds S1 => if szB ds.length then .ok (.lst ds) S1 else .stuck
theorem f_lst (h : SA X Y W es t m) : SF X Y W (.List es pos) (tLst t) (fLst m) := ⟨pe_lst h.pa, fun w0 H0 w H σ env S O Q st p =>
  h.sim w0 H0 w H σ env S O _ st ((PostX.bind p).imp fun ds S1 w1 H1 st1 l1 p1 vs r => by
    split at p1
    · rename_i z
      refine ⟨by rw [← r.len]; exact szB_le z, fun q hq => ?_⟩
      exact p1 w1 _ (st1.lay hq nt_lst) (.refl w1) q (st1.own_new hq ⟨vs, upd_same, r⟩)
    · exact False.elim p1)⟩
def RetR (g : Gam) (w : Wd) (H0 H : Hp) (r : Ret) (v : V) : Prop := match r with
  | .val d => Rep g w d v
  | .own c => ∃ p, v = .ref p ∧ H0 p = none ∧ w.G p = none ∧ p ∉ w.rho ∧ CellR g w H p c
def PostF (g : Gam) (w : Wd) (H : Hp) (Q : VK) (E : XK) : R Ret → Prop
  | .stuck => False
  | .ok r S => ∀ w' H' v, Frame w H w' H' → Ok g w' H' S → RetR g w' H H' r v → Q v H'
  | .exc c p S => ∀ w' H' cls dd, Frame w H w' H' → Ok g w' H' S → ExcR g w' H' c p cls dd → E cls dd H'
abbrev MFn := List D → Sto → R Ret
def spOf (g : Gam) (n : Nat) (m : MFn) : Sp := fun vs H Q E => vs.length = n ∧ ∃ w ds S, Ok g w H S ∧ RepL g w ds vs ∧ PostF g w H Q E (m ds S)
theorem post_val {g : Gam} {w0 w : Wd} {H0 H : Hp} {σ : L2.St} {env : Envr} {S : Sto} {O : List (Option Addr)} {Q : VK} {r : R Ret} (st : StR g w0 H0 w H σ env S O)
    (p : PostX g W w0 H0 w σ env O (r.bind fun r S2 => R.ok r.d S2) (fun d _ w' H' => ∀ v, Rep g w' d v → Q v H')) : PostF g w H Q (fun cls dd H' => W cls dd σ H') r := by
  cases r with
  | stuck => exact p
  | exc c q S2 => exact fun w' H' cls dd f k x => p w' H' cls dd (st.after f k) f.le x
  | ok r S2 =>
    intro w' H' v f k x
    have st2 := st.after f k
    cases r with
    | val d => exact p w' H' st2 f.le v x
    | own c =>
      obtain ⟨q, e, n0, ng, nr, at_⟩ := x
      have ow : OwnAt g w' H0 H' O c q := by
        obtain ⟨z1, z2, z3, z4⟩ := st.out n0
        exact ⟨z1, ng, nr, z4, at_⟩
      obtain ⟨w3, st3, l3, r3⟩ := own_freeze st2 ow
      rw [e]
      exact p w3 H' st3 (f.le.trans l3) _ r3
def rOwn : Ret → Sto → R Cell
  | .own c, S => .ok c S
  | .val _, _ => .stuck
theorem post_own {g : Gam} {w0 w : Wd} {H0 H : Hp} {σ : L2.St} {env : Envr} {S : Sto} {O : List (Option Addr)} {Q : VK} {r : R Ret} (st : StR g w0 H0 w H σ env S O)
    (p : PostX g W w0 H0 w σ env O (r.bind rOwn) (fun c _ w' H' => ∀ p, OwnAt g w' H0 H' O c p → Q (.ref p) H')) : PostF g w H Q (fun cls dd H' => W cls dd σ H') r := by
  cases r with
  | stuck => exact p
  | exc c q S2 => exact fun w' H' cls dd f k x => p w' H' cls dd (st.after f k) f.le x
  | ok r S2 =>
    intro w' H' v f k x
    have st2 := st.after f k
    cases r with
    | val d => exact False.elim p
    | own c =>
      obtain ⟨q, e, n0, ng, nr, at_⟩ := x
      obtain ⟨z1, z2, z3, z4⟩ := st.out n0
      rw [e]
      exact p w' H' st2 f.le q ⟨z1, ng, nr, z4, at_⟩
def eCall (f : MFn) (dd : List D) (m : MA) : ME := fun env S => (m env S).bind fun ds S1 => (f (ds ++ dd) S1).bind fun r S2 => .ok r.d S2
def fCall (f : MFn) (dd : List D) (m : MA) : MF := fun env S => (m env S).bind fun ds S1 => (f (ds ++ dd) S1).bind rOwn
variable {k n : Nat} {f : Addr} {fd : FuncData} {ps : List Str} {mf : MFn} {dvs : List V} {ds : List Value} {dd : List D} {x : Str} {p : Pos}
theorem sim_callA {g : Gam} (hdv : ∀ w, RepL g w dd dvs) (ha : SimA g W t m) (hlen : ∀ env S ds S1, m env S = .ok ds S1 → ds.length + dd.length = n) {w0 w : Wd} {H0 H : Hp} {σ : L2.St} {env : Envr} {S : Sto} {O : List (Option Addr)} {α : Type} {F : Ret → Sto → R α} {kk : α → Sto → Wd → Hp → Prop} {Q : VK}
    (st : StR g w0 H0 w H σ env S O) (p : PostX g W w0 H0 w σ env O ((m env S).bind fun ds S1 => (mf (ds ++ dd) S1).bind F) kk)
    (fin : ∀ w1 H1 S1 r, StR g w0 H0 w1 H1 σ env S1 O → PostX g W w0 H0 w1 σ env O (r.bind F) kk → PostF g w1 H1 Q (WE W σ) r) : t σ H (fun vs H1 => spOf g n mf (vs ++ dvs) H1 Q (WE W σ)) := by
  refine ha w0 H0 w H σ env S O _ st ?_
  have p2 := PostX.bind p
  cases e : m env S with
  | stuck =>
    rw [e] at p2
    exact p2
  | exc c q S2 =>
    rw [e] at p2
    exact p2
  | ok ds S1 =>
    rw [e] at p2
    intro w1 H1 st1 l1 vs rs
    have p3 := p2 w1 H1 st1 l1
    have r2 := rs.append_ (hdv w1)
    refine ⟨?_, w1, ds ++ dd, S1, st1.ok, r2, fin w1 H1 S1 _ st1 p3⟩
    rw [← r2.len, List.length_append]
    exact hlen env S ds S1 e
theorem s_call (F : FnOk X.prog X.w X.K X.mg X.base (L2N.CX X.prog X.w) k f fd ps (spOf Y n mf)) (hr : Room k X.A) (hm : X.mg x = some (.ref f)) (hk : PySem.W.keepIn X.K (.ref f) = true) (hb : Binds X.K fd ps ds) (hd : Vals dvs ds) (hdv : ∀ w, RepL Y w dd dvs) (tk : L2N.Takes X W)
    (ha : SA X Y W (e :: es) t m) (hn : (e :: es).length + dd.length = n := by rfl) (hg : Gl X x := by rfl) (hdb : (x == ("__debug__" : Str)) = false := by decide) (he : starEach (e :: es) X.env = (false, eval e X.env) :: starEach es X.env := by rfl) (hpl : (backTo pos (starEach es X.env)).any (·.1) = false := by rfl) :
    SE X Y W (.Call (.Name x p) (e :: es) [] pos) (tCallSD (spOf Y n mf) dvs (WE W) t) (eCall mf dd m) :=
  ⟨pe_callSD F hr hg hm hk hb hd (fun σ => L2N.passAt tk σ) ha.pa hdb he hpl, fun w0 H0 w H σ env S O Q st p => sim_callA hdv ha.sim (fun env S ds S1 h => by rw [ha.len _ _ _ _ h]; exact hn) st p fun w1 H1 S1 r st1 p1 => post_val st1 p1⟩
theorem f_call (F : FnOk X.prog X.w X.K X.mg X.base (L2N.CX X.prog X.w) k f fd ps (spOf Y n mf)) (hr : Room k X.A) (hm : X.mg x = some (.ref f)) (hk : PySem.W.keepIn X.K (.ref f) = true) (hb : Binds X.K fd ps ds) (hd : Vals dvs ds) (hdv : ∀ w, RepL Y w dd dvs) (tk : L2N.Takes X W)
    (ha : SA X Y W (e :: es) t m) (hn : (e :: es).length + dd.length = n := by rfl) (hg : Gl X x := by rfl) (hdb : (x == ("__debug__" : Str)) = false := by decide) (he : starEach (e :: es) X.env = (false, eval e X.env) :: starEach es X.env := by rfl) (hpl : (backTo pos (starEach es X.env)).any (·.1) = false := by rfl) :
    SF X Y W (.Call (.Name x p) (e :: es) [] pos) (tCallSD (spOf Y n mf) dvs (WE W) t) (fCall mf dd m) :=
  ⟨pe_callSD F hr hg hm hk hb hd (fun σ => L2N.passAt tk σ) ha.pa hdb he hpl, fun w0 H0 w H σ env S O Q st p => sim_callA hdv ha.sim (fun env S ds S1 h => by rw [ha.len _ _ _ _ h]; exact hn) st p fun w1 H1 S1 r st1 p1 => post_own st1 p1⟩
end
end Mm
namespace Mm
open PySem L2
section
variable {g : Gam} {w0 w w1 : Wd} {H0 H H1 : Hp} {σ : L2.St} {env : Envr} {S S1 : Sto} {O : List (Option Addr)}
theorem StR.set_v (st : StR g w0 H0 w H σ env S O) (i : Nat) {d : D} {v : V} (r : Rep g w d v) : StR g w0 H0 w H (σ.set i (some v)) (env.set i (.v d)) S (O.set i none) := by
  refine ⟨st.ok, st.fr, by rw [List.length_set, List.length_set]; exact st.l1, by rw [List.length_set, List.length_set]; exact st.l2, fun j s x o e1 e2 e3 => ?_, fun j k p e1 e2 => ?_, fun j p e => ?_⟩
  · rw [List.getElem?_set] at e1 e2 e3
    by_cases hj : i = j
    · rw [if_pos hj] at e1 e2 e3
      split at e1
      · split at e2
        · split at e3
          · cases e1
            cases e2
            cases e3
            exact ⟨rfl, v, rfl, r⟩
          · cases e3
        · cases e2
      · cases e1
    · rw [if_neg hj] at e1 e2 e3
      exact st.sl j s x o e1 e2 e3
  · rw [List.getElem?_set] at e1 e2
    have h1 : i ≠ j := fun z => by
      rw [if_pos z] at e1
      split at e1 <;> cases e1
    have h2 : i ≠ k := fun z => by
      rw [if_pos z] at e2
      split at e2 <;> cases e2
    rw [if_neg h1] at e1
    rw [if_neg h2] at e2
    exact st.inj j k p e1 e2
  · rw [List.getElem?_set] at e
    have h1 : i ≠ j := fun z => by
      rw [if_pos z] at e
      split at e <;> cases e
    rw [if_neg h1] at e
    obtain ⟨a, b, c, hc⟩ := st.fresh j p e
    exact ⟨a, b, c, by rw [List.getElem?_set, if_neg h1]; exact hc⟩
theorem StR.set_o (st : StR g w0 H0 w H σ env S O) (i : Nat) {c : Cell} {p : Addr} (r : OwnAt g w H0 H O c p) (hi : i < σ.length) : StR g w0 H0 w H (σ.set i (some (.ref p))) (env.set i (.o c)) S (O.set i (some p)) := by
  refine ⟨st.ok, st.fr, by rw [List.length_set, List.length_set]; exact st.l1, by rw [List.length_set, List.length_set]; exact st.l2, fun j s x o e1 e2 e3 => ?_, fun j k q e1 e2 => ?_, fun j q e => ?_⟩
  · rw [List.getElem?_set] at e1 e2 e3
    by_cases hj : i = j
    · rw [if_pos hj, if_pos (by rw [st.l1]; exact hi)] at e1
      rw [if_pos hj, if_pos hi] at e2
      rw [if_pos hj, if_pos (by rw [st.l2]; exact hi)] at e3
      cases e1
      cases e2
      cases e3
      exact ⟨p, rfl, rfl, r.ng, r.at_⟩
    · rw [if_neg hj] at e1 e2 e3
      exact st.sl j s x o e1 e2 e3
  · rw [List.getElem?_set] at e1 e2
    by_cases h1 : i = j
    · by_cases h2 : i = k
      · exact h1.symm.trans h2
      · rw [if_neg h2] at e2
        rw [if_pos h1] at e1
        split at e1
        · cases e1
          exact absurd e2 (r.no k)
        · cases e1
    · rw [if_neg h1] at e1
      by_cases h2 : i = k
      · rw [if_pos h2] at e2
        split at e2
        · cases e2
          exact absurd e1 (r.no j)
        · cases e2
      · rw [if_neg h2] at e2
        exact st.inj j k q e1 e2
  · rw [List.getElem?_set] at e
    by_cases h1 : i = j
    · rw [if_pos h1] at e
      split at e
      · cases e
        exact ⟨r.n0, r.nr, c, by rw [List.getElem?_set, if_pos h1, if_pos (by rw [st.l1]; exact hi)]⟩
      · cases e
    · rw [if_neg h1] at e
      obtain ⟨a, b, c, hc⟩ := st.fresh j q e
      exact ⟨a, b, c, by rw [List.getElem?_set, if_neg h1]; exact hc⟩
theorem StR.own_at (st : StR g w0 H0 w H σ env S O) {i : Nat} {c : Cell} (h : env[i]? = some (.o c)) : ∃ p, σ[i]? = some (some (.ref p)) ∧ O[i]? = some (some p) ∧ w.G p = none ∧ CellR g w H p c ∧ H0 p = none ∧ p ∉ w.rho ∧ i < σ.length := by
  have hi : i < σ.length := by
    rw [← st.l1]
    exact (List.getElem?_eq_some_iff.mp h).1
  have hO : i < O.length := by
    rw [st.l2]
    exact hi
  obtain ⟨p, e1, e2, e3, e4⟩ := st.sl i (.o c) σ[i] O[i] h (List.getElem?_eq_getElem hi) (List.getElem?_eq_getElem hO)
  have e5 : O[i]? = some (some p) := by rw [List.getElem?_eq_getElem hO, e1]
  exact ⟨p, by rw [List.getElem?_eq_getElem hi, e2], e5, e3, e4, (st.fresh i p e5).1, (st.fresh i p e5).2.1, hi⟩
theorem StR.mut (st : StR g w0 H0 w H σ env S O) {i : Nat} {c c' : Cell} {p : Addr} {o : HO} (h : env[i]? = some (.o c)) (hO : O[i]? = some (some p)) (r : CellR g w (upd H p o) p c') (nt : ∀ ps, o ≠ .tbl ps) : StR g w0 H0 w (upd H p o) σ (env.set i (.o c')) S O := by
  obtain ⟨p', e1, e2, e3, e4, e5, e6, hi⟩ := st.own_at h
  rw [hO] at e2
  cases e2
  obtain ⟨x, e7, e8⟩ := e4.some_
  have noG : ∀ b, w.G b ≠ none → b ≠ p := fun b q z => q (by rw [z]; exact e3)
  refine ⟨⟨fun b u e => ?_, ⟨st.ok.cells.nd, st.ok.cells.len, fun m b q e9 e10 => ?_⟩, tabs_upd st.ok.tabs (fun ps z => by rw [e7] at z; exact e8 ps (Option.some.inj z)) (fun φ nm z => e4.noext φ nm z), st.ok.notab⟩, ⟨st.fr.le, fun b u q1 q2 q3 => ?_, st.fr.newG, st.fr.rho, fun b q => ?_, fun b ps q => by rw [upd_ne (fun z => by rw [z, e5] at q; cases q)]; exact st.fr.tb b ps q, fun b x u q => by rw [upd_ne (fun z => by rw [z, e5] at q; cases q)]; exact st.fr.fz b x u q⟩, by rw [List.length_set]; exact st.l1, st.l2, fun j s y q z1 z2 z3 => ?_, st.inj, fun j q e => ?_⟩
  · rw [upd_ne (noG b (by rw [e]; exact fun z => nomatch z))]
    exact st.ok.ex b u e
  · obtain ⟨q1, q2⟩ := st.ok.cells.at_ m b q e9 e10
    exact ⟨q1, q2.move (.refl w) (upd_ne fun z => e6 (by rw [← z]; exact List.mem_of_getElem? e9))⟩
  · rw [upd_ne (fun z => by rw [z, e5] at q1; cases q1)]
    exact st.fr.keep b u q1 q2 q3
  · by_cases hb : b = p
    · rw [hb, upd_same]
      exact fun z => nomatch z
    · rw [upd_ne hb]
      exact st.fr.dom b q
  · rw [List.getElem?_set] at z1
    by_cases hj : i = j
    · rw [if_pos hj, if_pos (by rw [st.l1]; exact hi)] at z1
      cases z1
      rw [hj] at hO e1
      rw [hO] at z3
      rw [e1] at z2
      cases z3
      cases z2
      exact ⟨p, rfl, rfl, e3, r⟩
    · rw [if_neg hj] at z1
      have q' := st.sl j s y q z1 z2 z3
      cases s with
      | no => exact q'
      | v d => exact q'
      | o cj =>
        obtain ⟨pj, y1, y2, y3, y4⟩ := q'
        rw [y1] at z3
        have ne : pj ≠ p := fun z => hj (st.inj i j p hO (by rw [z3, z]))
        exact ⟨pj, y1, y2, y3, y4.move (.refl w) (upd_ne ne)⟩
  · obtain ⟨a, b, cj, hc⟩ := st.fresh j q e
    refine ⟨a, b, ?_⟩
    by_cases hj : i = j
    · exact ⟨c', by rw [List.getElem?_set, if_pos hj, if_pos (by rw [st.l1]; exact hi)]⟩
    · exact ⟨cj, by rw [List.getElem?_set, if_neg hj]; exact hc⟩
theorem ok_cell (k : Ok g w H S) {n : Nat} {c c' : Cell} {a : Addr} {o : HO} (hn : w.rho[n]? = some a) (hc : S[n]? = some c) (r : CellR g w (upd H a o) a c') (nt : ∀ ps, o ≠ .tbl ps) (cf : c.fr := by exact True.intro) : Ok g w (upd H a o) (S.set n c') ∧ Frame w H w (upd H a o) := by
  obtain ⟨e3, e4⟩ := k.cells.at_ n a c hn hc
  obtain ⟨x, e7, e8⟩ := e4.some_
  have noG : ∀ b, w.G b ≠ none → b ≠ a := fun b q z => q (by rw [z]; exact e3)
  refine ⟨⟨fun b u e => ?_, ⟨k.cells.nd, by rw [List.length_set]; exact k.cells.len, fun m b q e9 e10 => ?_⟩, tabs_upd k.tabs (fun ps z => by rw [e7] at z; exact e8 ps (Option.some.inj z)) (fun φ nm z => e4.noext φ nm z), k.notab⟩, ⟨.refl w, fun b u q1 q2 q3 => ?_, fun _ _ => rfl, fun b q => .inl q, fun b q => ?_, fun b ps q => ⟨ps, by rw [upd_ne (fun z => by rw [z, e7] at q; exact e8 ps (Option.some.inj q))]; exact q⟩, fun b x u q => by rw [upd_ne (fun z => e4.nofrz cf x u (by rw [← z]; exact q))]; exact q⟩⟩
  · rw [upd_ne (noG b (by rw [e]; exact fun z => nomatch z))]
    exact k.ex b u e
  · rw [List.getElem?_set] at e10
    by_cases hj : n = m
    · rw [if_pos hj] at e10
      split at e10
      · cases e10
        rw [← hj, hn] at e9
        cases e9
        exact ⟨e3, r⟩
      · cases e10
    · rw [if_neg hj] at e10
      obtain ⟨q1, q2⟩ := k.cells.at_ m b q e9 e10
      exact ⟨q1, q2.move (.refl w) (upd_ne fun z => hj (k.cells.nd n m a hn (by rw [← z]; exact e9)))⟩
  · rw [upd_ne (fun z => q2 (by rw [z]; exact List.mem_of_getElem? hn))]
    exact q1
  · by_cases hb : b = a
    · rw [hb, upd_same]
      exact fun z => nomatch z
    · rw [upd_ne hb]
      exact q
end
abbrev MS := Envr → Sto → Out
def PostS (g : Gam) (W : WX) (w0 : Wd) (H0 : Hp) (w : Wd) (Dn : Ends) : Out → Prop
  | .stuck => False
  | .nx e S => ∀ w' H' σ' O', StR g w0 H0 w' H' σ' e S O' → w.le w' → Dn.nx σ' H'
  | .bk e S => ∀ w' H' σ' O', StR g w0 H0 w' H' σ' e S O' → w.le w' → Dn.bk σ' H'
  | .ct e S => ∀ w' H' σ' O', StR g w0 H0 w' H' σ' e S O' → w.le w' → Dn.ct σ' H'
  | .rt r S => ∀ w' H' v, Ok g w' H' S → Frame w0 H0 w' H' → RetR g w' H0 H' r v → Dn.rt v H'
  | .exc c p e S => ∀ w' H' σ' O' cls dd, StR g w0 H0 w' H' σ' e S O' → w.le w' → ExcR g w' H' c p cls dd → W cls dd σ' H'
def SimS (g : Gam) (W : WX) (t : TS) (m : MS) : Prop := ∀ w0 H0 w H σ env S O (Dn : Ends), StR g w0 H0 w H σ env S O → PostS g W w0 H0 w Dn (m env S) → t Dn σ H
structure SS (X : Cx) (Y : Gam) (W : WX) (st : Stmt) (t : TS) (m : MS) : Prop where
  ps : PS X st t
  sim : SimS Y W t m
structure SB (X : Cx) (Y : Gam) (W : WX) (st : List Stmt) (t : TS) (m : MS) : Prop where
  pss : PSs X st t
  sim : SimS Y W t m
theorem PostS.mono {g : Gam} {W : WX} {w0 w w1 : Wd} {H0 : Hp} {Dn : Ends} {o : Out} (h : PostS g W w0 H0 w Dn o) (l : w.le w1) : PostS g W w0 H0 w1 Dn o := by
  cases o with
  | stuck => exact h
  | nx e S => exact fun w' H' σ' O' st l' => h w' H' σ' O' st (l.trans l')
  | bk e S => exact fun w' H' σ' O' st l' => h w' H' σ' O' st (l.trans l')
  | ct e S => exact fun w' H' σ' O' st l' => h w' H' σ' O' st (l.trans l')
  | rt r S => exact h
  | exc c p e S => exact fun w' H' σ' O' cls dd st l' => h w' H' σ' O' cls dd st (l.trans l')
def R.out {α : Type} (r : R α) (env : Envr) (f : α → Sto → Out) : Out := match r with
  | .stuck => .stuck
  | .exc c p s => .exc c p env s
  | .ok a s => f a s
theorem PostS.out {g : Gam} {W : WX} {w0 w : Wd} {H0 : Hp} {σ : L2.St} {env : Envr} {O : List (Option Addr)} {Dn : Ends} {α : Type} {r : R α} {f : α → Sto → Out} (h : PostS g W w0 H0 w Dn (r.out env f)) :
    PostX g W w0 H0 w σ env O r (fun a S w' _ => PostS g W w0 H0 w' Dn (f a S)) := by
  cases r with
  | stuck => exact h
  | exc c p s => exact fun w' H' cls dd st l x => h w' H' σ O cls dd st l x
  | ok a s => exact fun w' H' st l => PostS.mono (show PostS g W w0 H0 w Dn (f a s) from h) l
section
variable {X : Cx} {Y : Gam} {W : WX} {e a b c : Expr} {es rest : List Expr} {ta tb te : TE} {tt tu : TT} {ma mb me : ME} {mt mu : MT} {mf : MF} {t : TA} {m : MA} {pos : Pos} {s : Stmt} {ss : List Stmt} {t1 t2 : TS} {m1 m2 : MS}
def sNil : MS := fun env S => .nx env S
def sSeq (a b : MS) : MS := fun env S => match a env S with
  | .nx e S1 => b e S1
  | o => o
theorem b_nil : SB X Y W [] tNext sNil := ⟨pss_nil, fun w0 H0 w H σ env S O Dn st p => p w H σ O st (.refl w)⟩
theorem b_cons (h1 : SS X Y W s t1 m1) (h2 : SB X Y W ss t2 m2) : SB X Y W (s :: ss) (tSeq t1 t2) (sSeq m1 m2) := ⟨pss_cons h1.ps h2.pss, fun w0 H0 w H σ env S O Dn st p => by
  refine h1.sim w0 H0 w H σ env S O { Dn with nx := t2 Dn } st ?_
  unfold sSeq at p
  cases q : m1 env S with
  | stuck => rw [q] at p; exact p
  | bk e S => rw [q] at p; exact p
  | ct e S => rw [q] at p; exact p
  | rt r S => rw [q] at p; exact p
  | exc c p' e S => rw [q] at p; exact p
  | nx e1 S1 =>
    rw [q] at p
    exact fun w' H' σ' O' st' l' => h2.sim w0 H0 w' H' σ' e1 S1 O' Dn st' (p.mono l')⟩
theorem b_one (h1 : SS X Y W s t1 m1) : SB X Y W [s] t1 m1 := ⟨pss_one h1.ps, h1.sim⟩
def sExpr (me : ME) : MS := fun env S => (me env S).out env fun _ S1 => .nx env S1
theorem t_expr (h : SE X Y W e te me) (hs : swapsWith e none pos.line X.env = pure false := by rfl) : SS X Y W (.Expr e pos) (tDrop te) (sExpr me) := ⟨ps_expr h.pe hs, fun w0 H0 w H σ env S O Dn st p =>
  h.sim w0 H0 w H σ env S O _ st ((PostS.out p).imp fun d S1 w1 H1 st1 l1 p1 v r => p1 w1 H1 σ O st1 (.refl w1))⟩
def sRet (me : ME) : MS := fun env S => (me env S).out env fun d S1 => .rt (.val d) S1
theorem t_ret (h : SE X Y W e te me) : SS X Y W (.Return (some e) pos) (tRet te) (sRet me) := ⟨ps_ret h.pe, fun w0 H0 w H σ env S O Dn st p =>
  h.sim w0 H0 w H σ env S O _ st ((PostS.out p).imp fun d S1 w1 H1 st1 l1 p1 v r => p1 w1 H1 v st1.ok st1.fr r)⟩
def sRetF (mf : MF) : MS := fun env S => (mf env S).out env fun c S1 => .rt (.own c) S1
theorem t_retF (h : SF X Y W e te mf) : SS X Y W (.Return (some e) pos) (tRet te) (sRetF mf) := ⟨ps_ret h.pe, fun w0 H0 w H σ env S O Dn st p =>
  h.sim w0 H0 w H σ env S O _ st ((PostS.out p).imp fun d S1 w1 H1 st1 l1 p1 v r => p1 w1 H1 _ st1.ok st1.fr ⟨v, rfl, r.n0, r.ng, r.nr, r.at_⟩)⟩
def sRetO (i : Nat) : MS := fun env S => match env[i]? with
  | some (.o c) => .rt (.own c) S
  | some (.v d) => .rt (.val d) S
  | _ => .stuck
theorem t_retO (i : Nat) {x : Str} {p : Pos} (hN : X.N[i]? = some x := by rfl) (hv : Vis X.env.scope x := by first | exact Or.inl rfl | exact Or.inr (Or.inl rfl) | exact Or.inr (Or.inr rfl)) (hd : (x == ("__debug__" : Str)) = false := by decide)
    (hcd : (x == ("__classdict__" : Str)) = false := by decide) : SS X Y W (.Return (some (.Name x p)) pos) (tRet (tVar i)) (sRetO i) := ⟨ps_ret (pv i hN hv hd hcd), fun w0 H0 w H σ env S O Dn st p => by
  unfold sRetO at p
  split at p
  · rename_i c e
    obtain ⟨q, e1, e2, e3, e4, e5, e6, hi⟩ := st.own_at e
    exact ⟨_, e1, p w H _ st.ok st.fr ⟨q, rfl, e5, e3, e6, e4⟩⟩
  · rename_i d e
    exact sim_var (W := W) w0 H0 w H σ env S O Dn.rt st (by
      unfold eV
      rw [e]
      exact fun w' H' st' l' v r => p w' H' v st'.ok st'.fr r)
  · exact p.elim⟩
def sIf (c : MT) (a b : MS) : MS := fun env S => (c env S).out env fun k S1 => if k = true then a env S1 else b env S1
theorem t_if {x y : List Stmt} (hc : SC X Y W c tt mt) (ha : SB X Y W x t1 m1) (hb : SB X Y W y t2 m2) : SS X Y W (.If c x y pos) (tIfS tt t1 t2) (sIf mt m1 m2) := ⟨ps_if hc.pt ha.pss hb.pss, fun w0 H0 w H σ env S O Dn st p =>
  hc.sim w0 H0 w H σ env S O _ st ((PostS.out p).imp fun k S1 w1 H1 st1 l1 p1 => by
    cases k with
    | true =>
      simp only [if_true] at p1 ⊢
      exact ha.sim w0 H0 w1 H1 σ env S1 O Dn st1 p1
    | false =>
      simp only [Bool.false_eq_true, if_false] at p1 ⊢
      exact hb.sim w0 H0 w1 H1 σ env S1 O Dn st1 p1)⟩
abbrev MG := D → Envr → Option Envr
def Slots (is : List Nat) (σ σ' : L2.St) : Prop := σ'.length = σ.length ∧ ∀ k, k ∉ is → σ'[k]? = σ[k]?
theorem Slots.refl {is : List Nat} (σ : L2.St) : Slots is σ σ := ⟨rfl, fun _ _ => rfl⟩
theorem Slots.set {i : Nat} {is : List Nat} {x : Option V} (σ : L2.St) (h : i ∈ is) : Slots is σ (σ.set i x) := ⟨List.length_set, fun k hk => by
  rw [List.getElem?_set_ne]
  intro z
  exact hk (z ▸ h)⟩
theorem Slots.trans {is : List Nat} {a b c : L2.St} (x : Slots is a b) (y : Slots is b c) : Slots is a c := ⟨y.1.trans x.1, fun k h => (y.2 k h).trans (x.2 k h)⟩
theorem Slots.mono {is js : List Nat} {a b : L2.St} (x : Slots is a b) (h : ∀ i ∈ is, i ∈ js) : Slots js a b := ⟨x.1, fun k hk => x.2 k fun z => hk (h k z)⟩
def SimG (g : Gam) (is : List Nat) (t : TG) (m : MG) : Prop := ∀ w0 H0 w H σ env S O d v (Q : L2.St → Hp → Prop) e, StR g w0 H0 w H σ env S O → Rep g w d v → m d env = some e → (∀ σ' O', StR g w0 H0 w H σ' e S O' → Slots is σ σ' → Q σ' H) → t v σ H Q
structure SG (X : Cx) (Y : Gam) (is : List Nat) (e : Expr) (t : TG) (m : MG) : Prop where
  pg : PG X e t
  sim : SimG Y is t m
abbrev MGs := List D → Envr → Option Envr
def SimGs (g : Gam) (is : List Nat) (t : TGs) (m : MGs) : Prop := ∀ w0 H0 w H σ env S O d v (Q : L2.St → Hp → Prop) e, StR g w0 H0 w H σ env S O → RepL g w d v → m d env = some e → (∀ σ' O', StR g w0 H0 w H σ' e S O' → Slots is σ σ' → Q σ' H) → t v σ H Q
structure SGs (X : Cx) (Y : Gam) (is : List Nat) (e : List Expr) (t : TGs) (m : MGs) : Prop where
  pg : PGs X e t
  sim : SimGs Y is t m
  len : ∀ ds env e', m ds env = some e' → ds.length = e.length
def gN (i : Nat) : MG := fun d env => some (env.set i (.v d))
theorem g_name {i : Nat} {x : Str} (hN : X.N.Nodup) (hi : X.N[i]? = some x) (hx : Loc X.env.scope x) (hf : X.fn x = true ∨ X.env.scope.names.lookup x = some .local := by first | exact .inl rfl | exact .inr rfl | assumption) : SG X Y [i] (.Name x pos) (gName i) (gN i) :=
  ⟨pg_name hN hi hx hf, fun w0 H0 w H σ env S O d v Q e st r h q => by
    cases h
    exact q _ _ (st.set_v i r) (Slots.set σ (by simp))⟩
def gN0 : MGs := fun ds env => match ds with
  | [] => some env
  | _ => none
def gNC (a : MG) (b : MGs) : MGs := fun ds env => match ds with
  | d :: r => (a d env).bind fun e => b r e
  | _ => none
theorem gs_nil : SGs X Y [] [] gNil gN0 := ⟨pgs_nil, fun w0 H0 w H σ env S O d v Q e st r h q => by
  unfold gN0 at h
  split at h
  · cases h
    unfold RepL at r
    exact ⟨r, q _ _ st (Slots.refl σ)⟩
  · simp at h, fun ds env e' h => by
  unfold gN0 at h
  split at h
  · rfl
  · simp at h⟩
theorem gs_cons {is js : List Nat} {tg : TG} {tgs : TGs} {mg : MG} {mgs : MGs} (h1 : SG X Y is e tg mg) (h2 : SGs X Y js es tgs mgs) (hs : (assignEach (e :: es) X.env).map (·.2) = assign e X.env :: (assignEach es X.env).map (·.2) := by rfl) : SGs X Y (is ++ js) (e :: es) (gCons tg tgs) (gNC mg mgs) :=
  ⟨pgs_cons h1.pg h2.pg hs, fun w0 H0 w H σ env S O d v Q e' st r h q => by
    unfold gNC at h
    split at h
    · rename_i d1 dr
      unfold RepL at r
      obtain ⟨v1, vr, ev, r1, r2⟩ := r
      cases z : mg d1 env with
      | none => rw [z] at h; cases h
      | some e1 =>
        rw [z] at h
        have h : mgs dr e1 = some e' := h
        exact ⟨v1, vr, ev, h1.sim w0 H0 w H σ env S O d1 v1 _ e1 st r1 z fun σ1 O1 st1 s1 => h2.sim w0 H0 w H σ1 e1 S O1 dr vr Q e' st1 r2 h fun σ2 O2 st2 s2 => q σ2 O2 st2 ((s1.mono fun i hi => List.mem_append_left _ hi).trans (s2.mono fun i hi => List.mem_append_right _ hi))⟩
    · simp at h, fun ds env e' h => by
    unfold gNC at h
    split at h
    · rename_i d1 dr
      cases z : mg d1 env with
      | none => rw [z] at h; cases h
      | some e1 =>
        rw [z] at h
        have h : mgs dr e1 = some e' := h
        rw [List.length_cons, List.length_cons, h2.len dr e1 e' h]
    · cases h⟩
def gT (b : MGs) : MG := fun d env => match d with
  | .tup ds => b ds env
  | _ => none
theorem g_tup {is : List Nat} {k : Nat} {tgs : TGs} {mgs : MGs} (h : SGs X Y is es tgs mgs) (hK : X.K = Y.K := by rfl) (hc : X.calm = true := by rfl) (hn : (assignEach es X.env).length = es.length := by rfl) (hst : (assignEach es X.env).findIdx? (·.1) = none := by rfl) : SG X Y is (.Tuple es k pos) (gTup Y.K es.length tgs) (gT mgs) :=
  ⟨hK ▸ pg_tup hc h.pg hn hst, fun w0 H0 w H σ env S O d v Q e' st r h' q => by
    unfold gT at h'
    split at h'
    · rename_i ds
      unfold Rep at r
      obtain ⟨a, vs, e1, e2, e3⟩ := r
      exact ⟨a, vs, e1, same_sqT st.ok.ex e2.sq, by rw [← e3.len]; exact h.len ds env e' h', h.sim w0 H0 w H σ env S O ds vs Q e' st e3 h' q⟩
    · cases h'⟩
def sAsg (me : ME) (mg : MG) : MS := fun env S => (me env S).out env fun d S1 => match mg d env with
  | some e => .nx e S1
  | none => .stuck
theorem sim_asg {g : Gam} {is : List Nat} {tg : TG} {mg : MG} (he : SimE g W te me) (hg : SimG g is tg mg) : SimS g W (tAsg te tg) (sAsg me mg) := fun w0 H0 w H σ env S O Dn st p =>
  he w0 H0 w H σ env S O _ st ((PostS.out p).imp fun d S1 w1 H1 st1 l1 p1 v r => by
    cases z : mg d env with
    | none => rw [z] at p1; exact False.elim p1
    | some e1 =>
      rw [z] at p1
      exact hg w0 H0 w1 H1 σ env S1 O d v Dn.nx e1 st1 r z fun σ' O' st' _ => p1 w1 H1 σ' O' st' (.refl w1))
theorem t_asg {tg : Expr} {is : List Nat} {g : TG} {mg : MG} (he : SE X Y W e te me) (hg : SG X Y is tg g mg) (hs : swapsWithSole [tg] e pos.line X.env = pure false := by rfl) (hw : swappedStores [tg] e X.env = pure none := by rfl)
    (h1 : (assignEach [tg] X.env).map (·.2) = [assign tg X.env] := by rfl) : SS X Y W (.Assign [tg] e pos) (tAsg te g) (sAsg me mg) := ⟨ps_asg he.pe hg.pg hs hw h1, sim_asg he.sim hg.sim⟩
theorem t_set {i : Nat} {x : Str} {pos' : Pos} (hN : X.N.Nodup) (hi : X.N[i]? = some x) (hx : Loc X.env.scope x) (he : SE X Y W e te me) (hs : swapsWith e (some (.Name x pos')) pos.line X.env = pure false := by rfl) (hf : X.fn x = true ∨ X.env.scope.names.lookup x = some .local := by first | exact .inl rfl | exact .inr rfl | assumption) :
    SS X Y W (.Assign [.Name x pos'] e pos) (tAsg te (gName i)) (sAsg me (gN i)) := ⟨ps_set hN hi hx he.pe hs hf, sim_asg (is := [i]) he.sim fun w0 H0 w H σ env S O d v Q e st r h q => by
    cases h
    exact q _ _ (st.set_v i r) (Slots.set σ (by simp))⟩
def sOwn (i : Nat) (mf : MF) : MS := fun env S => (mf env S).out env fun c S1 => if i < env.length then .nx (env.set i (.o c)) S1 else .stuck
theorem sim_own {g : Gam} {i : Nat} (h : SimF g W te mf) : SimS g W (tAsg te (gName i)) (sOwn i mf) := fun w0 H0 w H σ env S O Dn st p =>
  h w0 H0 w H σ env S O _ st ((PostS.out p).imp fun c S1 w1 H1 st1 l1 p1 q ow => by
    split at p1
    · rename_i hi
      exact p1 w1 H1 _ _ (st1.set_o i ow (by rw [← st1.l1]; exact hi)) (.refl w1)
    · exact False.elim p1)
theorem t_own {i : Nat} {x : Str} {pos' : Pos} (hN : X.N.Nodup) (hi : X.N[i]? = some x) (hx : Loc X.env.scope x) (he : SF X Y W e te mf) (hs : swapsWith e (some (.Name x pos')) pos.line X.env = pure false := by rfl) (hf : X.fn x = true ∨ X.env.scope.names.lookup x = some .local := by first | exact .inl rfl | exact .inr rfl | assumption) :
    SS X Y W (.Assign [.Name x pos'] e pos) (tAsg te (gName i)) (sOwn i mf) := ⟨ps_set hN hi hx he.pe hs hf, sim_own he.sim⟩
def sPar (i j : Nat) (m : MA) : MS := fun env S => (m env S).out env fun ds S1 => match ds with
  | [d1, d2] => .nx ((env.set i (.v d1)).set j (.v d2)) S1
  | _ => .stuck
theorem t_par {i j : Nat} {x y : Str} {px py pt : Pos} {kt k2 pt2} (hN : X.N.Nodup) (hi : X.N[i]? = some x) (hj : X.N[j]? = some y) (hij : i ≠ j)
    (hx : X.env.scope.names.lookup x = some .local) (hy : X.env.scope.names.lookup y = some .local) (ha : SA X Y W [a, b] t m)
    (hw : swappedStores [.Tuple [.Name x px, .Name y py] kt pt] (.Tuple [a, b] k2 pt2) X.env = pure (some [x, y])) (hc : X.calm = true := by rfl)
    (hs : swapsWithSole [.Tuple [.Name x px, .Name y py] kt pt] (.Tuple [a, b] k2 pt2) pos.line X.env = pure false := by rfl) :
    SS X Y W (.Assign [.Tuple [.Name x px, .Name y py] kt pt] (.Tuple [a, b] k2 pt2) pos) (tPar i j t) (sPar i j m) := ⟨ps_par hc hN hi hj hij hx hy ha.pa hw hs, fun w0 H0 w H σ env S O Dn st p =>
  ha.sim w0 H0 w H σ env S O _ st ((PostS.out p).imp fun ds S1 w1 H1 st1 l1 p1 vs r => by
    split at p1
    · rename_i d1 d2
      unfold RepL at r
      obtain ⟨v1, r1, e1, q1, r⟩ := r
      unfold RepL at r
      obtain ⟨v2, r2, e2, q2, r⟩ := r
      unfold RepL at r
      subst r e2
      exact ⟨v1, v2, e1, p1 w1 H1 _ _ ((st1.set_v i q1).set_v j q2) (.refl w1)⟩
    · exact False.elim p1)⟩
end
end Mm
namespace Mm
open PySem L2
def ItR (g : Gam) (w1 : Wd) (J : It) (ds : List D) : Prop := ∀ w H, w1.le w → Same w.G H →
  (∀ (i : Nat) d, ds[i]? = some d → J.go i H ∧ ∀ x H', J.yld i H x H' → ∃ w', Grow w H w' H' ∧ Rep g w' d x) ∧ J.stop ds.length H
abbrev MI := Envr → Sto → R (List D)
def SimI (g : Gam) (W : WX) (wi : TI) (m : MI) : Prop := ∀ w0 H0 w H σ env S O (Q : It → Hp → Prop), StR g w0 H0 w H σ env S O →
  PostX g W w0 H0 w σ env O (m env S) (fun ds _ w' H' => ∀ J, ItR g w' J ds → Q J H') → wi σ H Q
structure SI (X : Cx) (Y : Gam) (W : WX) (tg e : Expr) (wi : TI) (m : MI) : Prop where
  pi : PI X tg e wi
  sim : SimI Y W wi m
section
variable {X : Cx} {Y : Gam} {W : WX} {e a b c tg : Expr} {es rest : List Expr} {ta tb te : TE} {tt tu : TT} {ma mb me : ME} {mt mu : MT} {mf : MF} {t : TA} {m : MA} {pos : Pos} {s : Stmt} {ss : List Stmt} {t1 t2 : TS} {m1 m2 : MS} {wi : TI} {mi : MI}
def forL (g : MG) (b : MS) : List D → MS
  | [], env, S => .nx env S
  | d :: ds, env, S => match g d env with
    | none => .stuck
    | some e1 => match b e1 S with
      | .nx e S1 => forL g b ds e S1
      | .ct e S1 => forL g b ds e S1
      | .bk e S1 => .nx e S1
      | o => o
def sFor (mi : MI) (g : MG) (b : MS) : MS := fun env S => (mi env S).out env fun ds S1 => forL g b ds env S1
theorem sim_for {g : Gam} {is : List Nat} {tg : TG} {mg : MG} (hi : SimI g W wi mi) (hg : SimG g is tg mg) (hb : SimS g W t1 m1) : SimS g W (tFor wi tg t1) (sFor mi mg m1) := fun w0 H0 w H σ env S O Dn st p =>
  hi w0 H0 w H σ env S O _ st ((PostS.out p).imp fun ds S1 w1 H1 st1 l1 p1 J hJ => by
    refine ⟨fun i m σ H => m + i = ds.length ∧ ∃ w env S O, StR g w0 H0 w H σ env S O ∧ w1.le w ∧ PostS g W w0 H0 w Dn (forL mg m1 (ds.drop i) env S), ⟨ds.length, by omega, w1, env, S1, O, st1, .refl w1, p1⟩, ?_⟩
    rintro i k σ2 H2 ⟨hk, w2, env2, S2, O2, st2, l2, p2⟩
    obtain ⟨hgo, hstop⟩ := hJ w2 H2 l2 st2.ok.ex
    by_cases hlt : i < ds.length
    · have ed : ds.drop i = ds[i] :: ds.drop (i + 1) := List.drop_eq_getElem_cons hlt
      obtain ⟨go, yld⟩ := hgo i ds[i] (List.getElem?_eq_getElem hlt)
      refine .inr ⟨go, fun σ' H' => ∃ w env S O, StR g w0 H0 w H' σ' env S O ∧ w1.le w ∧ PostS g W w0 H0 w Dn (forL mg m1 (ds.drop (i + 1)) env S), fun σ' H' h' => ⟨k - 1, by omega, by omega, h'⟩, fun x H' hy => ?_⟩
      obtain ⟨w3, gr, rx⟩ := yld x H' hy
      have st3 := st2.grow gr
      have l3 := gr.le st2.ok
      rw [ed] at p2
      unfold forL at p2
      cases z : mg ds[i] env2 with
      | none => rw [z] at p2; exact False.elim p2
      | some e1 =>
        rw [z] at p2
        refine hg w0 H0 w3 H' σ2 env2 S2 O2 ds[i] x _ e1 st3 rx z fun σ4 O4 st4 _ => ?_
        refine hb w0 H0 w3 H' σ4 e1 S2 O4 _ st4 ?_
        have p2 : PostS g W w0 H0 w2 Dn (match m1 e1 S2 with
          | .nx e S1 => forL mg m1 (ds.drop (i + 1)) e S1
          | .ct e S1 => forL mg m1 (ds.drop (i + 1)) e S1
          | .bk e S1 => .nx e S1
          | o => o) := p2
        cases y : m1 e1 S2 with
        | stuck => rw [y] at p2; exact p2
        | nx e S5 => rw [y] at p2; exact fun w' H' σ' O' st' l' => ⟨w', e, S5, O', st', (l2.trans l3).trans l', p2.mono (l3.trans l')⟩
        | ct e S5 => rw [y] at p2; exact fun w' H' σ' O' st' l' => ⟨w', e, S5, O', st', (l2.trans l3).trans l', p2.mono (l3.trans l')⟩
        | bk e S5 => rw [y] at p2; exact fun w' H' σ' O' st' l' => p2 w' H' σ' O' st' (l3.trans l')
        | rt r S5 => rw [y] at p2; exact p2
        | exc c q e S5 => rw [y] at p2; exact fun w' H' σ' O' cls dd st' l' x => p2 w' H' σ' O' cls dd st' (l3.trans l') x
    · have ei : i = ds.length := by omega
      refine .inl ⟨by rw [ei]; exact hstop, ?_⟩
      have ed : ds.drop i = [] := by rw [ei]; exact List.drop_length
      rw [ed] at p2
      exact p2 w2 H2 σ2 O2 st2 (.refl w2))
theorem t_for {tg iter : Expr} {body : List Stmt} {is : List Nat} {g : TG} {mg : MG} (hp : PassesOwn (model X.prog X.w) X.A X.env X.xe) (hi : SI X Y W tg iter wi mi) (hg : SG X Y is tg g mg) (hb : SB X Y W body t1 m1) (hc : X.calm = true := by rfl)
    (hs : ∀ x, foldedSetIterable iter X.env x = pure x := by intro _; rfl) : SS X Y W (.For tg iter body [] pos) (tFor wi g t1) (sFor mi mg m1) := ⟨ps_for hp hc hi.pi hg.pg hb.pss hs, sim_for hi.sim hg.sim hb.sim⟩
def whL (c : MT) (b : MS) : Nat → MS
  | 0, _, _ => .stuck
  | n + 1, env, S => (c env S).out env fun k S1 => if k = true then (match b env S1 with
      | .nx e S2 => whL c b n e S2
      | .ct e S2 => whL c b n e S2
      | .bk e S2 => .nx e S2
      | o => o) else .nx env S1
theorem sim_while {g : Gam} {n : Nat} (hc : SimT g W tt mt) (hb : SimS g W t1 m1) : SimS g W (tWhile tt t1) (whL mt m1 n) := fun w0 H0 w H σ env S O Dn st p => by
  refine ⟨fun m σ H => ∃ w2 env S O, StR g w0 H0 w2 H σ env S O ∧ w.le w2 ∧ PostS g W w0 H0 w2 Dn (whL mt m1 m env S), ⟨n, w, env, S, O, st, .refl w, p⟩, ?_⟩
  rintro m σ2 H2 ⟨w2, env2, S2, O2, st2, l2, p2⟩
  cases m with
  | zero => exact False.elim p2
  | succ m =>
    unfold whL at p2
    refine hc w0 H0 w2 H2 σ2 env2 S2 O2 _ st2 ((PostS.out p2).imp fun k S3 w3 H3 st3 l3 p3 => ?_)
    cases k with
    | false =>
      simp only [Bool.false_eq_true, if_false] at p3 ⊢
      exact p3 w3 H3 σ2 O2 st3 (.refl w3)
    | true =>
      simp only [if_true] at p3 ⊢
      refine ⟨fun σ' H' => ∃ w4 env S O, StR g w0 H0 w4 H' σ' env S O ∧ w.le w4 ∧ PostS g W w0 H0 w4 Dn (whL mt m1 m env S), fun σ' H' h' => ⟨m, Nat.lt_succ_self _, h'⟩, ?_⟩
      refine hb w0 H0 w3 H3 σ2 env2 S3 O2 _ st3 ?_
      cases y : m1 env2 S3 with
      | stuck => rw [y] at p3; exact p3
      | nx e S5 => rw [y] at p3; exact fun w' H' σ' O' st' l' => ⟨w', e, S5, O', st', (l2.trans l3).trans l', PostS.mono p3 l'⟩
      | ct e S5 => rw [y] at p3; exact fun w' H' σ' O' st' l' => ⟨w', e, S5, O', st', (l2.trans l3).trans l', PostS.mono p3 l'⟩
      | bk e S5 => rw [y] at p3; exact fun w' H' σ' O' st' l' => p3 w' H' σ' O' st' l'
      | rt r S5 => rw [y] at p3; exact p3
      | exc c q e S5 => rw [y] at p3; exact fun w' H' σ' O' cls dd st' l' x => p3 w' H' σ' O' cls dd st' l' x
theorem t_while (n : Nat) {body : List Stmt} (hp : PassesOwn (model X.prog X.w) X.A X.env X.xe) (hc : SC X Y W c tt mt) (hb : SB X Y W body t1 m1) : SS X Y W (.While c body [] pos) (tWhile tt t1) (whL mt m1 n) := ⟨ps_while hp hc.pt hb.pss, sim_while hc.sim hb.sim⟩
def hideS : Sl → Sl
  | .o _ => .no
  | s => s
def wipeE (env : Envr) : List Nat → Envr
  | [] => env.map hideS
  | v :: vs => (wipeE env vs).set v .no
theorem wipeE_len (env : Envr) : ∀ vs : List Nat, (wipeE env vs).length = env.length
  | [] => List.length_map _
  | v :: vs => by
    unfold wipeE
    rw [List.length_set, wipeE_len env vs]
theorem wipe_get (σ : L2.St) : ∀ (vs : List Nat) (k : Nat), k ∉ vs → (wipe σ vs)[k]? = σ[k]?
  | [], _, _ => rfl
  | v :: vs, k, h => by
    unfold wipe
    rw [List.getElem?_set_ne (fun z => h (by rw [z]; exact List.mem_cons_self))]
    exact wipe_get σ vs k fun z => h (List.mem_cons_of_mem _ z)
theorem wipe_in (σ : L2.St) : ∀ (vs : List Nat) (k : Nat), k ∈ vs → k < σ.length → (wipe σ vs)[k]? = some none
  | v :: vs, k, h, l => by
    unfold wipe
    by_cases e : v = k
    · rw [e, List.getElem?_set_self (by rw [wipe_length]; exact l)]
    · rw [List.getElem?_set_ne e]
      rcases List.mem_cons.mp h with z | z
      · exact absurd z.symm e
      · exact wipe_in σ vs k z l
theorem wipe_slots {is : List Nat} {a b : L2.St} (h : Slots is a b) {vs : List Nat} (hv : ∀ i ∈ is, i ∈ vs) : wipe b vs = wipe a vs := by
  refine List.ext_getElem? fun k => ?_
  by_cases hk : k ∈ vs
  · by_cases hl : k < a.length
    · rw [wipe_in a vs k hk hl, wipe_in b vs k hk (by rw [h.1]; exact hl)]
    · have h1 := h.1
      rw [List.getElem?_eq_none (l := wipe b vs) (by rw [wipe_length]; omega), List.getElem?_eq_none (l := wipe a vs) (by rw [wipe_length]; omega)]
  · rw [wipe_get b vs k hk, wipe_get a vs k hk]
    exact h.2 k fun z => hk (hv k z)
theorem wipe_wipe {vs : List Nat} (σ : L2.St) : wipe (wipe σ vs) vs = wipe σ vs := wipe_slots (is := vs) ⟨wipe_length σ vs, fun k hk => wipe_get σ vs k hk⟩ fun _ h => h
theorem wipeE_get (env : Envr) : ∀ (vs : List Nat) (k : Nat) (s : Sl), (wipeE env vs)[k]? = some s → s = .no ∨ (∃ d, s = .v d ∧ env[k]? = some (.v d) ∧ k ∉ vs)
  | [], k, s, h => by
    unfold wipeE at h
    rw [List.getElem?_map] at h
    cases e : env[k]? with
    | none => rw [e] at h; cases h
    | some s' =>
      rw [e] at h
      cases s' with
      | no => exact .inl (Option.some.inj h).symm
      | o c => exact .inl (Option.some.inj h).symm
      | v d => exact .inr ⟨d, (Option.some.inj h).symm, rfl, by simp⟩
  | v :: vs, k, s, h => by
    unfold wipeE at h
    rw [List.getElem?_set] at h
    split at h
    · split at h
      · exact .inl (Option.some.inj h).symm
      · cases h
    · rename_i hne
      rcases wipeE_get env vs k s h with z | ⟨d, z1, z2, z3⟩
      · exact .inl z
      · exact .inr ⟨d, z1, z2, fun q => by
          rcases List.mem_cons.mp q with q | q
          · exact hne q.symm
          · exact z3 q⟩
theorem StR.hide {g : Gam} {w0 w : Wd} {H0 H : Hp} {σ : L2.St} {env : Envr} {S : Sto} {O : List (Option Addr)} (st : StR g w0 H0 w H σ env S O) (vs : List Nat) : StR g w H w H (wipe σ vs) (wipeE env vs) S (List.replicate σ.length none) := by
  have nn : ∀ (i : Nat) (p : Addr), (List.replicate σ.length (none : Option Addr))[i]? ≠ some (some p) := fun i p e => by
    rw [List.getElem?_replicate] at e
    split at e <;> cases e
  refine ⟨st.ok, .refl w H, by rw [wipeE_len, wipe_length]; exact st.l1, by rw [List.length_replicate, wipe_length], fun i s x o e1 e2 e3 => ?_, fun i j p e _ => absurd e (nn i p), fun i p e => absurd e (nn i p)⟩
  have eo : o = none := by
    rw [List.getElem?_replicate] at e3
    split at e3
    · exact (Option.some.inj e3).symm
    · cases e3
  rcases wipeE_get env vs i s e1 with z | ⟨d, z1, z2, z3⟩
  · rw [z]
    exact eo
  · rw [z1]
    rw [wipe_get σ vs i z3] at e2
    have hO : i < O.length := by
      rw [st.l2, ← st.l1]
      exact (List.getElem?_eq_some_iff.mp z2).1
    obtain ⟨_, v, q1, q2⟩ := st.sl i (.v d) x O[i] z2 e2 (List.getElem?_eq_getElem hO)
    exact ⟨eo, v, q1, q2⟩
def W0 : WX := fun _ _ _ _ => False
def lcR (g : MG) (tt : MT) (te : ME) (env : Envr) : List D → Sto → R (List D)
  | [], S => .ok [] S
  | d :: ds, S => match g d env with
    | none => .stuck
    | some e1 => match tt e1 S with
      | .ok true S1 => (match te e1 S1 with
        | .ok y S2 => (lcR g tt te env ds S2).bind fun ys S3 => .ok (y :: ys) S3
        | _ => .stuck)
      | .ok false S1 => lcR g tt te env ds S1
      | _ => .stuck
theorem lcR_noexc {g : MG} {tt : MT} {te : ME} {env : Envr} : ∀ (ds : List D) (S : Sto) (c : Str) (p : Option D) (s : Sto), lcR g tt te env ds S ≠ .exc c p s
  | [], S, c, p, s, h => by
    unfold lcR at h
    cases h
  | d :: ds, S, c, p, s, h => by
    unfold lcR at h
    split at h
    · cases h
    · split at h
      · split at h
        · rename_i y S2 _
          cases q : lcR g tt te env ds S2 with
          | stuck => rw [q] at h; cases h
          | exc c' p' s' => exact lcR_noexc ds S2 c' p' s' q
          | ok ys s' => rw [q] at h; cases h
        · cases h
      · exact lcR_noexc ds _ c p s h
      · cases h
theorem Frame.upd_new {w0 w : Wd} {H0 H : Hp} {p : Addr} {o : HO} (f : Frame w0 H0 w H) (h : H0 p = none) : Frame w0 H0 w (upd H p o) :=
  ⟨f.le, fun a x e n t => by
    rw [upd_ne (fun z => by rw [z, h] at e; cases e)]
    exact f.keep a x e n t, f.newG, f.rho, fun a e => by
    by_cases ha : a = p
    · rw [ha, upd_same]
      exact fun z => nomatch z
    · rw [upd_ne ha]
      exact f.dom a e, fun a ps e => by
    rw [upd_ne (fun z => by rw [z, h] at e; cases e)]
    exact f.tb a ps e, fun a x u e => by
    rw [upd_ne (fun z => by rw [z, h] at e; cases e)]
    exact f.fz a x u e⟩
theorem ok_upd {g : Gam} {w : Wd} {H : Hp} {S : Sto} {p : Addr} {xs : List V} {o : HO} (k : Ok g w H S) (e : H p = some (.lst xs)) (hg : w.G p = none) (hr : p ∉ w.rho) : Ok g w (upd H p o) S := by
  refine ⟨fun b u q => ?_, ⟨k.cells.nd, k.cells.len, fun m b q e9 e10 => ?_⟩, tabs_upd k.tabs (fun ps z => by rw [e] at z; cases z) (fun φ _ z => by rw [e] at z; cases z), k.notab⟩
  · rw [upd_ne (fun z => by rw [z, hg] at q; cases q)]
    exact k.ex b u q
  · obtain ⟨q1, q2⟩ := k.cells.at_ m b q e9 e10
    exact ⟨q1, q2.move (.refl w) (upd_ne fun z => hr (by rw [← z]; exact List.mem_of_getElem? e9))⟩
def fin (ys : List D) (S : Sto) : R Cell := if szB ys.length then .ok (.lst ys) S else .stuck
def fLc (mi : MI) (g : MG) (tt : MT) (te : ME) (vs : List Nat) : MF := fun env S => (mi env S).bind fun ds S1 => (lcR g tt te (wipeE env vs) ds S1).bind fin
theorem sim_lc {g : Gam} {is vs : List Nat} {tg : TG} {mg : MG} (hi : SimI g W wi mi) (hg : SimG g is tg mg) (hv : ∀ i ∈ is, i ∈ vs) (ht : SimT g W0 tt mt) (he : SimE g W0 te me) : SimF g W (tLc wi tg tt te vs) (fLc mi mg mt me vs) := fun w0 H0 w H σ env S O Q st p => by
  refine hi w0 H0 w H σ env S O _ st ((PostX.bind p).imp fun ds S1 w1 H1 st1 l1 p1 J hJ D hD => ?_)
  obtain ⟨o1, o2, o3, o4⟩ := st1.out hD
  refine ⟨fun i m H => m + i = ds.length ∧ ∃ w' S' acc accV, Frame w1 H1 w' H ∧ Ok g w' H S' ∧ H D = some (.lst accV) ∧ w'.G D = none ∧ D ∉ w'.rho ∧ RepL g w' acc accV ∧
    PostX g W w0 H0 w' σ env O ((lcR mg mt me (wipeE env vs) (ds.drop i) S').bind fun ys S3 => fin (acc ++ ys) S3) (fun c _ w' H' => ∀ p, OwnAt g w' H0 H' O c p → Q (.ref p) H'), ?_, ?_⟩
  · obtain ⟨k2, f2⟩ := ok_lay (o := .lst []) st1.ok hD nt_lst
    exact ⟨ds.length, by omega, w1, S1, [], [], f2, k2, upd_same, o2, o3, RepL.nil_, p1⟩
  · rintro i k H2 ⟨hk, w2, S2, acc, accV, f2, k2, e2, g2, r2, ra, p2⟩
    obtain ⟨hgo, hstop⟩ := hJ w2 H2 f2.le k2.ex
    have st2 : StR g w0 H0 w2 H2 σ env S2 O := st1.after f2 k2
    have stb : StR g w2 H2 w2 H2 (wipe σ vs) (wipeE env vs) S2 (List.replicate σ.length none) := st2.hide vs
    by_cases hlt : i < ds.length
    · have ed : ds.drop i = ds[i] :: ds.drop (i + 1) := List.drop_eq_getElem_cons hlt
      obtain ⟨go, yld⟩ := hgo i ds[i] (List.getElem?_eq_getElem hlt)
      refine .inr ⟨go, fun H => ∃ w' S' acc accV, Frame w1 H1 w' H ∧ Ok g w' H S' ∧ H D = some (.lst accV) ∧ w'.G D = none ∧ D ∉ w'.rho ∧ RepL g w' acc accV ∧
        PostX g W w0 H0 w' σ env O ((lcR mg mt me (wipeE env vs) (ds.drop (i + 1)) S').bind fun ys S3 => fin (acc ++ ys) S3) (fun c _ w' H' => ∀ p, OwnAt g w' H0 H' O c p → Q (.ref p) H'), fun H' h' => ⟨k - 1, by omega, by omega, h'⟩, fun x H' hy => ?_⟩
      obtain ⟨w3, gr, rx⟩ := yld x H' hy
      have st3 := stb.grow gr
      rw [ed] at p2
      unfold lcR at p2
      cases z : mg ds[i] (wipeE env vs) with
      | none => rw [z] at p2; exact False.elim p2
      | some e1 =>
        simp only [z] at p2
        refine hg w2 H2 w3 H' _ _ S2 _ ds[i] x _ e1 st3 rx z fun σ4 O4 st4 sl4 => ⟨?_, ?_⟩
        · rw [wipe_slots sl4 hv, wipe_wipe]
        · refine ht w2 H2 w3 H' σ4 e1 S2 O4 _ st4 ?_
          cases y : mt e1 S2 with
          | stuck => simp only [y] at p2; exact p2
          | exc c q s => simp only [y] at p2; exact False.elim p2
          | ok bb S5 =>
            intro w5 H5 st5 l5
            have keepD : ∀ {w6 : Wd} {H6 : Hp}, Frame w2 H2 w6 H6 → H6 D = some (.lst accV) ∧ w6.G D = none ∧ D ∉ w6.rho := fun {w6 H6} f6 =>
              ⟨f6.keep D _ e2 r2 nt_lst, (f6.newG D (by rw [e2]; exact fun z => nomatch z)).trans g2, fun q => by
                rcases f6.rho D q with z | z
                · exact r2 z
                · rw [e2] at z; cases z⟩
            cases bb with
            | false =>
              simp only [y] at p2
              simp only [Bool.false_eq_true, if_false]
              obtain ⟨q1, q2, q3⟩ := keepD st5.fr
              exact ⟨w5, S5, acc, accV, f2.trans st5.fr, st5.ok, q1, q2, q3, ra.mono st5.fr.le, PostX.mono p2 st5.fr.le⟩
            | true =>
              simp only [y] at p2
              simp only [if_true]
              refine he w2 H2 w5 H5 σ4 e1 S5 O4 _ st5 ?_
              cases u : me e1 S5 with
              | stuck => simp only [u] at p2; exact p2
              | exc c q s => simp only [u] at p2; exact False.elim p2
              | ok yv S6 =>
                simp only [u] at p2
                intro w6 H6 st6 l6 v6 r6
                obtain ⟨q1, q2, q3⟩ := keepD st6.fr
                have p3 : PostX g W w0 H0 w2 σ env O (((lcR mg mt me (wipeE env vs) (ds.drop (i + 1)) S6).bind fun ys S3 => R.ok (yv :: ys) S3).bind fun ys S3 => fin (acc ++ ys) S3) (fun c _ w' H' => ∀ p, OwnAt g w' H0 H' O c p → Q (.ref p) H') := p2
                have p4 : PostX g W w0 H0 w2 σ env O ((lcR mg mt me (wipeE env vs) (ds.drop (i + 1)) S6).bind fun ys S3 => fin ((acc ++ [yv]) ++ ys) S3) (fun c _ w' H' => ∀ p, OwnAt g w' H0 H' O c p → Q (.ref p) H') := by
                  cases q : lcR mg mt me (wipeE env vs) (ds.drop (i + 1)) S6 with
                  | stuck => rw [q] at p3; exact p3
                  | exc c a s => rw [q] at p3; exact p3
                  | ok ys s =>
                    rw [q] at p3
                    have p3 : PostX g W w0 H0 w2 σ env O (fin (acc ++ (yv :: ys)) s) _ := p3
                    show PostX g W w0 H0 w2 σ env O (fin ((acc ++ [yv]) ++ ys) s) _
                    rw [List.append_assoc]
                    exact p3
                have hsz : acc.length + 1 ≤ 100000 := by
                  cases q : lcR mg mt me (wipeE env vs) (ds.drop (i + 1)) S6 with
                  | stuck => rw [q] at p4; exact False.elim p4
                  | exc c a s => exact absurd q (lcR_noexc _ _ _ _ _)
                  | ok ys s =>
                    rw [q] at p4
                    have p4 : PostX g W w0 H0 w2 σ env O (fin ((acc ++ [yv]) ++ ys) s) _ := p4
                    unfold fin at p4
                    split at p4
                    · rename_i hz
                      have hz2 : ((acc ++ [yv]) ++ ys).length ≤ 100000 := of_decide_eq_true hz
                      simp only [List.length_append, List.length_cons, List.length_nil] at hz2
                      omega
                    · exact False.elim p4
                refine ⟨accV, q1, Nat.lt_of_lt_of_le (by rw [← ra.len]; omega) (by decide : 100000 ≤ sizeLine), ?_⟩
                have f7 := (f2.trans st6.fr).upd_new (o := .lst (accV ++ [v6])) hD
                have k7 := ok_upd (o := .lst (accV ++ [v6])) st6.ok q1 q2 q3
                exact ⟨w6, S6, acc ++ [yv], accV ++ [v6], f7, k7, upd_same, q2, q3, (ra.mono st6.fr.le).append_ (RepL.cons_ r6 RepL.nil_), PostX.mono p4 st6.fr.le⟩
    · have ei : i = ds.length := by omega
      refine .inl ⟨by rw [ei]; exact hstop, ?_⟩
      have ed : ds.drop i = [] := by rw [ei]; exact List.drop_length
      rw [ed] at p2
      have p2 : PostX g W w0 H0 w2 σ env O (fin (acc ++ []) S2) _ := p2
      rw [List.append_nil] at p2
      unfold fin at p2
      split at p2
      · exact p2 w2 H2 st2 (.refl w2) D ⟨o1, g2, r2, o4, ⟨accV, e2, ra⟩⟩
      · exact False.elim p2
end
end Mm
namespace Mm
open PySem L2
section
variable {X : Cx} {Y : Gam} {W : WX} {e a b c tg iter elt : Expr} {es rest ifs : List Expr} {ta tb te : TE} {tt tu : TT} {ma mb me : ME} {mt mu : MT} {mf : MF} {t : TA} {m : MA} {pos : Pos} {s : Stmt} {ss : List Stmt} {t1 t2 : TS} {m1 m2 : MS} {wi : TI} {mi : MI}
structure ST (X : Cx) (Y : Gam) (W : WX) (ifs : List Expr) (t : TT) (m : MT) : Prop where
  pts : PTs X ifs t
  sim : SimT Y W t m
def cYes : MT := fun _ S => .ok true S
theorem ts_nil : ST X Y W [] tYes cYes := ⟨pts_nil, fun w0 H0 w H σ env S O Q st p => p w H st (.refl w)⟩
theorem ts_one (h : SC X Y W c tt mt) : ST X Y W [c] tt mt := ⟨pts_one h.pt, h.sim⟩
variable {scope : Scope} {own : List (Str × Nat)} {is : List Nat} {g : TG} {mg : MG}
theorem f_lc (hN : X.N.Nodup) (hi : SI X Y W tg iter wi mi) (ok : BlkOk X.N X.env.scope scope own) (hg : ∀ (s : Shared) (H : Hp) (C : Addr) (cl : List (Str × Addr)) (fp : List Addr), SG (X.blk s H scope (compEnvC scope cl C X.env) fp) Y is tg g mg)
    (ht : ∀ (s : Shared) (H : Hp) (C : Addr) (cl : List (Str × Addr)) (fp : List Addr), ST (X.blk s H scope (compEnvC scope cl C X.env) fp) Y W0 ifs tt mt)
    (he : ∀ (s : Shared) (H : Hp) (C : Addr) (cl : List (Str × Addr)) (fp : List Addr), SE (X.blk s H scope (compEnvC scope cl C X.env) fp) Y W0 elt te me) (hv : ∀ i ∈ is, i ∈ own.map (·.2) := by decide) (hc : X.calm = true := by rfl) (hs : ∀ x, foldedSetIterable iter X.env x = pure x := by intro _; rfl) :
    SF X Y W (.ListComp elt [⟨tg, iter, ifs, 0⟩] scope pos) (tLc wi g tt te (own.map (·.2))) (fLc mi mg mt me (own.map (·.2))) :=
  ⟨pe_lc hc hN hi.pi ok (fun s H C cl fp => (hg s H C cl fp).pg) (fun s H C cl fp => (ht s H C cl fp).pts) (fun s H C cl fp => (he s H C cl fp).pe) hs,
    sim_lc hi.sim (hg X.s_0 X.H_0 0 [] []).sim hv (ht X.s_0 X.H_0 0 [] []).sim (he X.s_0 X.H_0 0 [] []).sim⟩
theorem ps_lc {i : Nat} {y : Str} {py spos : Pos} (hN : X.N.Nodup) (hy : X.N[i]? = some y) (hyl : X.env.scope.names.lookup y = some .local) (hsw : swapsWith (.ListComp elt [⟨tg, iter, ifs, 0⟩] scope pos) (some (.Name y py)) spos.line X.env = pure true)
    (hi : SI X Y W tg iter wi mi) (ok : BlkOk X.N X.env.scope scope own) (hg : ∀ (s : Shared) (H : Hp) (C : Addr) (cl : List (Str × Addr)) (fp : List Addr), SG (X.blk s H scope (compEnvC scope cl C X.env) fp) Y is tg g mg)
    (ht : ∀ (s : Shared) (H : Hp) (C : Addr) (cl : List (Str × Addr)) (fp : List Addr), ST (X.blk s H scope (compEnvC scope cl C X.env) fp) Y W0 ifs tt mt)
    (he : ∀ (s : Shared) (H : Hp) (C : Addr) (cl : List (Str × Addr)) (fp : List Addr), SE (X.blk s H scope (compEnvC scope cl C X.env) fp) Y W0 elt te me) (hc : X.calm = true) (hs : ∀ x, foldedSetIterable iter X.env x = pure x) :
    PS X (.Assign [.Name y py] (.ListComp elt [⟨tg, iter, ifs, 0⟩] scope pos) spos) (tAsg (tLc wi g tt te (own.map (·.2))) (gName i)) :=
  ps_setLc hc hN hy hyl hsw hi.pi ok (fun s H C cl fp => (hg s H C cl fp).pg) (fun s H C cl fp => (ht s H C cl fp).pts) (fun s H C cl fp => (he s H C cl fp).pe) hs
theorem t_ownLc {i : Nat} {y : Str} {py spos : Pos} (hN : X.N.Nodup) (hy : X.N[i]? = some y) (hyl : X.env.scope.names.lookup y = some .local) (hsw : swapsWith (.ListComp elt [⟨tg, iter, ifs, 0⟩] scope pos) (some (.Name y py)) spos.line X.env = pure true)
    (hi : SI X Y W tg iter wi mi) (ok : BlkOk X.N X.env.scope scope own) (hg : ∀ (s : Shared) (H : Hp) (C : Addr) (cl : List (Str × Addr)) (fp : List Addr), SG (X.blk s H scope (compEnvC scope cl C X.env) fp) Y is tg g mg)
    (ht : ∀ (s : Shared) (H : Hp) (C : Addr) (cl : List (Str × Addr)) (fp : List Addr), ST (X.blk s H scope (compEnvC scope cl C X.env) fp) Y W0 ifs tt mt)
    (he : ∀ (s : Shared) (H : Hp) (C : Addr) (cl : List (Str × Addr)) (fp : List Addr), SE (X.blk s H scope (compEnvC scope cl C X.env) fp) Y W0 elt te me) (hv : ∀ i ∈ is, i ∈ own.map (·.2) := by decide) (hc : X.calm = true := by rfl) (hs : ∀ x, foldedSetIterable iter X.env x = pure x := by intro _; rfl) :
    SS X Y W (.Assign [.Name y py] (.ListComp elt [⟨tg, iter, ifs, 0⟩] scope pos) spos) (tAsg (tLc wi g tt te (own.map (·.2))) (gName i)) (sOwn i (fLc mi mg mt me (own.map (·.2)))) :=
  ⟨ps_lc hN hy hyl hsw hi ok hg ht he hc hs, sim_own (sim_lc hi.sim (hg X.s_0 X.H_0 0 [] []).sim hv (ht X.s_0 X.H_0 0 [] []).sim (he X.s_0 X.H_0 0 [] []).sim)⟩
theorem sim_frz {g : Gam} (h : SimF g W te mf) : SimE g W te (mFrz mf) := fun w0 H0 w H σ env S O Q st p => h w0 H0 w H σ env S O Q st ((PostX.bind p).imp fun c S1 w1 H1 st1 l1 p1 q ow => by
  obtain ⟨w2, st2, l2, r⟩ := own_freeze st1 ow
  exact p1 w2 H1 st2 l2 _ r)
theorem t_setLc {i : Nat} {y : Str} {py spos : Pos} (hN : X.N.Nodup) (hy : X.N[i]? = some y) (hyl : X.env.scope.names.lookup y = some .local) (hsw : swapsWith (.ListComp elt [⟨tg, iter, ifs, 0⟩] scope pos) (some (.Name y py)) spos.line X.env = pure true)
    (hi : SI X Y W tg iter wi mi) (ok : BlkOk X.N X.env.scope scope own) (hg : ∀ (s : Shared) (H : Hp) (C : Addr) (cl : List (Str × Addr)) (fp : List Addr), SG (X.blk s H scope (compEnvC scope cl C X.env) fp) Y is tg g mg)
    (ht : ∀ (s : Shared) (H : Hp) (C : Addr) (cl : List (Str × Addr)) (fp : List Addr), ST (X.blk s H scope (compEnvC scope cl C X.env) fp) Y W0 ifs tt mt)
    (he : ∀ (s : Shared) (H : Hp) (C : Addr) (cl : List (Str × Addr)) (fp : List Addr), SE (X.blk s H scope (compEnvC scope cl C X.env) fp) Y W0 elt te me) (hv : ∀ i ∈ is, i ∈ own.map (·.2) := by decide) (hc : X.calm = true := by rfl) (hs : ∀ x, foldedSetIterable iter X.env x = pure x := by intro _; rfl) :
    SS X Y W (.Assign [.Name y py] (.ListComp elt [⟨tg, iter, ifs, 0⟩] scope pos) spos) (tAsg (tLc wi g tt te (own.map (·.2))) (gName i)) (sAsg (mFrz (fLc mi mg mt me (own.map (·.2)))) (gN i)) :=
  ⟨ps_lc hN hy hyl hsw hi ok hg ht he hc hs, sim_asg (is := [i]) (sim_frz (sim_lc hi.sim (hg X.s_0 X.H_0 0 [] []).sim hv (ht X.s_0 X.H_0 0 [] []).sim (he X.s_0 X.H_0 0 [] []).sim)) fun w0 H0 w H σ env S O d v Q e st r h q => by
    cases h
    exact q _ _ (st.set_v i r) (Slots.set σ (by simp))⟩
def startE (n : Nat) (ds : List D) : Envr := ds.map Sl.v ++ List.replicate (n - ds.length) .no
def mFn (n : Nat) (m : MS) : MFn := fun ds S => match m (startE n ds) S with
  | .nx _ S1 => .ok (.val .non) S1
  | .rt r S1 => .ok r S1
  | .exc c p _ S1 => .exc c p S1
  | _ => .stuck
theorem stR_start {g : Gam} {w : Wd} {H : Hp} {S : Sto} {N : List Str} {ds : List D} {vs : List V} (k : Ok g w H S) (r : RepL g w ds vs) : StR g w H w H (L2.start N vs) (startE N.length ds) S (List.replicate (L2.start N vs).length none) := by
  have nn : ∀ (i : Nat) (p : Addr), (List.replicate (L2.start N vs).length (none : Option Addr))[i]? ≠ some (some p) := fun i p e => by
    rw [List.getElem?_replicate] at e
    split at e <;> cases e
  refine ⟨k, .refl w H, ?_, List.length_replicate, fun i s x o e1 e2 e3 => ?_, fun i j p e _ => absurd e (nn i p), fun i p e => absurd e (nn i p)⟩
  · unfold startE L2.start
    rw [List.length_append, List.length_append, List.length_map, List.length_map, List.length_replicate, List.length_replicate, r.len]
  · have eo : o = none := by
      rw [List.getElem?_replicate] at e3
      split at e3
      · exact (Option.some.inj e3).symm
      · cases e3
    unfold startE at e1
    unfold L2.start at e2
    by_cases hi : i < ds.length
    · rw [List.getElem?_append_left (by rw [List.length_map]; exact hi), List.getElem?_map, List.getElem?_eq_getElem hi] at e1
      obtain ⟨v, ev, rv⟩ := r.at_ (List.getElem?_eq_getElem hi)
      rw [List.getElem?_append_left (by rw [List.length_map, ← r.len]; exact hi), List.getElem?_map, ev] at e2
      cases e1
      cases e2
      exact ⟨eo, v, rfl, rv⟩
    · rw [List.getElem?_append_right (by rw [List.length_map]; omega), List.getElem?_replicate] at e1
      split at e1
      · cases e1
        exact eo
      · cases e1
theorem fn_post {g : Gam} {w : Wd} {H : Hp} {S : Sto} {N : List Str} {ds : List D} {vs : List V} {Q : VK} {E : XK} (k : Ok g w H S) (r : RepL g w ds vs) (h : SimS g (fun cls d _ H => E cls d H) t1 m1) (p : PostF g w H Q E (mFn N.length m1 ds S)) :
    t1 { nx := fun _ H' => Q .non H', rt := Q } (L2.start N vs) H := by
  refine h w H w H _ (startE N.length ds) S _ _ (stR_start k r) ?_
  unfold mFn at p
  cases q : m1 (startE N.length ds) S with
  | stuck => rw [q] at p; exact p
  | bk e S1 => rw [q] at p; exact False.elim p
  | ct e S1 => rw [q] at p; exact False.elim p
  | nx e S1 =>
    rw [q] at p
    exact fun w' H' σ' O' st' _ => p w' H' .non st'.fr st'.ok (by unfold RetR Rep; rfl)
  | rt rr S1 =>
    rw [q] at p
    exact fun w' H' v k' f' r' => p w' H' v f' k' r'
  | exc c x e S1 =>
    rw [q] at p
    exact fun w' H' σ' O' cls dd st' _ x => p w' H' cls dd st'.fr st'.ok x
theorem fn_sim {P : Program} {w : World} {K : PySem.W.Frag} {mg : Str → Option Value} {base : Heap} {x qual : Str} {params : Arguments} {body : List Stmt} {scope : Scope} {dvs : List V} {kws : List (Str × V)} {f : Addr} {fd : FuncData} {N ps : List Str} {k n : Nat} {m1 : MS} (Y : Gam)
    (F : FunD K x qual params body scope dvs kws f fd) (S : FnScope N ps scope) (hn : n = ps.length)
    (hbody : ∀ (cdv : Value) (A : Around) (outer : List Env) (s : Shared) (H : Hp) (E : XK), Room k (A.deeper (PyProof.Rows.envOfC qual scope s.heap.objs.size f cdv)) → L2N.Takes (cxOf (L2N.CX P w) P w K mg base N qual scope f cdv A outer s H E) (fun cls d _ H => E cls d H) →
      PassesOwn (model P w) (A.deeper (PyProof.Rows.envOfC qual scope s.heap.objs.size f cdv)) (PyProof.Rows.envOfC qual scope s.heap.objs.size f cdv) (cxOf (L2N.CX P w) P w K mg base N qual scope f cdv A outer s H E).xe →
      ∃ t1, SB (cxOf (L2N.CX P w) P w K mg base N qual scope f cdv A outer s H E) Y (fun cls d _ H => E cls d H) body t1 m1) :
    FnOk P w K mg base (L2N.CX P w) (k + 1) f fd ps (spOf Y n (mFn N.length m1)) :=
  F.ok S (fun vs H Q E h => by rw [h.1, hn]) (fun cdv A outer s H vs Q E hr h => by
    obtain ⟨_, w1, ds, S1, k1, r1, p1⟩ := h
    obtain ⟨t1, B⟩ := hbody cdv A outer s H E hr (L2N.takes_of rfl rfl rfl rfl) (passes_of rfl)
    exact ⟨_, B.pss, fn_post k1 r1 B.sim p1⟩)
end
end Mm
namespace Mm
open PySem L2
theorem rep_lst {g : Gam} {w : Wd} {ds : List D} {v : V} (h : Rep g w (.lst ds) v) : ∃ a vs, v = .ref a ∧ w.G a = some (.lst vs) ∧ RepL g w ds vs := by
  unfold Rep at h
  exact h
theorem rep_tup {g : Gam} {w : Wd} {ds : List D} {v : V} (h : Rep g w (.tup ds) v) : ∃ a vs, v = .ref a ∧ SqT g.K w.G a vs ∧ RepL g w ds vs := by
  unfold Rep at h
  obtain ⟨a, vs, e, q, r⟩ := h
  exact ⟨a, vs, e, q.sq, r⟩
theorem rep_str {g : Gam} {w : Wd} {x : Str} {v : V} (h : Rep g w (.str x) v) : v = .str x := by
  unfold Rep at h
  exact h
theorem rep_bl {g : Gam} {w : Wd} {x : Bool} {v : V} (h : Rep g w (.bl x) v) : v = .bl x := by
  unfold Rep at h
  exact h
theorem rep_non {g : Gam} {w : Wd} {v : V} (h : Rep g w .non v) : v = .non := by
  unfold Rep at h
  exact h
theorem rep_ref {g : Gam} {w : Wd} {n : Nat} {v : V} (h : Rep g w (.ref n) v) : ∃ a, w.rho[n]? = some a ∧ v = .ref a := by
  unfold Rep at h
  exact h
theorem rep_str' {g : Gam} {w : Wd} {x : Str} : Rep g w (.str x) (.str x) := by
  unfold Rep
  rfl
theorem rep_non' {g : Gam} {w : Wd} : Rep g w .non .non := by
  unfold Rep
  rfl
theorem repL_two {g : Gam} {w : Wd} {d1 d2 : D} {vs : List V} (h : RepL g w [d1, d2] vs) : ∃ v1 v2, vs = [v1, v2] ∧ Rep g w d1 v1 ∧ Rep g w d2 v2 := by
  unfold RepL at h
  obtain ⟨v1, r1, e1, q1, h⟩ := h
  unfold RepL at h
  obtain ⟨v2, r2, e2, q2, h⟩ := h
  unfold RepL at h
  subst h e2
  exact ⟨v1, v2, e1, q1, q2⟩
theorem repL_one {g : Gam} {w : Wd} {d1 : D} {vs : List V} (h : RepL g w [d1] vs) : ∃ v1, vs = [v1] ∧ Rep g w d1 v1 := by
  unfold RepL at h
  obtain ⟨v1, r1, e1, q1, h⟩ := h
  unfold RepL at h
  subst h
  exact ⟨v1, e1, q1⟩
def intsOf : List D → Option (List Int)
  | [] => some []
  | .int i :: ds => (intsOf ds).map (i :: ·)
  | _ => none
theorem intsOf_rep {g : Gam} {w : Wd} : ∀ {ds : List D} {ns : List Int} {vs : List V}, intsOf ds = some ns → RepL g w ds vs → vs = ns.map V.int
  | [], ns, vs, h, r => by
    unfold intsOf at h
    unfold RepL at r
    cases h
    exact r
  | d :: ds, ns, vs, h, r => by
    cases d with
    | int i =>
      unfold intsOf at h
      cases q : intsOf ds with
      | none => rw [q] at h; cases h
      | some ns' =>
        rw [q] at h
        cases h
        unfold RepL at r
        obtain ⟨v, r', e1, a, b⟩ := r
        rw [e1, rep_int a, intsOf_rep q b]
        rfl
    | _ =>
      unfold intsOf at h
      cases h
def blsOf : List D → Option (List Bool)
  | [] => some []
  | .bl i :: ds => (blsOf ds).map (i :: ·)
  | _ => none
theorem blsOf_map (ns : List Bool) : blsOf (ns.map D.bl) = some ns := by
  induction ns with
  | nil => rfl
  | cons n ns ih =>
    unfold List.map blsOf
    rw [ih]
    rfl
theorem blsOf_rep {g : Gam} {w : Wd} : ∀ {ds : List D} {ns : List Bool} {vs : List V}, blsOf ds = some ns → RepL g w ds vs → vs = ns.map V.bl
  | [], ns, vs, h, r => by
    unfold blsOf at h
    unfold RepL at r
    cases h
    exact r
  | d :: ds, ns, vs, h, r => by
    cases d with
    | bl i =>
      unfold blsOf at h
      cases q : blsOf ds with
      | none => rw [q] at h; cases h
      | some ns' =>
        rw [q] at h
        cases h
        unfold RepL at r
        obtain ⟨v, r', e1, a, b⟩ := r
        rw [e1, rep_bl a, blsOf_rep q b]
        rfl
    | _ =>
      unfold blsOf at h
      cases h
section
variable {X : Cx} {Y : Gam} {W : WX} {e a b c tg iter elt : Expr} {es rest ifs : List Expr} {ta tb te : TE} {tt tu : TT} {ma mb me : ME} {mt mu : MT} {mf : MF} {t : TA} {m : MA} {pos p : Pos} {s : Stmt} {ss : List Stmt} {t1 t2 : TS} {m1 m2 : MS} {wi : TI} {mi : MI}
def iSeq (K : PySem.W.Frag) (tl : TE) : TI := fun σ H R => tl σ H fun x H1 => ∃ a, x = .ref a ∧ (((∃ xs, SqL K H1 a xs) ∧ R (Itl K a) H1) ∨ ((∃ xs, SqT K H1 a xs) ∧ R (Itt K a) H1))
theorem pi_seq {l : Expr} {tl : TE} (hl : PE X l tl) : PI X tg l (iSeq X.K tl) := by
  refine ⟨fun pins s σ H R I h => ?_⟩
  refine thn (hl.run pins s σ H _ I h) fun v s1 ⟨x, H1, I1, r1, q1⟩ => ?_
  obtain ⟨a, e, q1⟩ := q1
  subst e
  cases r1
  rcases q1 with ⟨⟨xs, hq⟩, q⟩ | ⟨⟨xs, hq⟩, q⟩
  · obtain ⟨its, rv, p, hz⟩ := I1.list hq
    refine wpAny_pyIter_list p.isList ?_
    refine ⟨s1.heap.objs.size, [s1.heap.objs.size], _, _, H1, rfl, I1.kept (t' := s1.toks) fun b o e => Heap.get?_push_of_some _ e, turn_list a _, ⟨_, Heap.get?_push_size _ rfl, rfl, rfl⟩, fun b hb => ?_, q⟩
    have e : b = s1.heap.objs.size := by simpa using hb
    subst e
    exact I1.fpOk (Nat.le_refl _) (I1.hok.fresh (Nat.le_refl _))
  · obtain ⟨its, rv, p, hz⟩ := I1.tuple hq
    refine wpAny_pyIter_tuple (show s1.heap.IsTuple a its.toArray from p) ?_
    refine ⟨s1.heap.objs.size, [s1.heap.objs.size], _, _, H1, rfl, I1.kept (t' := s1.toks) fun b o e => Heap.get?_push_of_some _ e, turn_tuple a _, ⟨_, Heap.get?_push_size _ rfl, rfl, rfl⟩, fun b hb => ?_, q⟩
    have e : b = s1.heap.objs.size := by simpa using hb
    subst e
    exact I1.fpOk (Nat.le_refl _) (I1.hok.fresh (Nat.le_refl _))
def itL (me : ME) : MI := fun env S => (me env S).bind fun d S1 => match d with
  | .lst ds => .ok ds S1
  | .tup ds => .ok ds S1
  | _ => .stuck
theorem itR_list {g : Gam} {w : Wd} {a : Addr} {ds : List D} {vs : List V} (e : w.G a = some (.lst vs)) (r : RepL g w ds vs) : ItR g w (Itl g.K a) ds := fun w2 H2 l x => by
  have q : SqL g.K H2 a vs := .inl (.inl (x _ _ (l.ex _ _ e)))
  refine ⟨fun i d hd => ?_, ⟨vs, q, by rw [r.len]; exact Nat.le_refl _⟩⟩
  obtain ⟨v, hv, rv⟩ := r.at_ hd
  refine ⟨⟨vs, v, q, hv⟩, fun y H' hy => ?_⟩
  obtain ⟨e1, e2⟩ := hy
  have e3 := e2 vs q
  rw [hv] at e3
  cases e3
  rw [e1]
  exact ⟨w2, .refl, rv.mono l⟩
theorem itR_tup {g : Gam} {w : Wd} {a : Addr} {ds : List D} {vs : List V} (e : SqT g.K w.G a vs) (r : RepL g w ds vs) : ItR g w (Itt g.K a) ds := fun w2 H2 l x => by
  have q : SqT g.K H2 a vs := same_sqT (l.ex.trans x) e
  refine ⟨fun i d hd => ?_, ⟨vs, q, by rw [r.len]; exact Nat.le_refl _⟩⟩
  obtain ⟨v, hv, rv⟩ := r.at_ hd
  refine ⟨⟨vs, v, q, hv⟩, fun y H' hy => ?_⟩
  obtain ⟨e1, e2⟩ := hy
  have e3 := e2 vs q
  rw [hv] at e3
  cases e3
  rw [e1]
  exact ⟨w2, .refl, rv.mono l⟩
theorem i_seq (h : SE X Y W e te me) (hK : X.K = Y.K := by rfl) : SI X Y W tg e (iSeq Y.K te) (itL me) := ⟨hK ▸ pi_seq h.pe, fun w0 H0 w H σ env S O Q st p =>
  h.sim w0 H0 w H σ env S O _ st ((PostX.bind p).imp fun d S1 w1 H1 st1 l1 p1 v r => by
    cases d with
    | lst ds =>
      obtain ⟨a, vs, e1, e2, e3⟩ := rep_lst r
      exact ⟨a, e1, .inl ⟨⟨vs, .inl (.inl (st1.ok.ex _ _ e2))⟩, p1 w1 H1 st1 (.refl w1) _ (itR_list (g := Y) e2 e3)⟩⟩
    | tup ds =>
      obtain ⟨a, vs, e1, e2, e3⟩ := rep_tup r
      exact ⟨a, e1, .inr ⟨⟨vs, same_sqT st1.ok.ex e2⟩, p1 w1 H1 st1 (.refl w1) _ (itR_tup (g := Y) e2 e3)⟩⟩
    | _ => exact False.elim p1)⟩
def rngD (lo : Int) (n : Nat) : List D := (List.range n).map fun (i : Nat) => D.int (lo + i)
theorem itR_rng {g : Gam} {w : Wd} (lo : Int) (n : Nat) : ItR g w (Itr lo n) (rngD lo n) := fun w2 H2 l x => by
  refine ⟨fun i d hd => ?_, ?_⟩
  · unfold rngD at hd
    rw [List.getElem?_map] at hd
    have hi : i < n := by
      cases q : (List.range n)[i]? with
      | none => rw [q] at hd; cases hd
      | some j =>
        have := (List.getElem?_eq_some_iff.mp q).1
        simpa using this
    rw [List.getElem?_range hi] at hd
    cases hd
    refine ⟨hi, fun y H' hy => ?_⟩
    obtain ⟨e1, e2⟩ := hy
    rw [e1, e2]
    exact ⟨w2, .refl, rep_int'⟩
  · show n ≤ (rngD lo n).length
    unfold rngD
    rw [List.length_map, List.length_range]
    exact Nat.le_refl _
def bBnd (i : Int) (n : Nat) : Bool := Nat.ble i.natAbs n
theorem bBnd_iff {i : Int} {n : Nat} : bBnd i n = true ↔ i.natAbs ≤ n := Iff.of_eq Nat.ble_eq
def rgB (i : Int) : Bool := bBnd i 4611686018427387903
theorem rgB_ok {i : Int} (h : rgB i = true) : -(2 ^ 62) ≤ i ∧ i < 2 ^ 62 := by
  have := bBnd_iff.mp h
  omega
def itR1 (m : MA) : MI := fun env S => (m env S).bind fun ds S1 => match ds with
  | [.int j] => if rgB j then .ok (rngD 0 j.toNat) S1 else .stuck
  | _ => .stuck
theorem i_range1 (hm : X.mg "range" = none) (ha : SA X Y W [a] t m) (hg : Gl X "range" := by rfl) (hs : starEach [a] X.env = [(false, eval a X.env)] := by rfl) : SI X Y W tg (.Call (.Name "range" p) [a] [] pos) (iRng1 t) (itR1 m) := ⟨pi_range1 hg hm ha.pa hs, fun w0 H0 w H σ env S O Q st p =>
  ha.sim w0 H0 w H σ env S O _ st ((PostX.bind p).imp fun ds S1 w1 H1 st1 l1 p1 vs r => by
    split at p1
    · rename_i j
      split at p1
      · rename_i z
        obtain ⟨v, e1, e2⟩ := repL_one r
        rw [rep_int e2] at e1
        exact ⟨j, e1, (rgB_ok z).1, (rgB_ok z).2, p1 w1 H1 st1 (.refl w1) _ (itR_rng 0 _)⟩
      · exact False.elim p1
    · exact False.elim p1)⟩
def enumD (k : Nat) : List D → List D
  | [] => []
  | d :: ds => .tup [.int (k : Nat), d] :: enumD (k + 1) ds
theorem enumD_len : ∀ (ds : List D) (k : Nat), (enumD k ds).length = ds.length
  | [], _ => rfl
  | d :: ds, k => by
    unfold enumD
    rw [List.length_cons, List.length_cons, enumD_len ds]
theorem enumD_at : ∀ (ds : List D) (k i : Nat) (x : D), (enumD k ds)[i]? = some x → ∃ d, ds[i]? = some d ∧ x = .tup [.int ((k + i : Nat) : Int), d]
  | [], _, _, _, h => by simp [enumD] at h
  | d :: ds, k, 0, x, h => by
    unfold enumD at h
    exact ⟨d, rfl, (Option.some.inj h).symm⟩
  | d :: ds, k, i + 1, x, h => by
    unfold enumD at h
    obtain ⟨d', h1, h2⟩ := enumD_at ds (k + 1) i x h
    exact ⟨d', h1, by rw [h2, Nat.add_right_comm, Nat.add_assoc]⟩
theorem itR_enum {g : Gam} {w : Wd} {a : Addr} {ds : List D} {vs : List V} (e : w.G a = some (.lst vs)) (r : RepL g w ds vs) : ItR g w (Ite g.K a) (enumD 0 ds) := fun w2 H2 l x => by
  have q : SqL g.K H2 a vs := .inl (.inl (x _ _ (l.ex _ _ e)))
  refine ⟨fun i d hd => ?_, ⟨vs, q, by rw [enumD_len, r.len]; exact Nat.le_refl _⟩⟩
  obtain ⟨d', hd', ed⟩ := enumD_at ds 0 i d hd
  obtain ⟨v, hv, rv⟩ := r.at_ hd'
  refine ⟨⟨vs, v, q, hv⟩, fun y H' hy => ?_⟩
  obtain ⟨T, x', e1, e2, e3, e4⟩ := hy
  have e5 := e4 vs q
  rw [hv] at e5
  cases e5
  rw [e1, e3, ed, Nat.zero_add]
  refine ⟨_, Grow.one e2 nt_tup, ?_⟩
  unfold Rep
  have le : w2.le ⟨w2.rho, upd w2.G T (.tup [.int (i : Nat), v])⟩ := ⟨⟨[], by simp⟩, same_upd (none_of_same x e2)⟩
  exact ⟨T, _, rfl, .inl (.inl upd_same), RepL.cons_ rep_int' (RepL.cons_ ((rv.mono l).mono le) RepL.nil_)⟩
def zipD : List D → List D → List D
  | x :: xs, y :: ys => .tup [x, y] :: zipD xs ys
  | _, _ => []
theorem zipD_at : ∀ (xs ys : List D) (i : Nat) (z : D), (zipD xs ys)[i]? = some z → ∃ x y, xs[i]? = some x ∧ ys[i]? = some y ∧ z = .tup [x, y]
  | [], _, _, _, h => by simp [zipD] at h
  | _ :: _, [], _, _, h => by simp [zipD] at h
  | x :: xs, y :: ys, 0, z, h => by
    unfold zipD at h
    exact ⟨x, y, rfl, rfl, (Option.some.inj h).symm⟩
  | x :: xs, y :: ys, i + 1, z, h => by
    unfold zipD at h
    exact zipD_at xs ys i z h
theorem zipD_len : ∀ (xs ys : List D), (zipD xs ys).length = min xs.length ys.length
  | [], _ => by simp [zipD]
  | _ :: _, [] => by simp [zipD]
  | x :: xs, y :: ys => by
    unfold zipD
    rw [List.length_cons, zipD_len xs ys, List.length_cons, List.length_cons]
    omega
theorem itR_zip {g : Gam} {w : Wd} {a b : Addr} {ds es : List D} {vs us : List V} (e : w.G a = some (.lst vs)) (r : RepL g w ds vs) (e' : w.G b = some (.lst us)) (r' : RepL g w es us) : ItR g w (Itz g.K a b) (zipD ds es) := fun w2 H2 l x => by
  have q : SqL g.K H2 a vs := .inl (.inl (x _ _ (l.ex _ _ e)))
  have q' : SqL g.K H2 b us := .inl (.inl (x _ _ (l.ex _ _ e')))
  refine ⟨fun i d hd => ?_, ⟨vs, us, q, q', by rw [zipD_len, r.len, r'.len]; omega⟩⟩
  obtain ⟨d1, d2, h1, h2, ed⟩ := zipD_at ds es i d hd
  obtain ⟨v, hv, rv⟩ := r.at_ h1
  obtain ⟨u, hu, ru⟩ := r'.at_ h2
  refine ⟨⟨vs, us, v, u, q, q', hv, hu⟩, fun y H' hy => ?_⟩
  obtain ⟨T, x', y', e1, e2, e3, e4, e5⟩ := hy
  have e6 := e4 vs q
  have e7 := e5 us q'
  rw [hv] at e6
  rw [hu] at e7
  cases e6
  cases e7
  rw [e1, e3, ed]
  refine ⟨_, Grow.one e2 nt_tup, ?_⟩
  unfold Rep
  have le : w2.le ⟨w2.rho, upd w2.G T (.tup [v, u])⟩ := ⟨⟨[], by simp⟩, same_upd (none_of_same x e2)⟩
  exact ⟨T, _, rfl, .inl (.inl upd_same), RepL.cons_ ((rv.mono l).mono le) (RepL.cons_ ((ru.mono l).mono le) RepL.nil_)⟩
end
end Mm
namespace Mm
open PySem L2
def ins1 (x : Int) : List Int → List Int
  | [] => [x]
  | y :: ys => if x ≤ y then x :: y :: ys else y :: ins1 x ys
def isrt : List Int → List Int
  | [] => []
  | x :: xs => ins1 x (isrt xs)
theorem ins1_perm (x : Int) : ∀ ys : List Int, (ins1 x ys).Perm (x :: ys)
  | [] => .refl _
  | y :: ys => by
    unfold ins1
    split
    · exact .refl _
    · exact ((ins1_perm x ys).cons y).trans (.swap x y ys)
theorem isrt_perm : ∀ xs : List Int, (isrt xs).Perm xs
  | [] => .refl _
  | x :: xs => by
    unfold isrt
    exact (ins1_perm x (isrt xs)).trans ((isrt_perm xs).cons x)
theorem ins1_sorted (x : Int) : ∀ ys : List Int, ys.Pairwise (· ≤ ·) → (ins1 x ys).Pairwise (· ≤ ·)
  | [], _ => List.pairwise_singleton _ _
  | y :: ys, h => by
    unfold ins1
    rw [List.pairwise_cons] at h
    split
    · rename_i hx
      refine List.pairwise_cons.mpr ⟨fun z hz => ?_, List.pairwise_cons.mpr h⟩
      rcases List.mem_cons.mp hz with e | e
      · rw [e]
        exact hx
      · exact Int.le_trans hx (h.1 z e)
    · rename_i hx
      refine List.pairwise_cons.mpr ⟨fun z hz => ?_, ins1_sorted x ys h.2⟩
      rcases List.mem_cons.mp ((ins1_perm x ys).mem_iff.mp hz) with e | e
      · rw [e]
        omega
      · exact h.1 z e
theorem isrt_sorted : ∀ xs : List Int, (isrt xs).Pairwise (· ≤ ·)
  | [] => .nil
  | x :: xs => ins1_sorted x _ (isrt_sorted xs)
theorem sorted_unique : ∀ {xs ys : List Int}, xs.Perm ys → xs.Pairwise (· ≤ ·) → ys.Pairwise (· ≤ ·) → xs = ys
  | [], ys, h, _, _ => (List.nil_perm.mp h).symm
  | x :: xs, [], h, _, _ => absurd (List.perm_nil.mp h) (by simp)
  | x :: xs, y :: ys, h, hx, hy => by
    rw [List.pairwise_cons] at hx hy
    have e : x = y := by
      have h1 : x ∈ y :: ys := h.mem_iff.mp List.mem_cons_self
      have h2 : y ∈ x :: xs := h.mem_iff.mpr List.mem_cons_self
      rcases List.mem_cons.mp h1 with z | z
      · exact z
      · rcases List.mem_cons.mp h2 with q | q
        · exact q.symm
        · have := hy.1 x z
          have := hx.1 y q
          omega
    subst e
    rw [sorted_unique (List.Perm.cons_inv h) hx.2 hy.2]
section
variable {X : Cx} {Y : Gam} {W : WX} {e a b c tg iter elt : Expr} {es rest ifs : List Expr} {ta tb te : TE} {tt tu : TT} {ma mb me : ME} {mt mu : MT} {mf : MF} {t : TA} {m : MA} {pos p : Pos} {s : Stmt} {ss : List Stmt} {t1 t2 : TS} {m1 m2 : MS} {wi : TI} {mi : MI} {x : Str}
def CallD (g : Gam) (r : List V → Hp → VK → Prop) (f : Sto → List D → Option D) : Prop := ∀ w H S ds vs d (Q : VK), Ok g w H S → RepL g w ds vs → f S ds = some d → (∀ w' H' v, Grow w H w' H' → Rep g w' d v → Q v H') → r vs H Q
def CallO (g : Gam) (r : List V → Hp → VK → Prop) (f : Sto → List D → Option Cell) : Prop := ∀ w H S ds vs c (Q : VK), Ok g w H S → RepL g w ds vs → f S ds = some c → (∀ p o, H p = none → (∀ ps, o ≠ .tbl ps) → CellR g w (upd H p o) p c → Q (.ref p) (upd H p o)) → r vs H Q
def eCB (f : Sto → List D → Option D) (m : MA) : ME := fun env S => (m env S).bind fun ds S1 => opt (f S1 ds) S1
def fCB (f : Sto → List D → Option Cell) (m : MA) : MF := fun env S => (m env S).bind fun ds S1 => opt (f S1 ds) S1
theorem sim_cb {g : Gam} {r : List V → Hp → VK → Prop} {f : Sto → List D → Option D} (h : CallD g r f) (ha : SimA g W t m) : SimE g W (tCB r t) (eCB f m) := fun w0 H0 w H σ env S O Q st p =>
  ha w0 H0 w H σ env S O _ st ((PostX.bind p).imp fun ds S1 w1 H1 st1 l1 p1 vs rs => by
    obtain ⟨d, e, k⟩ := PostX.opt_ p1 st1
    exact h w1 H1 S1 ds vs d Q st1.ok rs e fun w3 H3 v q r => k w3 H3 (st1.grow q) (q.le st1.ok) v r)
theorem sim_co {g : Gam} {r : List V → Hp → VK → Prop} {f : Sto → List D → Option Cell} (h : CallO g r f) (ha : SimA g W t m) : SimF g W (tCB r t) (fCB f m) := fun w0 H0 w H σ env S O Q st p =>
  ha w0 H0 w H σ env S O _ st ((PostX.bind p).imp fun ds S1 w1 H1 st1 l1 p1 vs rs => by
    obtain ⟨d, e, k⟩ := PostX.opt_ p1 st1
    exact h w1 H1 S1 ds vs d Q st1.ok rs e fun q o hq nt hc => k w1 _ (st1.lay hq nt) (.refl w1) q (st1.own_new hq hc))
theorem s_cb {id : String} {r : List V → Hp → VK → Prop} {f : Sto → List D → Option D} (hd : CallD Y r f) (hc : CallR X (.builtin id) r) (hm : X.mg x = none) (hv : bootBuiltins x = some (.builtin id)) (ha : SA X Y W (e :: es) t m) (hg : Gl X x := by rfl) (hn : x ≠ "__name__" := by decide) (hdb : (x == ("__debug__" : Str)) = false := by decide)
    (he : starEach (e :: es) X.env = (false, eval e X.env) :: starEach es X.env := by rfl) (hpl : (backTo pos (starEach es X.env)).any (·.1) = false := by rfl) : SE X Y W (.Call (.Name x p) (e :: es) [] pos) (tCB r t) (eCB f m) := ⟨pe_callB hc hg hm hv ha.pa hn hdb he hpl, sim_cb hd ha.sim⟩
theorem f_cb {id : String} {r : List V → Hp → VK → Prop} {f : Sto → List D → Option Cell} (hd : CallO Y r f) (hc : CallR X (.builtin id) r) (hm : X.mg x = none) (hv : bootBuiltins x = some (.builtin id)) (ha : SA X Y W (e :: es) t m) (hg : Gl X x := by rfl) (hn : x ≠ "__name__" := by decide) (hdb : (x == ("__debug__" : Str)) = false := by decide)
    (he : starEach (e :: es) X.env = (false, eval e X.env) :: starEach es X.env := by rfl) (hpl : (backTo pos (starEach es X.env)).any (·.1) = false := by rfl) : SF X Y W (.Call (.Name x p) (e :: es) [] pos) (tCB r t) (fCB f m) := ⟨pe_callB hc hg hm hv ha.pa hn hdb he hpl, sim_co hd ha.sim⟩
theorem s_ct {id : String} {r : List V → Hp → VK → Prop} {f : Sto → List D → Option D} (hd : CallD Y r f) (hc : CallR X (.type id) r) (hm : X.mg x = none) (hv : bootBuiltins x = some (.type id)) (ha : SA X Y W (e :: es) t m) (hg : Gl X x := by rfl) (hn : x ≠ "__name__" := by decide) (hdb : (x == ("__debug__" : Str)) = false := by decide)
    (he : starEach (e :: es) X.env = (false, eval e X.env) :: starEach es X.env := by rfl) (hpl : (backTo pos (starEach es X.env)).any (·.1) = false := by rfl) : SE X Y W (.Call (.Name x p) (e :: es) [] pos) (tCB r t) (eCB f m) := ⟨pe_callTy hc hg hm hv ha.pa hn hdb he hpl, sim_cb hd ha.sim⟩
theorem f_ct {id : String} {r : List V → Hp → VK → Prop} {f : Sto → List D → Option Cell} (hd : CallO Y r f) (hc : CallR X (.type id) r) (hm : X.mg x = none) (hv : bootBuiltins x = some (.type id)) (ha : SA X Y W (e :: es) t m) (hg : Gl X x := by rfl) (hn : x ≠ "__name__" := by decide) (hdb : (x == ("__debug__" : Str)) = false := by decide)
    (he : starEach (e :: es) X.env = (false, eval e X.env) :: starEach es X.env := by rfl) (hpl : (backTo pos (starEach es X.env)).any (·.1) = false := by rfl) : SF X Y W (.Call (.Name x p) (e :: es) [] pos) (tCB r t) (fCB f m) := ⟨pe_callTy hc hg hm hv ha.pa hn hdb he hpl, sim_co hd ha.sim⟩
def fLen : Sto → List D → Option D
  | _, [.lst ds] => some (.int ds.length)
  | _, [.tup ds] => some (.int ds.length)
  | S, [.ref n] => (match S[n]? with
    | some (.lst ds) => some (.int ds.length)
    | _ => none)
  | _, [.str z] => if szB z.length then some (.int z.length) else none
  | _, _ => none
theorem cell_lst {g : Gam} {w : Wd} {H : Hp} {S : Sto} {n : Nat} {v : V} {ds : List D} (k : Ok g w H S) (r : Rep g w (.ref n) v) (h : S[n]? = some (.lst ds)) : ∃ a vs, v = .ref a ∧ w.rho[n]? = some a ∧ H a = some (.lst vs) ∧ RepL g w ds vs := by
  obtain ⟨a, e1, e2⟩ := rep_ref r
  obtain ⟨_, vs, e3, e4⟩ := k.cells.at_ n a _ e1 h
  exact ⟨a, vs, e2, e1, e3, e4⟩
theorem CallR.or {f : Value} {r r' : List V → Hp → VK → Prop} (h : CallR X f r) (h' : CallR X f r') : CallR X f (fun xs H Q => r xs H Q ∨ r' xs H Q) := fun pins s σ H xs us Q I r1 q => q.elim (h pins s σ H xs us Q I r1) (h' pins s σ H xs us Q I r1)
def rLn (K : PySem.W.Frag) : List V → Hp → VK → Prop := fun xs H Q => (∃ p ys, xs = [.ref p] ∧ (SqL K H p ys ∨ SqT K H p ys) ∧ Q (.int ys.length) H) ∨ ∃ z, xs = [.str z] ∧ z.length ≤ sizeLine ∧ Q (.int z.length) H
theorem cr_len : CallR X (.builtin "len") (rLn X.K) := CallR.or call_len_seq call_len_str
theorem cd_len {g : Gam} : CallD g (rLn g.K) fLen := fun w H S ds vs d Q k r e q => by
  unfold fLen at e
  split at e
  · rename_i ds
    cases e
    obtain ⟨v, e1, e2⟩ := repL_one r
    obtain ⟨a, us, x1, x2, x3⟩ := rep_lst e2
    rw [x1] at e1
    exact .inl ⟨a, us, e1, .inl (.inl (.inl (k.ex _ _ x2))), q w H _ .refl (by rw [x3.len]; exact rep_int')⟩
  · rename_i ds
    cases e
    obtain ⟨v, e1, e2⟩ := repL_one r
    obtain ⟨a, us, x1, x2, x3⟩ := rep_tup e2
    rw [x1] at e1
    exact .inl ⟨a, us, e1, .inr (same_sqT k.ex x2), q w H _ .refl (by rw [x3.len]; exact rep_int')⟩
  · rename_i n
    split at e
    · rename_i ds hS
      cases e
      obtain ⟨v, e1, e2⟩ := repL_one r
      obtain ⟨a, us, x1, x2, x3, x4⟩ := cell_lst k e2 hS
      rw [x1] at e1
      exact .inl ⟨a, us, e1, .inl (.inl (.inl x3)), q w H _ .refl (by rw [x4.len]; exact rep_int')⟩
    · cases e
  · rename_i z
    split at e
    · rename_i hz
      cases e
      obtain ⟨v, e1, e2⟩ := repL_one r
      rw [rep_str e2] at e1
      exact .inr ⟨z, e1, szB_le hz, q w H _ .refl rep_int'⟩
    · cases e
  · cases e
def fListOf : Sto → List D → Option Cell
  | _, [.lst ds] => some (.lst ds)
  | _, [.tup ds] => some (.lst ds)
  | S, [.ref n] => (match S[n]? with
    | some (.lst ds) => some (.lst ds)
    | _ => none)
  | _, _ => none
theorem co_list {g : Gam} : CallO g (fun xs H Q => ∃ p ys, xs = [.ref p] ∧ (SqL g.K H p ys ∨ SqT g.K H p ys) ∧ ∀ l, H l = none → Q (.ref l) (upd H l (.lst ys))) fListOf := fun w H S ds vs c Q k r e q => by
  unfold fListOf at e
  split at e
  · cases e
    obtain ⟨v, e1, e2⟩ := repL_one r
    obtain ⟨a, us, x1, x2, x3⟩ := rep_lst e2
    rw [x1] at e1
    exact ⟨a, us, e1, .inl (.inl (.inl (k.ex _ _ x2))), fun l hl => q l _ hl nt_lst ⟨us, upd_same, x3⟩⟩
  · cases e
    obtain ⟨v, e1, e2⟩ := repL_one r
    obtain ⟨a, us, x1, x2, x3⟩ := rep_tup e2
    rw [x1] at e1
    exact ⟨a, us, e1, .inr (same_sqT k.ex x2), fun l hl => q l _ hl nt_lst ⟨us, upd_same, x3⟩⟩
  · split at e
    · rename_i ds hS
      cases e
      obtain ⟨v, e1, e2⟩ := repL_one r
      obtain ⟨a, us, x1, x2, x3, x4⟩ := cell_lst k e2 hS
      rw [x1] at e1
      exact ⟨a, us, e1, .inl (.inl (.inl x3)), fun l hl => q l _ hl nt_lst ⟨us, upd_same, x4⟩⟩
    · cases e
  · cases e
def fTupOf : Sto → List D → Option D
  | _, [.lst ds] => some (.tup ds)
  | _, [.tup ds] => some (.tup ds)
  | _, _ => none
theorem cd_tup {g : Gam} : CallD g (fun xs H Q => ∃ p ys, xs = [.ref p] ∧ ((SqL g.K H p ys ∧ ∀ l, H l = none → Q (.ref l) (upd H l (.tup ys))) ∨ (SqT g.K H p ys ∧ Q (.ref p) H))) fTupOf := fun w H S ds vs d Q k r e q => by
  unfold fTupOf at e
  split at e
  · cases e
    obtain ⟨v, e1, e2⟩ := repL_one r
    obtain ⟨a, us, x1, x2, x3⟩ := rep_lst e2
    rw [x1] at e1
    exact ⟨a, us, e1, .inl ⟨.inl (.inl (k.ex _ _ x2)), fun l hl => q _ _ _ (Grow.one hl nt_tup) (rep_tup_new k hl x3)⟩⟩
  · cases e
    obtain ⟨v, e1, e2⟩ := repL_one r
    obtain ⟨a, us, x1, x2, x3⟩ := rep_tup e2
    rw [x1] at e1
    exact ⟨a, us, e1, .inr ⟨same_sqT k.ex x2, q w H _ .refl (by rw [← x1]; exact e2)⟩⟩
  · cases e
def fSorted : Sto → List D → Option Cell
  | _, [.lst ds] => (intsOf ds).map fun ns => .lst ((isrt ns).map D.int)
  | _, _ => none
theorem co_sorted {g : Gam} : CallO g (rSortedI g.K) fSorted := fun w H S ds vs c Q k r e q => by
  unfold fSorted at e
  split at e
  · rename_i ds
    cases z : intsOf ds with
    | none => rw [z] at e; cases e
    | some ns =>
      rw [z] at e
      cases e
      obtain ⟨v, e1, e2⟩ := repL_one r
      obtain ⟨a, us, x1, x2, x3⟩ := rep_lst e2
      rw [x1] at e1
      refine ⟨a, ns, e1, .inl (.inl (by rw [← intsOf_rep z x3]; exact k.ex _ _ x2)), fun ns' l hp hs hl => ?_⟩
      have en : ns' = isrt ns := sorted_unique (hp.trans (isrt_perm ns).symm) hs (isrt_sorted ns)
      rw [en]
      exact q l _ hl nt_lst ⟨_, upd_same, RepL.ints _⟩
  · cases e
def fAll : Sto → List D → Option D
  | _, [.lst ds] => (blsOf ds).map fun ns => .bl (ns.all id)
  | _, _ => none
theorem cd_all {g : Gam} : CallD g (rAll g.K) fAll := fun w H S ds vs c Q k r e q => by
  unfold fAll at e
  split at e
  · rename_i ds
    cases z : blsOf ds with
    | none => rw [z] at e; cases e
    | some ns =>
      rw [z] at e
      cases e
      obtain ⟨v, e1, e2⟩ := repL_one r
      obtain ⟨a, us, x1, x2, x3⟩ := rep_lst e2
      rw [x1] at e1
      exact ⟨a, ns, e1, .inl (.inl (by rw [← blsOf_rep z x3]; exact k.ex _ _ x2)), q w H _ .refl rep_bl'⟩
  · cases e
def fAny : Sto → List D → Option D
  | _, [.lst ds] => (blsOf ds).map fun ns => .bl (ns.any id)
  | _, _ => none
theorem cd_any {g : Gam} : CallD g (rAny g.K) fAny := fun w H S ds vs c Q k r e q => by
  unfold fAny at e
  split at e
  · rename_i ds
    cases z : blsOf ds with
    | none => rw [z] at e; cases e
    | some ns =>
      rw [z] at e
      cases e
      obtain ⟨v, e1, e2⟩ := repL_one r
      obtain ⟨a, us, x1, x2, x3⟩ := rep_lst e2
      rw [x1] at e1
      exact ⟨a, ns, e1, .inl (.inl (by rw [← blsOf_rep z x3]; exact k.ex _ _ x2)), q w H _ .refl rep_bl'⟩
  · cases e
def fInt : Sto → List D → Option D
  | _, [.int i] => some (.int i)
  | _, [.bl b] => some (.int (if b then 1 else 0))
  | _, _ => none
theorem cd_int {g : Gam} : CallD g (fun xs H Q => (∃ i, xs = [.int i] ∧ Q (.int i) H) ∨ ∃ k, xs = [.bl k] ∧ Q (.int (if k then 1 else 0)) H) fInt := fun w H S ds vs c Q k r e q => by
  unfold fInt at e
  split at e
  · rename_i i
    cases e
    obtain ⟨v, e1, e2⟩ := repL_one r
    rw [rep_int e2] at e1
    exact .inl ⟨i, e1, q w H _ .refl rep_int'⟩
  · rename_i i
    cases e
    obtain ⟨v, e1, e2⟩ := repL_one r
    rw [rep_bl e2] at e1
    exact .inr ⟨i, e1, q w H _ .refl rep_int'⟩
  · cases e
def eBits (me : ME) : ME := fun env S => (me env S).bind fun d S1 => match d with
  | .int i => .ok (.int (Builtin.Int.intBits i : Nat)) S1
  | _ => .stuck
theorem s_bits {apos : Pos} (h : SE X Y W e te me) (hbase : attributeBase e "bit_length" X.env (eval e X.env) = eval e X.env := by rfl) (hline : (apos.endLine == pos.line) = true := by rfl) : SE X Y W (.Call (.Attribute e "bit_length" apos) [] [] pos) (tBits te) (eBits me) := ⟨pe_bits h.pe hbase hline, fun w0 H0 w H σ env S O Q st p =>
  h.sim w0 H0 w H σ env S O _ st ((PostX.bind p).imp fun d S1 w1 H1 st1 l1 p1 v r => by
    cases d with
    | int i => exact ⟨i, rep_int r, p1 w1 H1 st1 (.refl w1) _ rep_int'⟩
    | _ => exact False.elim p1)⟩
def mulB (i j : Int) : Bool := bBnd i 18446744073709551615 || bBnd j 18446744073709551615
def powB (i j : Int) : Bool := decide (0 ≤ j) && (bBnd j 1000000 && bBnd i 18446744073709551615)
def divB (_ j : Int) : Bool := decide (j ≠ 0) && decide (j.natAbs < 1073741824)
theorem mulB_ok (i j : Int) (h : mulB i j = true) : CMul i j := by
  unfold mulB at h
  simp only [Bool.or_eq_true, bBnd_iff] at h
  unfold CMul
  omega
theorem powB_ok (i j : Int) (h : powB i j = true) : CPow i j := by
  unfold powB at h
  simp only [Bool.and_eq_true, decide_eq_true_eq, bBnd_iff] at h
  unfold CPow
  omega
theorem divB_ok (i j : Int) (h : divB i j = true) : CDivN i j := by
  unfold divB at h
  simp only [Bool.and_eq_true, decide_eq_true_eq] at h
  exact h
def iAdd := fI (fun i j => .int (i + j)) fun _ _ => true
def iSub := fI (fun i j => .int (i - j)) fun _ _ => true
def iMul := fI (fun i j => .int (i * j)) mulB
def iDiv := fI (fun i j => .int (i.fdiv j)) divB
def iMod := fI (fun i j => .int (i.fmod j)) fun _ j => decide (j ≠ 0)
def iPow := fI (fun i j => .int (i ^ j.toNat)) powB
def iShl := fI (fun i j => .int (i * 2 ^ j.toNat)) powB
def iShr := fI (fun i j => .int (i / 2 ^ j.toNat)) fun _ j => decide (0 ≤ j)
def iAnd := fI (fun i j => .int (Builtin.bitAnd i j)) fun _ _ => true
def iXor := fI (fun i j => .int (Builtin.bitXor i j)) fun _ _ => true
def iLt := fI (fun i j => .bl (decide (i < j))) fun _ _ => true
def iLe := fI (fun i j => .bl (decide (i ≤ j))) fun _ _ => true
def iGt := fI (fun i j => .bl (decide (j < i))) fun _ _ => true
def iGe := fI (fun i j => .bl (decide (j ≤ i))) fun _ _ => true
theorem od_sub {g : Gam} : OpD g (rI0 fun i j => .int (i - j)) iSub := od_I0 fun _ _ _ => rep_int'
theorem od_mul {g : Gam} : OpD g (rI CMul fun i j => .int (i * j)) iMul := od_I mulB_ok fun _ _ _ => rep_int'
theorem od_div {g : Gam} : OpD g (rI CDivN fun i j => .int (i.fdiv j)) iDiv := od_I divB_ok fun _ _ _ => rep_int'
theorem od_mod {g : Gam} : OpD g (rI (fun _ j => j ≠ 0) fun i j => .int (i.fmod j)) iMod := od_I (fun _ _ h => of_decide_eq_true h) fun _ _ _ => rep_int'
theorem od_pow {g : Gam} : OpD g (rI CPow fun i j => .int (i ^ j.toNat)) iPow := od_I powB_ok fun _ _ _ => rep_int'
theorem od_shl {g : Gam} : OpD g (rI CPow fun i j => .int (i * 2 ^ j.toNat)) iShl := od_I powB_ok fun _ _ _ => rep_int'
theorem od_shr {g : Gam} : OpD g (rI (fun _ j => 0 ≤ j) fun i j => .int (i / 2 ^ j.toNat)) iShr := od_I (fun _ _ h => of_decide_eq_true h) fun _ _ _ => rep_int'
theorem od_and {g : Gam} : OpD g (rI0 fun i j => .int (Builtin.bitAnd i j)) iAnd := od_I0 fun _ _ _ => rep_int'
theorem od_xor {g : Gam} : OpD g (rI0 fun i j => .int (Builtin.bitXor i j)) iXor := od_I0 fun _ _ _ => rep_int'
theorem od_lt {g : Gam} : OpD g (rI0 fun i j => .bl (decide (i < j))) iLt := od_I0 fun _ _ _ => rep_bl'
theorem od_le {g : Gam} : OpD g (rI0 fun i j => .bl (decide (i ≤ j))) iLe := od_I0 fun _ _ _ => rep_bl'
theorem od_gt {g : Gam} : OpD g (rI0 fun i j => .bl (decide (j < i))) iGt := od_I0 fun _ _ _ => rep_bl'
theorem od_ge {g : Gam} : OpD g (rI0 fun i j => .bl (decide (j ≤ i))) iGe := od_I0 fun _ _ _ => rep_bl'
theorem od_addI {g : Gam} : OpD g (rI0 fun i j => .int (i + j)) iAdd := od_I0 fun _ _ _ => rep_int'
def fCat : Sto → D → D → Option Cell
  | _, .lst xs, .lst ys => if szB (xs.length + ys.length) then some (.lst (xs ++ ys)) else none
  | _, _, _ => none
def OpO (g : Gam) (r : R2) (f : Sto → D → D → Option Cell) : Prop := ∀ w H S d1 d2 v1 v2 c (Q : VK), Ok g w H S → Rep g w d1 v1 → Rep g w d2 v2 → f S d1 d2 = some c → (∀ p o, H p = none → (∀ ps, o ≠ .tbl ps) → CellR g w (upd H p o) p c → Q (.ref p) (upd H p o)) → r v1 v2 H Q
theorem oo_cat {g : Gam} : OpO g rCat fCat := fun w H S d1 d2 v1 v2 c Q k r1 r2 e q => by
  unfold fCat at e
  split at e
  · split at e
    · rename_i xs ys z
      cases e
      obtain ⟨a, us, x1, x2, x3⟩ := rep_lst r1
      obtain ⟨b, ws, y1, y2, y3⟩ := rep_lst r2
      exact ⟨a, b, us, ws, x1, y1, k.ex _ _ x2, k.ex _ _ y2, by rw [← x3.len, ← y3.len]; exact szB_le z, fun l hl => q l _ hl nt_lst ⟨_, upd_same, x3.append_ y3⟩⟩
    · cases e
  · cases e
theorem OpO.d {g : Gam} {r : R2} {f : Sto → D → D → Option Cell} (h : OpO g r f) : OpD g r (fun S a b => (f S a b).map Cell.d) := fun w H S d1 d2 v1 v2 d Q k r1 r2 e q => by
  have e : Option.map Cell.d (f S d1 d2) = some d := e
  cases z : f S d1 d2 with
  | none => rw [z] at e; cases e
  | some c =>
    rw [z] at e
    cases e
    refine h w H S d1 d2 v1 v2 c Q k r1 r2 z fun p o hp nt hc => ?_
    refine q _ _ _ (Grow.one hp nt) ?_
    have le := Grow.le (Grow.one (w := w) hp nt) k
    cases c with
    | lst ds =>
      obtain ⟨vs, e1, e2⟩ := hc
      rw [upd_same] at e1
      unfold Cell.d Rep
      exact ⟨p, vs, rfl, by show upd w.G p o p = _; rw [upd_same]; exact e1, e2.mono le⟩
    | ins cc fs =>
      obtain ⟨dx, gs, e1, e2⟩ := hc
      rw [upd_same] at e1
      unfold Cell.d Rep
      exact ⟨p, dx, gs, rfl, by show upd w.G p o p = _; rw [upd_same]; exact e1, e2.mono le⟩
    | dic ks =>
      obtain ⟨gs, e1, e2⟩ := hc
      rw [upd_same] at e1
      unfold Cell.d Rep
      exact ⟨p, gs, rfl, .inl (by show upd w.G p o p = _; rw [upd_same]; exact e1), e2.mono le⟩
    | lck ks =>
      obtain ⟨o', gs, e1, e2⟩ := hc
      rw [upd_same] at e1
      unfold Cell.d Rep
      exact ⟨p, gs, rfl, .inr ⟨o', by show upd w.G p o p = _; rw [upd_same]; exact e1⟩, e2.mono le⟩
    | mem ks =>
      unfold Cell.d Rep
      exact ⟨p, rfl⟩
    | lkl ks =>
      unfold Cell.d Rep
      exact ⟨p, rfl⟩
    | tdc ks =>
      have e1 : upd H p o p = some (.dT (tdV ks)) := hc
      rw [upd_same] at e1
      unfold Cell.d Rep
      exact ⟨p, rfl, by show upd w.G p o p = _; rw [upd_same]; exact e1⟩
def fAddS : Sto → D → D → Option D
  | _, .str x, .str y => if szB (x.length + y.length) then some (.str (x ++ y)) else none
  | _, _, _ => none
theorem od_addS {g : Gam} : OpD g (fun x y H Q => ∃ i j, x = .str i ∧ y = .str j ∧ i.length + j.length ≤ sizeLine ∧ Q (.str (i ++ j)) H) fAddS := fun w H S d1 d2 v1 v2 d Q k r1 r2 e q => by
  unfold fAddS at e
  split at e
  · split at e
    · rename_i x y z
      cases e
      exact ⟨x, y, rep_str r1, rep_str r2, szB_le z, q w H _ .refl rep_str'⟩
    · cases e
  · cases e
def fCatD : Sto → D → D → Option D := fun S a b => (fCat S a b).map Cell.d
def dAdd : Sto → D → D → Option D := fun S a b => (iAdd S a b).or (fCatD S a b)
theorem od_add {g : Gam} : OpD g (fun x y H Q => rI0 (fun i j => .int (i + j)) x y H Q ∨ rCat x y H Q) dAdd := od_addI.or oo_cat.d
theorem op_addD : OpR X (binaryOp .Add) (fun x y H Q => rI0 (fun i j => .int (i + j)) x y H Q ∨ rCat x y H Q) := OpR.or op_add op_cat
def fIx : Sto → D → D → Option D
  | _, .lst xs, .int i => atI xs i
  | _, .tup xs, .int i => atI xs i
  | S, .ref n, .int i => (match S[n]? with
    | some (.lst xs) => atI xs i
    | _ => none)
  | _, _, _ => none
theorem RepL.atI_ {g : Gam} {w : Wd} {ds : List D} {vs : List V} {i : Int} {d : D} (r : RepL g w ds vs) (h : atI ds i = some d) : ∃ v, atI vs i = some v ∧ Rep g w d v := by
  unfold atI at h ⊢
  rw [r.len] at h
  cases z : ixN vs.length i with
  | none => rw [z] at h; cases h
  | some j =>
    rw [z] at h
    exact r.at_ h
theorem od_ix {g : Gam} : OpD g (fun x y H Q => rIxL g.K x y H Q ∨ rIxT g.K x y H Q) fIx := fun w H S d1 d2 v1 v2 d Q k r1 r2 e q => by
  unfold fIx at e
  split at e
  · rename_i xs i
    obtain ⟨a, us, x1, x2, x3⟩ := rep_lst r1
    obtain ⟨v, e1, e2⟩ := x3.atI_ e
    exact .inl ⟨a, us, i, v, x1, rep_int r2, .inl (.inl (k.ex _ _ x2)), e1, q w H _ .refl e2⟩
  · rename_i xs i
    obtain ⟨a, us, x1, x2, x3⟩ := rep_tup r1
    obtain ⟨v, e1, e2⟩ := x3.atI_ e
    exact .inr ⟨a, us, i, v, x1, rep_int r2, same_sqT k.ex x2, e1, q w H _ .refl e2⟩
  · rename_i n i
    split at e
    · rename_i xs hS
      obtain ⟨a, us, x1, x2, x3, x4⟩ := cell_lst k r1 hS
      obtain ⟨v, e1, e2⟩ := x4.atI_ e
      exact .inl ⟨a, us, i, v, x1, rep_int r2, .inl (.inl x3), e1, q w H _ .refl e2⟩
    · cases e
  · cases e
theorem ix_lt : IxR X (fun x y H Q => rIxL X.K x y H Q ∨ rIxT X.K x y H Q) := ix_list.or ix_tup
end
end Mm
namespace Mm
open PySem L2
section
variable {X : Cx} {Y : Gam} {W : WX} {e a b c tg iter elt : Expr} {es rest ifs : List Expr} {ta tb te : TE} {tt tu : TT} {ma mb me : ME} {mt mu : MT} {mf : MF} {t : TA} {m : MA} {pos p : Pos} {s : Stmt} {ss : List Stmt} {t1 t2 : TS} {m1 m2 : MS} {wi : TI} {mi : MI} {x : Str}
mutual
def D.py : D → Option PyData
  | .non => some .none
  | .bl b => some (.bool b)
  | .int i => some (.int i)
  | .str x => some (.str x)
  | .lst ds => (pyAll ds).map .list
  | .tup ds => (pyAll ds).map .tuple
  | _ => none
def pyAll : List D → Option (List PyData)
  | [] => some []
  | d :: ds => match d.py, pyAll ds with
    | some x, some xs => some (x :: xs)
    | _, _ => none
end
mutual
theorem rep_py {g : Gam} {w : Wd} : ∀ {d : D} {v : V} {q : PyData}, Rep g w d v → d.py = some q → Dp g.K w.G v q
  | .non, v, q, r, h => by
    unfold D.py at h
    cases h
    rw [rep_non r]
    exact .non
  | .bl b, v, q, r, h => by
    unfold D.py at h
    cases h
    rw [rep_bl r]
    exact .bl b
  | .int b, v, q, r, h => by
    unfold D.py at h
    cases h
    rw [rep_int r]
    exact .int b
  | .str b, v, q, r, h => by
    unfold D.py at h
    cases h
    rw [rep_str r]
    exact .str b
  | .lst ds, v, q, r, h => by
    unfold D.py at h
    obtain ⟨a, vs, e1, e2, e3⟩ := rep_lst r
    cases z : pyAll ds with
    | none => rw [z] at h; cases h
    | some xs =>
      rw [z] at h
      cases h
      rw [e1]
      exact .lst (.inl (.inl e2)) (repL_py e3 z)
  | .tup ds, v, q, r, h => by
    unfold D.py at h
    obtain ⟨a, vs, e1, e2, e3⟩ := rep_tup r
    cases z : pyAll ds with
    | none => rw [z] at h; cases h
    | some xs =>
      rw [z] at h
      cases h
      rw [e1]
      exact .tup e2 (repL_py e3 z)
  | .ins _ _, v, q, r, h => by unfold D.py at h; cases h
  | .ref _, v, q, r, h => by unfold D.py at h; cases h
  | .scr _, v, q, r, h => by unfold D.py at h; cases h
  | .ty _, v, q, r, h => by unfold D.py at h; cases h
  | .cls _, v, q, r, h => by unfold D.py at h; cases h
  | .adr _, v, q, r, h => by unfold D.py at h; cases h
  | .set _, v, q, r, h => by unfold D.py at h; cases h
  | .dic _, v, q, r, h => by unfold D.py at h; cases h
  | .tdc _, v, q, r, h => by unfold D.py at h; cases h
  | .tds _, v, q, r, h => by unfold D.py at h; cases h
  | .any, v, q, r, h => by unfold D.py at h; cases h
theorem repL_py {g : Gam} {w : Wd} : ∀ {ds : List D} {vs : List V} {qs : List PyData}, RepL g w ds vs → pyAll ds = some qs → DpAll g.K w.G vs qs
  | [], vs, qs, r, h => by
    unfold pyAll at h
    unfold RepL at r
    cases h
    rw [r]
    exact .nil
  | d :: ds, vs, qs, r, h => by
    unfold pyAll at h
    unfold RepL at r
    obtain ⟨v, vr, e1, e2, e3⟩ := r
    cases z : d.py with
    | none => rw [z] at h; cases h
    | some x =>
      cases y : pyAll ds with
      | none => rw [z, y] at h; cases h
      | some xs =>
        rw [z, y] at h
        cases h
        rw [e1]
        exact .cons (rep_py e2 z) (repL_py e3 y)
end
mutual
theorem Dp.same {K : PySem.W.Frag} {H H' : Hp} (e : Same H H') : ∀ {v : V} {q : PyData}, Dp K H v q → Dp K H' v q
  | _, _, .non => .non
  | _, _, .bl b => .bl b
  | _, _, .int b => .int b
  | _, _, .str b => .str b
  | _, _, .lst s a => .lst (e.seq s) (DpAll.same e a)
  | _, _, .tup s a => .tup (same_sqT e s) (DpAll.same e a)
theorem DpAll.same {K : PySem.W.Frag} {H H' : Hp} (e : Same H H') : ∀ {v : List V} {q : List PyData}, DpAll K H v q → DpAll K H' v q
  | _, _, .nil => .nil
  | _, _, .cons a b => .cons (Dp.same e a) (DpAll.same e b)
end
def fEq : Sto → D → D → Option D := fun _ a b => match a.py, b.py with
  | some x, some y => if SeqAt.shaped x && SeqAt.shaped y then some (.bl (PyData.eqv x y)) else none
  | _, _ => none
def fNe : Sto → D → D → Option D := fun _ a b => match a.py, b.py with
  | some x, some y => if SeqAt.shaped x && SeqAt.shaped y then some (.bl (!PyData.eqv x y)) else none
  | _, _ => none
theorem od_eq {g : Gam} : OpD g (rEqD g.K) fEq := fun w H S d1 d2 v1 v2 d Q k r1 r2 e q => by
  unfold fEq at e
  split at e
  · rename_i x y z1 z2
    split at e
    · rename_i z
      rw [Bool.and_eq_true] at z
      cases e
      exact ⟨x, y, Dp.same k.ex (rep_py r1 z1), Dp.same k.ex (rep_py r2 z2), z.1, z.2, q w H _ .refl rep_bl'⟩
    · cases e
  · cases e
theorem od_ne {g : Gam} : OpD g (rNeD g.K) fNe := fun w H S d1 d2 v1 v2 d Q k r1 r2 e q => by
  unfold fNe at e
  split at e
  · rename_i x y z1 z2
    split at e
    · rename_i z
      rw [Bool.and_eq_true] at z
      cases e
      exact ⟨x, y, Dp.same k.ex (rep_py r1 z1), Dp.same k.ex (rep_py r2 z2), z.1, z.2, q w H _ .refl rep_bl'⟩
    · cases e
  · cases e
def D.isN : D → Bool
  | .non => true
  | _ => false
theorem rep_isN {g : Gam} {w : Wd} {d : D} {v : V} (r : Rep g w d v) : decide (v = .non) = d.isN := by
  cases d with
  | non => rw [rep_non r]; rfl
  | bl b => rw [rep_bl r]; rfl
  | int b => rw [rep_int r]; rfl
  | str b => rw [rep_str r]; rfl
  | lst ds => obtain ⟨a, vs, e1, _⟩ := rep_lst r; rw [e1]; rfl
  | tup ds => obtain ⟨a, vs, e1, _⟩ := rep_tup r; rw [e1]; rfl
  | ins c fs => unfold Rep at r; obtain ⟨a, _, _, e1, _⟩ := r; rw [e1]; rfl
  | ref n => obtain ⟨a, _, e1⟩ := rep_ref r; rw [e1]; rfl
  | scr n => unfold Rep at r; obtain ⟨a, e1, _⟩ := r; rw [e1]; rfl
  | ty n => unfold Rep at r; rw [r]; rfl
  | cls n => unfold Rep at r; rw [r]; rfl
  | adr n => unfold Rep at r; rw [r]; rfl
  | set n => unfold Rep at r; obtain ⟨a, _, e1, _⟩ := r; rw [e1]; rfl
  | dic n => unfold Rep at r; obtain ⟨a, _, e1, _⟩ := r; rw [e1]; rfl
  | tdc n => unfold Rep at r; obtain ⟨a, e1, _⟩ := r; rw [e1]; rfl
  | tds n => unfold Rep at r; obtain ⟨a, e1, _⟩ := r; rw [e1]; rfl
  | any => unfold Rep at r; obtain ⟨a, e1⟩ := r; rw [e1]; rfl
def fIs : Sto → D → D → Option D
  | _, d, .non => some (.bl d.isN)
  | _, _, _ => none
def fIsNot : Sto → D → D → Option D
  | _, d, .non => some (.bl (!d.isN))
  | _, _, _ => none
theorem od_is {g : Gam} : OpD g (fun x y H Q => y = .non ∧ Q (.bl (decide (x = .non))) H) fIs := fun w H S d1 d2 v1 v2 d Q k r1 r2 e q => by
  unfold fIs at e
  split at e
  · cases e
    exact ⟨rep_non r2, q w H _ .refl (by rw [rep_isN r1]; exact rep_bl')⟩
  · cases e
theorem od_isnot {g : Gam} : OpD g (fun x y H Q => y = .non ∧ Q (.bl (!decide (x = .non))) H) fIsNot := fun w H S d1 d2 v1 v2 d Q k r1 r2 e q => by
  unfold fIsNot at e
  split at e
  · cases e
    exact ⟨rep_non r2, q w H _ .refl (by rw [rep_isN r1]; exact rep_bl')⟩
  · cases e
def fIn (neg : Bool) : Sto → D → D → Option D
  | _, .int i, .lst ds => (intsOf ds).map fun ns => .bl (if neg then !decide (i ∈ ns) else decide (i ∈ ns))
  | _, .int i, .tup ds => (intsOf ds).map fun ns => .bl (if neg then !decide (i ∈ ns) else decide (i ∈ ns))
  | _, _, _ => none
theorem inV_ints (i : Int) (ns : List Int) : inV (.int i) (ns.map V.int) = decide (i ∈ ns) := by
  unfold inV
  induction ns with
  | nil => simp
  | cons n ns ih =>
    rw [List.map_cons, List.any_cons, ih]
    show ((n == i) || decide (i ∈ ns)) = decide (i ∈ n :: ns)
    by_cases h : n = i
    · subst h; simp
    · have h2 : (n == i) = false := by simpa using h
      rw [h2, Bool.false_or, decide_eq_decide]
      constructor
      · exact List.mem_cons_of_mem _
      · intro q
        rcases List.mem_cons.mp q with z | z
        · exact absurd z.symm h
        · exact z
theorem flat_ints (ns : List Int) : (ns.map V.int).all flatV = true := by
  rw [List.all_eq_true]
  intro v hv
  obtain ⟨n, _, rfl⟩ := List.mem_map.mp hv
  rfl
theorem od_in {g : Gam} {neg : Bool} : OpD g (rIn g.K neg) (fIn neg) := fun w H S d1 d2 v1 v2 d Q k r1 r2 e q => by
  unfold fIn at e
  split at e
  · rename_i i ds
    cases z : intsOf ds with
    | none => rw [z] at e; cases e
    | some ns =>
      rw [z] at e
      cases e
      obtain ⟨a, vs, e1, e2, e3⟩ := rep_lst r2
      have ev := intsOf_rep z e3
      rw [ev] at e2
      refine ⟨a, _, e1, .inl (.inl (.inl (k.ex _ _ e2))), by rw [rep_int r1]; rfl, flat_ints ns, q w H _ .refl ?_⟩
      rw [rep_int r1, inV_ints]
      exact rep_bl'
  · rename_i i ds
    cases z : intsOf ds with
    | none => rw [z] at e; cases e
    | some ns =>
      rw [z] at e
      cases e
      obtain ⟨a, vs, e1, e2, e3⟩ := rep_tup r2
      have ev := intsOf_rep z e3
      rw [ev] at e2
      refine ⟨a, _, e1, .inr (same_sqT k.ex e2), by rw [rep_int r1]; rfl, flat_ints ns, q w H _ .refl ?_⟩
      rw [rep_int r1, inV_ints]
      exact rep_bl'
  · cases e
abbrev MO := Envr → Sto → R (Option Int)
def SimO (g : Gam) (W : WX) (t : TO) (m : MO) : Prop := ∀ w0 H0 w H σ env S O (Q : Option Int → Hp → Prop), StR g w0 H0 w H σ env S O →
  PostX g W w0 H0 w σ env O (m env S) (fun o _ w' H' => Q o H') → t σ H Q
structure SO (X : Cx) (Y : Gam) (W : WX) (e : Option Expr) (t : TO) (m : MO) : Prop where
  po : PO X e t
  sim : SimO Y W t m
def oNone : MO := fun _ S => .ok none S
def oSome (me : ME) : MO := fun env S => (me env S).bind fun d S1 => match d with
  | .int i => .ok (some i) S1
  | _ => .stuck
theorem o_none : SO X Y W none tNoPart oNone := ⟨po_none, fun w0 H0 w H σ env S O Q st p => p w H st (.refl w)⟩
theorem o_some (h : SE X Y W e te me) : SO X Y W (some e) (tPart te) (oSome me) := ⟨po_some h.pe, fun w0 H0 w H σ env S O Q st p =>
  h.sim w0 H0 w H σ env S O _ st ((PostX.bind p).imp fun d S1 w1 H1 st1 l1 p1 v r => by
    cases d with
    | int i => exact ⟨i, rep_int r, p1 w1 H1 st1 (.refl w1)⟩
    | _ => exact False.elim p1)⟩
def cutD (xs : List D) (lo hi : Option Int) : List D := (xs.drop (HT.sIx xs.length 0 lo)).take (HT.sIx xs.length xs.length hi - HT.sIx xs.length 0 lo)
theorem rep_cut {g : Gam} {w : Wd} {ds : List D} {vs : List V} (r : RepL g w ds vs) (lo hi : Option Int) : RepL g w (cutD ds lo hi) (cutV vs lo hi) := by
  unfold cutD cutV
  rw [r.len]
  exact (r.drop_ _).take_ _
def fSl (me : ME) (ml mh : MO) : MF := fun env S => (me env S).bind fun d S1 => (ml env S1).bind fun lo S2 => (mh env S2).bind fun hi S3 => match d with
  | .lst ds => .ok (.lst (cutD ds lo hi)) S3
  | .scr ns => .ok (.lst (cutD (ns.map D.int) lo hi)) S3
  | _ => .stuck
theorem f_sl {lo hi : Option Expr} {tl th : TO} {ml mh : MO} {p2 : Pos} (he : SE X Y W e te me) (hl : SO X Y W lo tl ml) (hh : SO X Y W hi th mh) (hK : X.K = Y.K := by rfl) : SF X Y W (.Subscript e (.Slice lo hi none p2) pos) (tSl (rSlL Y.K) te tl th) (fSl me ml mh) := ⟨hK ▸ pe_slice sl_list he.pe hl.po hh.po, fun w0 H0 w H σ env S O Q st p =>
  he.sim w0 H0 w H σ env S O _ st ((PostX.bind p).imp fun d S1 w1 H1 st1 l1 p1 v r => hl.sim w0 H0 w1 H1 σ env S1 O _ st1 ((PostX.bind p1).imp fun lo S2 w2 H2 st2 l2 p2 => hh.sim w0 H0 w2 H2 σ env S2 O _ st2 ((PostX.bind p2).imp fun hi S3 w3 H3 st3 l3 p3 => by
    cases d with
    | lst ds =>
      obtain ⟨a, vs, e1, e2, e3⟩ := rep_lst (r.mono (l2.trans l3))
      exact ⟨a, vs, e1, .inl (.inl (st3.ok.ex _ _ e2)), fun q hq => p3 w3 _ (st3.lay hq nt_lst) (.refl w3) q (st3.own_new hq ⟨_, upd_same, rep_cut e3 lo hi⟩)⟩
    | scr ns =>
      have r3 := r.mono (l2.trans l3)
      unfold Rep at r3
      obtain ⟨a, e1, e2⟩ := r3
      exact ⟨a, _, e1, st3.ok.ex.seq e2, fun q hq => p3 w3 _ (st3.lay hq nt_lst) (.refl w3) q (st3.own_new hq ⟨_, upd_same, rep_cut (RepL.ints ns) lo hi⟩)⟩
    | _ => exact False.elim p3)))⟩
def sApp (i : Nat) (me : ME) : MS := fun env S => match env[i]? with
  | some (.o (.lst ds)) => (me env S).out env fun d S1 => if szB (ds.length + 1) then .nx (env.set i (.o (.lst (ds ++ [d])))) S1 else .stuck
  | _ => .stuck
theorem tyV_lst {K : PySem.W.Frag} {H : Hp} {p : Addr} {vs : List V} (h : H p = some (.lst vs)) : tyV K "list" (.ref p) H := .inl ⟨rfl, vs, .inl (.inl h)⟩
theorem t_app (i : Nat) {x : Str} {p1 apos cpos : Pos} (he : SE X Y W e te me) (hK : X.K = Y.K := by rfl) (hN : X.N[i]? = some x := by rfl) (hv : Vis X.env.scope x := by first | exact Or.inl rfl | exact Or.inr (Or.inl rfl) | exact Or.inr (Or.inr rfl)) (hd : (x == ("__debug__" : Str)) = false := by decide)
    (hcd : (x == ("__classdict__" : Str)) = false := by decide) (hbase : attributeBase (.Name x p1) "append" X.env (eval (.Name x p1) X.env) = eval (.Name x p1) X.env := by rfl)
    (hfew : ((backTo cpos (starEach [e] X.env)).all (fun x => !x.1) && (backToKw cpos (keywordEach [] X.env)).all (fun x => x.1.isSome)
      && decide ([e].length + ([] : List Keyword).length + (if ([] : List Keyword).isEmpty then 0 else 1) < 30)) = true := by rfl)
    (hline : (apos.endLine == cpos.line) = true := by rfl) (hs : starEach [e] X.env = (false, eval e X.env) :: starEach [] X.env := by rfl) (hplain : (backTo cpos (starEach [] X.env)).any (·.1) = false := by rfl)
    (hsw : swapsWith (.Call (.Attribute (.Name x p1) "append" apos) [e] [] cpos) none pos.line X.env = pure false := by rfl) :
    SS X Y W (.Expr (.Call (.Attribute (.Name x p1) "append" apos) [e] [] cpos) pos) (tDrop (tBM Y.K "list" rAppend (tVar i) (tCons te tNil))) (sApp i me) :=
  ⟨hK ▸ ps_expr (pe_bm PySem.F.plainAttrs_list PySem.F.slot_list_append PySem.F.type_list_append mt_append (pv i hN hv hd hcd) (pa_cons he.pe pa_nil hs) hbase hfew hline hs hplain) hsw, fun w0 H0 w H σ env S O Dn st p => by
    unfold sApp at p
    split at p
    · rename_i ds hs
      obtain ⟨q, e1, e2, e3, ⟨vs, e4, e4'⟩, e5, e6, hi⟩ := st.own_at hs
      refine ⟨.ref q, e1, tyV_lst e4, ?_⟩
      refine he.sim w0 H0 w H σ env S O _ st ((PostS.out p).imp fun d S1 w1 H1 st1 l1 p1 v r => ?_)
      split at p1
      · rename_i hz
        obtain ⟨q', f1, f2, f3, ⟨us, f4, f4'⟩, f5, f6, _⟩ := st1.own_at hs
        rw [e2] at f2
        cases f2
        have hz2 : us.length < sizeLine := Nat.lt_of_lt_of_le (by rw [← f4'.len]; exact Nat.lt_succ_self _) (szB_le hz)
        refine ⟨q, us, v, rfl, rfl, f4, hz2, ?_⟩
        exact p1 w1 _ σ O (st1.mut hs e2 ⟨_, upd_same, f4'.append_ (RepL.cons_ r RepL.nil_)⟩ nt_lst) (.refl w1)
      · exact False.elim p1
    · exact p.elim⟩
def sIns (i : Nat) (mk me : ME) : MS := fun env S => match env[i]? with
  | some (.o (.lst ds)) => (mk env S).out env fun k S1 => (me env S1).out env fun d S2 => match k with
    | .int k => if decide (0 ≤ k) && (bBnd k 9223372036854775807 && szB (ds.length + 1)) then .nx (env.set i (.o (.lst (ds.take k.toNat ++ [d] ++ ds.drop k.toNat)))) S2 else .stuck
    | _ => .stuck
  | _ => .stuck
theorem t_ins (i : Nat) {x : Str} {p1 apos cpos : Pos} (hk : SE X Y W a ta ma) (he : SE X Y W e te me) (hK : X.K = Y.K := by rfl) (hN : X.N[i]? = some x := by rfl) (hv : Vis X.env.scope x := by first | exact Or.inl rfl | exact Or.inr (Or.inl rfl) | exact Or.inr (Or.inr rfl)) (hd : (x == ("__debug__" : Str)) = false := by decide)
    (hcd : (x == ("__classdict__" : Str)) = false := by decide) (hbase : attributeBase (.Name x p1) "insert" X.env (eval (.Name x p1) X.env) = eval (.Name x p1) X.env := by rfl)
    (hfew : ((backTo cpos (starEach [a, e] X.env)).all (fun x => !x.1) && (backToKw cpos (keywordEach [] X.env)).all (fun x => x.1.isSome)
      && decide ([a, e].length + ([] : List Keyword).length + (if ([] : List Keyword).isEmpty then 0 else 1) < 30)) = true := by rfl)
    (hline : (apos.endLine == cpos.line) = true := by rfl) (hs : starEach [a, e] X.env = (false, eval a X.env) :: starEach [e] X.env := by rfl) (hs2 : starEach [e] X.env = (false, eval e X.env) :: starEach [] X.env := by rfl) (hplain : (backTo cpos (starEach [e] X.env)).any (·.1) = false := by rfl)
    (hsw : swapsWith (.Call (.Attribute (.Name x p1) "insert" apos) [a, e] [] cpos) none pos.line X.env = pure false := by rfl) :
    SS X Y W (.Expr (.Call (.Attribute (.Name x p1) "insert" apos) [a, e] [] cpos) pos) (tDrop (tBM Y.K "list" (fun x vs H Q => ∃ (l : Addr) (xs : List V) (i : Int) (y : V), x = .ref l ∧ vs = [.int i, y] ∧ H l = some (.lst xs) ∧ xs.length < sizeLine ∧ 0 ≤ i ∧ i < 2 ^ 63 ∧
    Q .non (upd H l (.lst (xs.take i.toNat ++ [y] ++ xs.drop i.toNat)))) (tVar i) (tCons ta (tCons te tNil)))) (sIns i ma me) :=
  ⟨hK ▸ ps_expr (pe_bm PySem.F.plainAttrs_list PySem.F.slot_list_insert PySem.F.type_list_insert mt_insert (pv i hN hv hd hcd) (pa_cons hk.pe (pa_cons he.pe pa_nil hs2) hs) hbase hfew hline hs hplain) hsw, fun w0 H0 w H σ env S O Dn st p => by
    unfold sIns at p
    split at p
    · rename_i ds hs
      obtain ⟨q, e1, e2, e3, ⟨vs, e4, e4'⟩, e5, e6, hi⟩ := st.own_at hs
      refine ⟨.ref q, e1, tyV_lst e4, ?_⟩
      refine hk.sim w0 H0 w H σ env S O _ st ((PostS.out p).imp fun k S1 w1 H1 st1 l1 p1 kv kr => ?_)
      refine he.sim w0 H0 w1 H1 σ env S1 O _ st1 ((PostS.out p1).imp fun d S2 w2 H2 st2 l2 p2 v r => ?_)
      cases k with
      | int k =>
        simp only at p2
        split at p2
        · rename_i hz
          simp only [Bool.and_eq_true, decide_eq_true_eq, bBnd_iff] at hz
          obtain ⟨q', f1, f2, f3, ⟨us, f4, f4'⟩, f5, f6, _⟩ := st2.own_at hs
          rw [e2] at f2
          cases f2
          have hz2 : us.length < sizeLine := Nat.lt_of_lt_of_le (by rw [← f4'.len]; exact Nat.lt_succ_self _) (szB_le hz.2.2)
          refine ⟨q, us, k, v, rfl, by rw [rep_int kr], f4, hz2, hz.1, by have := hz.1; have := hz.2.1; omega, ?_⟩
          exact p2 w2 _ σ O (st2.mut hs e2 ⟨_, upd_same, ((f4'.take_ _).append_ (RepL.cons_ r RepL.nil_)).append_ (f4'.drop_ _)⟩ nt_lst) (.refl w2)
        · exact False.elim p2
      | _ => exact False.elim p2
    · exact p.elim⟩
def sPut (i : Nat) (mk me : ME) : MS := fun env S => (me env S).out env fun d S1 => match env[i]? with
  | some (.o (.lst ds)) => (mk env S1).out env fun k S2 => (match k with
    | .int k => (match ixN ds.length k with
      | some j => .nx (env.set i (.o (.lst (ds.set j d)))) S2
      | none => .stuck)
    | _ => .stuck)
  | some (.v (.ref n)) => (mk env S1).out env fun k S2 => (match S2[n]?, k with
    | some (.lst ds), .int k => (match ixN ds.length k with
      | some j => .nx env (S2.set n (.lst (ds.set j d)))
      | none => .stuck)
    | _, _ => .stuck)
  | _ => .stuck
theorem sim_put {g : Gam} {i : Nat} (hk : SimE g W ta ma) (he : SimE g W te me) : SimS g W (tAsg te (gSub (tVar i) ta rSetL)) (sPut i ma me) := fun w0 H0 w H σ env S O Dn st p => by
  refine he w0 H0 w H σ env S O _ st ((PostS.out p).imp fun d S1 w1 H1 st1 l1 p1 v r => ?_)
  split at p1
  · rename_i ds hs
    obtain ⟨q, e1, e2, e3, e4, e5, e6, hi⟩ := st1.own_at hs
    refine ⟨.ref q, e1, ?_⟩
    refine hk w0 H0 w1 H1 σ env S1 O _ st1 ((PostS.out p1).imp fun k S2 w2 H2 st2 l2 p2 kv kr => ?_)
    split at p2
    · rename_i k
      split at p2
      · rename_i j hj
        obtain ⟨q', f1, f2, f3, ⟨us, f4, f4'⟩, f5, f6, _⟩ := st2.own_at hs
        rw [e2] at f2
        cases f2
        refine ⟨q, us, k, j, rfl, rep_int kr, f4, by rw [← f4'.len]; exact hj, ?_⟩
        exact p2 w2 _ σ O (st2.mut hs e2 ⟨_, upd_same, f4'.set_ (r.mono l2) j⟩ nt_lst) (.refl w2)
      · exact False.elim p2
    · exact False.elim p2
  · rename_i n hs
    have hi : i < σ.length := by
      rw [← st1.l1]
      exact (List.getElem?_eq_some_iff.mp hs).1
    have hO : i < O.length := by
      rw [st1.l2]
      exact hi
    obtain ⟨_, x, ex, rx⟩ := st1.sl i (.v (.ref n)) σ[i] O[i] hs (List.getElem?_eq_getElem hi) (List.getElem?_eq_getElem hO)
    refine ⟨x, by rw [List.getElem?_eq_getElem hi, ex], ?_⟩
    refine hk w0 H0 w1 H1 σ env S1 O _ st1 ((PostS.out p1).imp fun k S2 w2 H2 st2 l2 p2 kv kr => ?_)
    split at p2
    · rename_i ds k hS
      split at p2
      · rename_i j hj
        obtain ⟨a, us, x1, x2, x3, x4⟩ := cell_lst st2.ok (rx.mono l2) hS
        refine ⟨a, us, k, j, x1, rep_int kr, x3, by rw [← x4.len]; exact hj, ?_⟩
        obtain ⟨k3, f3⟩ := ok_cell (c' := .lst (ds.set j d)) st2.ok x2 hS (o := .lst (us.set j v)) ⟨_, upd_same, x4.set_ (r.mono l2) j⟩ nt_lst
        exact p2 w2 _ σ O (st2.after f3 k3) (.refl w2)
      · exact False.elim p2
    · exact False.elim p2
  · exact p1.elim
theorem t_put (i : Nat) {x : Str} {p1 p2 : Pos} (hk : SE X Y W a ta ma) (he : SE X Y W e te me) (hN : X.N[i]? = some x := by rfl) (hv : Vis X.env.scope x := by first | exact Or.inl rfl | exact Or.inr (Or.inl rfl) | exact Or.inr (Or.inr rfl)) (hd : (x == ("__debug__" : Str)) = false := by decide)
    (hcd : (x == ("__classdict__" : Str)) = false := by decide) (ha : ∀ v, assign (.Subscript (.Name x p1) a p2) X.env v = (do
      let ov ← holding [v] (eval (.Name x p1) X.env)
      let iv ← holding [v, ov] (eval a X.env)
      standAt p2
      holding [v, ov, iv] (setItem ov iv v)
      release [v, ov, iv] []) := by intro _; rfl) (hs : swapsWithSole [.Subscript (.Name x p1) a p2] e pos.line X.env = pure false := by rfl) (hw : swappedStores [.Subscript (.Name x p1) a p2] e X.env = pure none := by rfl)
    (h1 : (assignEach [.Subscript (.Name x p1) a p2] X.env).map (·.2) = [assign (.Subscript (.Name x p1) a p2) X.env] := by rfl) :
    SS X Y W (.Assign [.Subscript (.Name x p1) a p2] e pos) (tAsg te (gSub (tVar i) ta rSetL)) (sPut i ma me) := ⟨ps_asg he.pe (pg_sub (pv i hN hv hd hcd) hk.pe set_list ha) hs hw h1, sim_put hk.sim he.sim⟩
def sAug (i : Nat) (f : Int → Int → Int) (me : ME) : MS := fun env S => match env[i]? with
  | some (.v (.int k)) => (me env S).out env fun d S1 => (match d with
    | .int j => .nx (env.set i (.v (.int (f k j)))) S1
    | _ => .stuck)
  | _ => .stuck
theorem t_aug {i : Nat} {x : Str} {op : Operator} {f : Int → Int → Int} {pos' : Pos} (hN : X.N.Nodup) (hi : X.N[i]? = some x) (hx : Loc X.env.scope x) (ho : PIp X op (ipI f)) (he : SE X Y W e te me) (hf : X.fn x = true ∨ X.env.scope.names.lookup x = some .local := by first | exact .inl rfl | exact .inr rfl | assumption) :
    SS X Y W (.AugAssign (.Name x pos') op e pos) (tAug i te (ipI f)) (sAug i f me) := ⟨ps_aug hN hi hx he.pe ho hf, fun w0 H0 w H σ env S O Dn st p => by
  unfold sAug at p
  split at p
  · rename_i k hs
    have hi : i < σ.length := by
      rw [← st.l1]
      exact (List.getElem?_eq_some_iff.mp hs).1
    have hO : i < O.length := by
      rw [st.l2]
      exact hi
    obtain ⟨_, x, ex, rx⟩ := st.sl i (.v (.int k)) σ[i] O[i] hs (List.getElem?_eq_getElem hi) (List.getElem?_eq_getElem hO)
    refine ⟨x, by rw [List.getElem?_eq_getElem hi, ex], ?_⟩
    refine he.sim w0 H0 w H σ env S O _ st ((PostS.out p).imp fun d S1 w1 H1 st1 l1 p1 v r => ?_)
    split at p1
    · rename_i j
      exact ⟨k, j, rep_int rx, rep_int r, p1 w1 H1 _ _ (st1.set_v i rep_int') (.refl w1)⟩
    · exact False.elim p1
  · exact p.elim⟩
theorem pmk_own0 {C : Addr} {bmB : List Value} {B newId initId : String} (F : ExcBaseFacts B newId initId bmB) (q : PySem.W.excIn X.K C bmB newId = true) (gC : X.mg x = some (.ref C)) (kC : PySem.W.keepIn X.K (.ref C) = true) (r : Raises X (.ref C)) (hg : Gl X x)
    (hdb : (x == ("__debug__" : Str)) = false := by decide) : L2N.PMk X (.Call (.Name x p) [] [] pos) (fun _ H Q => Q (.ref C) none H) := by
  intro pins s σ H Q I h
  refine wpAny_Call_Name_kw (ld_glob I hg gC ?_ hdb)
  refine PySem.W.callWith_K0 I.kIn kC ?_
  show wpAny _ _ (call (.ref C) []) _ _ _
  obtain ⟨bm, N, nm, qn, bs, hdct, sn, sub, ab, col, dd, k0, k1, k2, k3, k5, mN, hC, hN, hni, T⟩ := exc_obj I.kIn q
  refine wpAny_call_exc_subT F T hC hN hni (fun h' e hm => ?_) (by show 0 ≤ sizeLine; exact Nat.zero_le _)
  exact L2N.mk_of I hm r h (I.hok.gone hm.new)
def sRaise (c : Str) : MS := fun env S => .exc c none env S
theorem t_raise {x : Str} {pos' : Pos} (xP : PySem.W.excIn X.K (Y.ca x) [.type "ValueError", .type "Exception", .type "BaseException", .type "object"] "ValueError.__new__" = true) (gP : X.mg x = some (.ref (Y.ca x))) (kP : PySem.W.keepIn X.K (.ref (Y.ca x)) = true)
    (bP : PySem.W.subIn X.K (.ref (Y.ca x)) (.type "BaseException") = some true) (tP : PySem.W.typeIn X.K (.ref (Y.ca x)) = some (.type "type")) (tk : L2N.Takes X W) (hc : X.calm = true := by rfl) (hg : Gl X x := by rfl) (hdb : (x == ("__debug__" : Str)) = false := by decide) :
    SS X Y W (.Raise (some (.Call (.Name x p) [] [] pos)) none pos') (fun _ σ H => W (.ref (Y.ca x)) none σ H) (sRaise x) :=
  ⟨L2N.ps_raise hc tk (pmk_own0 PySem.F.excBase_ValueError xP gP kP (raises_own bP tP) hg hdb), fun w0 H0 w H σ env S O Dn st p => p w H σ O _ _ st (.refl w) ⟨rfl, rfl⟩⟩
end
end Mm
namespace Mm
open PySem L2
def putFD (f : Str) (v : D) : List (Str × D) → List (Str × D)
  | [] => [(f, v)]
  | (g, x) :: r => if g = f then (g, v) :: r else (g, x) :: putFD f v r
theorem RepF.look {g : Gam} {w : Wd} : ∀ {fs : List (Str × D)} {gs : List (Str × V)} {f : Str}, RepF g w fs gs → (∀ d, fs.lookup f = some d → ∃ v, gs.lookup f = some v ∧ Rep g w d v) ∧ (fs.lookup f = none → gs.lookup f = none)
  | [], gs, f, r => by
    unfold RepF at r
    subst r
    exact ⟨fun d h => (by cases h), fun _ => rfl⟩
  | (f', d') :: fs, gs, f, r => by
    unfold RepF at r
    obtain ⟨v, vr, e, a, b⟩ := r
    subst e
    have ih := RepF.look (f := f) b
    rw [List.lookup_cons, List.lookup_cons]
    cases f == f' with
    | true => exact ⟨fun d h => (by cases h; exact ⟨v, rfl, a⟩), fun h => (by cases h)⟩
    | false => exact ih
theorem RepF.put {g : Gam} {w : Wd} {f : Str} {d : D} {v : V} (q : Rep g w d v) : ∀ {fs : List (Str × D)} {gs : List (Str × V)}, RepF g w fs gs → RepF g w (putFD f d fs) (putF f v gs)
  | [], gs, r => by
    unfold RepF at r
    subst r
    unfold putFD putF RepF
    exact ⟨v, [], rfl, q, by unfold RepF; rfl⟩
  | (f', d') :: fs, gs, r => by
    unfold RepF at r
    obtain ⟨u, vr, e, a, b⟩ := r
    subst e
    unfold putFD putF
    by_cases h : f' = f
    · rw [if_pos h, if_pos h]
      unfold RepF
      exact ⟨v, vr, rfl, q, b⟩
    · rw [if_neg h, if_neg h]
      unfold RepF
      exact ⟨u, _, rfl, a, RepF.put q b⟩
theorem RepF.len {g : Gam} {w : Wd} : ∀ {fs : List (Str × D)} {gs : List (Str × V)}, RepF g w fs gs → fs.length = gs.length
  | [], gs, r => by
    unfold RepF at r
    subst r
    rfl
  | (f', d') :: fs, gs, r => by
    unfold RepF at r
    obtain ⟨u, vr, e, a, b⟩ := r
    subst e
    rw [List.length_cons, List.length_cons, RepF.len b]
def insOf (c : Str) (S : Sto) : D → Option (List (Str × D))
  | .ins c' fs => if c' = c then some fs else none
  | .ref n => (match S[n]? with
    | some (.ins c' fs) => if c' = c then some fs else none
    | _ => none)
  | _ => none
theorem insOf_rep {g : Gam} {w : Wd} {H : Hp} {S : Sto} {c : Str} {d : D} {v : V} {fs : List (Str × D)} (k : Ok g w H S) (r : Rep g w d v) (h : insOf c S d = some fs) : ∃ a dx gs, v = .ref a ∧ H a = some (.ins (g.ca c) dx gs) ∧ RepF g w fs gs := by
  unfold insOf at h
  split at h
  · split at h
    · rename_i c' fs' e
      cases h
      subst e
      unfold Rep at r
      obtain ⟨a, dx, gs, e1, e2, e3⟩ := r
      exact ⟨a, dx, gs, e1, k.ex _ _ e2, e3⟩
    · cases h
  · rename_i n
    split at h
    · rename_i c' fs' hS
      split at h
      · rename_i e
        cases h
        subst e
        obtain ⟨a, e1, e2⟩ := rep_ref r
        obtain ⟨_, dx, gs, e3, e4⟩ := k.cells.at_ n a _ e1 hS
        exact ⟨a, dx, gs, e2, e3, e4⟩
      · cases h
    · cases h
  · cases h
section
variable {X : Cx} {Y : Gam} {W : WX} {e a b c tg iter elt o : Expr} {es rest ifs : List Expr} {ta tb te : TE} {tt tu : TT} {ma mb me : ME} {mt mu : MT} {mf : MF} {t : TA} {m : MA} {pos p apos : Pos} {s : Stmt} {ss : List Stmt} {t1 t2 : TS} {m1 m2 : MS} {wi : TI} {mi : MI} {x f : Str}
def eFld (c f : Str) (me : ME) : ME := fun env S => (me env S).bind fun d S1 => match insOf c S1 d with
  | some fs => opt (fs.lookup f) S1
  | none => .stuck
theorem s_fld (c : Str) (hC : Cls X.K (Y.ca c)) (hn : NoAttr X.K (Y.ca c) f) (he : SE X Y W e te me) (hK : X.K = Y.K := by rfl) (hb : attributeBase e f X.env (eval e X.env) = eval e X.env := by rfl) : SE X Y W (.Attribute e f pos) (tFld Y.K te f) (eFld c f me) := ⟨hK ▸ pe_fld he.pe hb, fun w0 H0 w H σ env S O Q st p =>
  he.sim w0 H0 w H σ env S O _ st ((PostX.bind p).imp fun d S1 w1 H1 st1 l1 p1 v r => by
    split at p1
    · rename_i fs hf
      obtain ⟨a, dx, gs, e1, e2, e3⟩ := insOf_rep st1.ok r hf
      obtain ⟨d', e4, k⟩ := PostX.opt_ p1 st1
      obtain ⟨v', e5, e6⟩ := (RepF.look e3).1 d' e4
      exact ⟨a, _, dx, gs, v', e1, e2, hK ▸ hC, hK ▸ hn, e5, k w1 H1 st1 (.refl w1) v' e6⟩
    · exact False.elim p1)⟩
def sFldC (c f : Str) (mo me : ME) : MS := fun env S => (me env S).out env fun y S1 => (mo env S1).out env fun d S2 => match d with
  | .ref n => (match S2[n]? with
    | some (.ins c' fs) => if c' = c ∧ fs.length < 1000 then .nx env (S2.set n (.ins c (putFD f y fs))) else .stuck
    | _ => .stuck)
  | _ => .stuck
theorem t_fld (c : Str) {pos' : Pos} (hC : Cls X.K (Y.ca c)) (hn : NoAttr X.K (Y.ca c) f) (ho : SE X Y W o ta ma) (he : SE X Y W e te me) (hK : X.K = Y.K := by rfl) (hs : swapsWith e (some (.Attribute o f pos')) pos.line X.env = pure false := by rfl) :
    SS X Y W (.Assign [.Attribute o f pos'] e pos) (sFld Y.K ta te f) (sFldC c f ma me) := ⟨hK ▸ ps_fld ho.pe he.pe hs, fun w0 H0 w H σ env S O Dn st p =>
  he.sim w0 H0 w H σ env S O _ st ((PostS.out p).imp fun y S1 w1 H1 st1 l1 p1 yv ry => ho.sim w0 H0 w1 H1 σ env S1 O _ st1 ((PostS.out p1).imp fun d S2 w2 H2 st2 l2 p2 v r => by
    split at p2
    · rename_i n
      split at p2
      · rename_i c' fs hS
        split at p2
        · rename_i hc
          obtain ⟨ec, hl⟩ := hc
          subst ec
          obtain ⟨a, e1, e2⟩ := rep_ref r
          obtain ⟨_, dx, gs, e3, e4⟩ := st2.ok.cells.at_ n a _ e1 hS
          refine ⟨a, _, dx, gs, e2, e3, hK ▸ hC, hK ▸ hn, by rw [← e4.len]; exact hl, ?_⟩
          obtain ⟨k3, f3⟩ := ok_cell (c' := .ins c' (putFD f y fs)) st2.ok e1 hS (o := .ins _ dx (putF f yv gs)) ⟨dx, _, upd_same, RepF.put (ry.mono l2) e4⟩ nt_ins
          exact p2 w2 _ σ O (st2.after f3 k3) (.refl w2)
        · exact False.elim p2
      · exact False.elim p2
    · exact False.elim p2))⟩
variable {k n : Nat} {fa C : Addr} {fd : FuncData} {ps : List Str} {mf : MFn} {dvs : List V} {ds : List Value} {dd : List D}
def tMethS (C : Addr) (m : Str) (sp : Sp) (dvs : List V) (E : L2.St → XK) (ta : TE) (t : TA) : TE := fun σ H Q => ta σ H fun x H1 => ∃ a dx fs, x = .ref a ∧ H1 a = some (.ins C dx fs) ∧ fs.lookup m = none ∧
  t σ H1 fun vs H2 => sp (x :: (vs ++ dvs)) H2 Q (E σ)
theorem pe_methS {CX : CXT} {sp : Sp} {E : L2.St → XK} {pl : Sem Bool} (he : PE X o ta) (c : Cls X.K C) (hm : Meth X.K C x fa) (F : FnOk X.prog X.w X.K X.mg X.base CX k fa fd ps sp) (hr : Room k X.A) (hb : Binds X.K fd ps ds) (hd : Vals dvs ds) (hx : ∀ σ, PassesAt CX X σ (E σ)) (ha : PA X (e :: es) t)
    (hst : starEach (e :: es) X.env = (false, eval e X.env) :: starEach es X.env) (hpl : (backTo pos (starEach es X.env)).any (·.1) = false)
    (ht : eval (.Call (.Attribute o x apos) (e :: es) [] pos) X.env = (do
      let ov ← eval o X.env
      standAt apos.atName
      let (f, first) ← holding [ov] (getMethod ov x pl)
      callWith pos f first (backTo pos (starEach (e :: es) X.env)) (backToKw pos (keywordEach [] X.env)))) :
    PE X (.Call (.Attribute o x apos) (e :: es) [] pos) (tMethS C x sp dvs E ta t) := by
  refine ⟨fun pins s σ H Q I h => ?_⟩
  refine PySem.W.methodCall_KW (pl := pl) (thn (he.run pins s σ H _ I h) fun u s1 ⟨x, H1, I1, rx, a, dx, fs, ex, ea, l, q⟩ => ?_) ht
  subst ex
  obtain rfl : u = Value.ref a := rx
  refine getmeth_ok I1 ea c hm l ?_
  refine PySem.W.callWith_K (first := [.ref a]) (h₀ := X.base) I.ok.mod.kin hm.kp (thn (ha.run pos pins s1 σ H1 _ I1 q) fun us s2 ⟨vs, H2, I2, r, q2⟩ => ⟨I2.kIn, ?_⟩) hst hpl
  exact run_fnSD (us := .ref a :: us) (vs := .ref a :: vs) F hr hb hd (hx σ) I2 (.cons rfl r) q2
theorem pe_methS0 {CX : CXT} {sp : Sp} {E : L2.St → XK} {pl : Sem Bool} (he : PE X o ta) (c : Cls X.K C) (hm : Meth X.K C x fa) (F : FnOk X.prog X.w X.K X.mg X.base CX k fa fd ps sp) (hr : Room k X.A) (hb : Binds X.K fd ps ds) (hd : Vals dvs ds) (hx : ∀ σ, PassesAt CX X σ (E σ))
    (ht : eval (.Call (.Attribute o x apos) [] [] pos) X.env = (do
      let ov ← eval o X.env
      standAt apos.atName
      let (f, first) ← holding [ov] (getMethod ov x pl)
      callWith pos f first (backTo pos (starEach [] X.env)) (backToKw pos (keywordEach [] X.env)))) :
    PE X (.Call (.Attribute o x apos) [] [] pos) (tMethS C x sp dvs E ta tNil) := by
  refine ⟨fun pins s σ H Q I h => ?_⟩
  refine PySem.W.methodCall_KW (pl := pl) (thn (he.run pins s σ H _ I h) fun u s1 ⟨x, H1, I1, rx, a, dx, fs, ex, ea, l, q⟩ => ?_) ht
  subst ex
  obtain rfl : u = Value.ref a := rx
  refine getmeth_ok I1 ea c hm l ?_
  exact PySem.W.callWith_K0 (first := [.ref a]) I1.kIn hm.kp (run_fnSD (us := [.ref a]) (vs := [.ref a]) F hr hb hd (hx σ) I1 (.cons rfl .nil) q)
def mGo {α : Type} (c x : Str) (mf : MFn) (dd : List D) (mo : ME) (m : MA) (F : Ret → Sto → R α) : Envr → Sto → R α := fun env S => (mo env S).bind fun o S1 => match insOf c S1 o with
  | some fs => if fs.lookup x = none then (m env S1).bind fun ds S2 => (mf (o :: (ds ++ dd)) S2).bind F else .stuck
  | none => .stuck
def eMeth (c x : Str) (mf : MFn) (dd : List D) (mo : ME) (m : MA) : ME := mGo c x mf dd mo m fun r S => .ok r.d S
def fMeth (c x : Str) (mf : MFn) (dd : List D) (mo : ME) (m : MA) : MF := mGo c x mf dd mo m rOwn
theorem sim_methA {α : Type} {F : Ret → Sto → R α} {g : Gam} {c : Str} (hdv : ∀ w, RepL g w dd dvs) (ho : SimE g W ta ma) (ha : SimA g W t m) (hlen : ∀ env S ds S1, m env S = .ok ds S1 → ds.length + dd.length + 1 = n) {w0 w : Wd} {H0 H : Hp} {σ : L2.St} {env : Envr} {S : Sto} {O : List (Option Addr)} {kk : α → Sto → Wd → Hp → Prop} {Q : VK}
    (st : StR g w0 H0 w H σ env S O) (p : PostX g W w0 H0 w σ env O (mGo c x mf dd ma m F env S) kk)
    (fin : ∀ w1 H1 S1 r, StR g w0 H0 w1 H1 σ env S1 O → PostX g W w0 H0 w1 σ env O (r.bind F) kk → PostF g w1 H1 Q (WE W σ) r) : tMethS (g.ca c) x (spOf g n mf) dvs (WE W) ta t σ H Q := by
  refine ho w0 H0 w H σ env S O _ st ((PostX.bind p).imp fun od S1 w1 H1 st1 l1 p1 ov or => ?_)
  split at p1
  · rename_i fs hf
    split at p1
    · rename_i hx
      obtain ⟨a, dx, gs, e1, e2, e3⟩ := insOf_rep st1.ok or hf
      refine ⟨a, dx, gs, e1, e2, (RepF.look e3).2 hx, ?_⟩
      refine ha w0 H0 w1 H1 σ env S1 O _ st1 ?_
      have p2 := PostX.bind p1
      cases e : m env S1 with
      | stuck => rw [e] at p2; exact p2
      | exc c q S2 => rw [e] at p2; exact p2
      | ok ds S2 =>
        rw [e] at p2
        intro w2 H2 st2 l2 vs rs
        have p3 := p2 w2 H2 st2 l2
        have r2 := RepL.cons_ (or.mono l2) (rs.append_ (hdv w2))
        refine ⟨?_, w2, od :: (ds ++ dd), S2, st2.ok, r2, fin w2 H2 S2 _ st2 p3⟩
        rw [← r2.len, List.length_cons, List.length_append]
        exact hlen env S1 ds S2 e
    · exact False.elim p1
  · exact False.elim p1
theorem s_meth (c : Str) {pl : Sem Bool} (ho : SE X Y W o ta ma) (hC : Cls X.K (Y.ca c)) (hm : Meth X.K (Y.ca c) x fa) (F : FnOk X.prog X.w X.K X.mg X.base (L2N.CX X.prog X.w) k fa fd ps (spOf Y n mf)) (hr : Room k X.A) (hb : Binds X.K fd ps ds) (hd : Vals dvs ds) (hdv : ∀ w, RepL Y w dd dvs) (tk : L2N.Takes X W)
    (ha : SA X Y W (e :: es) t m) (hn : (e :: es).length + dd.length + 1 = n := by rfl) (hst : starEach (e :: es) X.env = (false, eval e X.env) :: starEach es X.env := by rfl) (hpl : (backTo pos (starEach es X.env)).any (·.1) = false := by rfl)
    (ht : eval (.Call (.Attribute o x apos) (e :: es) [] pos) X.env = (do
      let ov ← eval o X.env
      standAt apos.atName
      let (f, first) ← holding [ov] (getMethod ov x pl)
      callWith pos f first (backTo pos (starEach (e :: es) X.env)) (backToKw pos (keywordEach [] X.env))) := by rfl) :
    SE X Y W (.Call (.Attribute o x apos) (e :: es) [] pos) (tMethS (Y.ca c) x (spOf Y n mf) dvs (WE W) ta t) (eMeth c x mf dd ma m) :=
  ⟨pe_methS ho.pe hC hm F hr hb hd (fun σ => L2N.passAt tk σ) ha.pa hst hpl ht, fun w0 H0 w H σ env S O Q st p => sim_methA (g := Y) hdv ho.sim ha.sim (fun env S ds S1 h => by rw [ha.len _ _ _ _ h]; exact hn) st p fun w1 H1 S1 r st1 p1 => post_val st1 p1⟩
theorem f_meth (c : Str) {pl : Sem Bool} (ho : SE X Y W o ta ma) (hC : Cls X.K (Y.ca c)) (hm : Meth X.K (Y.ca c) x fa) (F : FnOk X.prog X.w X.K X.mg X.base (L2N.CX X.prog X.w) k fa fd ps (spOf Y n mf)) (hr : Room k X.A) (hb : Binds X.K fd ps ds) (hd : Vals dvs ds) (hdv : ∀ w, RepL Y w dd dvs) (tk : L2N.Takes X W)
    (ha : SA X Y W (e :: es) t m) (hn : (e :: es).length + dd.length + 1 = n := by rfl) (hst : starEach (e :: es) X.env = (false, eval e X.env) :: starEach es X.env := by rfl) (hpl : (backTo pos (starEach es X.env)).any (·.1) = false := by rfl)
    (ht : eval (.Call (.Attribute o x apos) (e :: es) [] pos) X.env = (do
      let ov ← eval o X.env
      standAt apos.atName
      let (f, first) ← holding [ov] (getMethod ov x pl)
      callWith pos f first (backTo pos (starEach (e :: es) X.env)) (backToKw pos (keywordEach [] X.env))) := by rfl) :
    SF X Y W (.Call (.Attribute o x apos) (e :: es) [] pos) (tMethS (Y.ca c) x (spOf Y n mf) dvs (WE W) ta t) (fMeth c x mf dd ma m) :=
  ⟨pe_methS ho.pe hC hm F hr hb hd (fun σ => L2N.passAt tk σ) ha.pa hst hpl ht, fun w0 H0 w H σ env S O Q st p => sim_methA (g := Y) hdv ho.sim ha.sim (fun env S ds S1 h => by rw [ha.len _ _ _ _ h]; exact hn) st p fun w1 H1 S1 r st1 p1 => post_own st1 p1⟩
theorem s_meth0 (c : Str) {pl : Sem Bool} (ho : SE X Y W o ta ma) (hC : Cls X.K (Y.ca c)) (hm : Meth X.K (Y.ca c) x fa) (F : FnOk X.prog X.w X.K X.mg X.base (L2N.CX X.prog X.w) k fa fd ps (spOf Y n mf)) (hr : Room k X.A) (hb : Binds X.K fd ps ds) (hd : Vals dvs ds) (hdv : ∀ w, RepL Y w dd dvs) (tk : L2N.Takes X W)
    (hn : dd.length + 1 = n := by rfl)
    (ht : eval (.Call (.Attribute o x apos) [] [] pos) X.env = (do
      let ov ← eval o X.env
      standAt apos.atName
      let (f, first) ← holding [ov] (getMethod ov x pl)
      callWith pos f first (backTo pos (starEach [] X.env)) (backToKw pos (keywordEach [] X.env))) := by rfl) :
    SE X Y W (.Call (.Attribute o x apos) [] [] pos) (tMethS (Y.ca c) x (spOf Y n mf) dvs (WE W) ta tNil) (eMeth c x mf dd ma aNil) :=
  ⟨pe_methS0 ho.pe hC hm F hr hb hd (fun σ => L2N.passAt tk σ) ht, fun w0 H0 w H σ env S O Q st p => sim_methA (g := Y) hdv ho.sim (a_nil (X := X) (Y := Y)).sim (fun env S ds S1 h => by cases h; rw [← hn, List.length_nil]; omega) st p fun w1 H1 S1 r st1 p1 => post_val st1 p1⟩
theorem f_meth0 (c : Str) {pl : Sem Bool} (ho : SE X Y W o ta ma) (hC : Cls X.K (Y.ca c)) (hm : Meth X.K (Y.ca c) x fa) (F : FnOk X.prog X.w X.K X.mg X.base (L2N.CX X.prog X.w) k fa fd ps (spOf Y n mf)) (hr : Room k X.A) (hb : Binds X.K fd ps ds) (hd : Vals dvs ds) (hdv : ∀ w, RepL Y w dd dvs) (tk : L2N.Takes X W)
    (hn : dd.length + 1 = n := by rfl)
    (ht : eval (.Call (.Attribute o x apos) [] [] pos) X.env = (do
      let ov ← eval o X.env
      standAt apos.atName
      let (f, first) ← holding [ov] (getMethod ov x pl)
      callWith pos f first (backTo pos (starEach [] X.env)) (backToKw pos (keywordEach [] X.env))) := by rfl) :
    SF X Y W (.Call (.Attribute o x apos) [] [] pos) (tMethS (Y.ca c) x (spOf Y n mf) dvs (WE W) ta tNil) (fMeth c x mf dd ma aNil) :=
  ⟨pe_methS0 ho.pe hC hm F hr hb hd (fun σ => L2N.passAt tk σ) ht, fun w0 H0 w H σ env S O Q st p => sim_methA (g := Y) hdv ho.sim (a_nil (X := X) (Y := Y)).sim (fun env S ds S1 h => by cases h; rw [← hn, List.length_nil]; omega) st p fun w1 H1 S1 r st1 p1 => post_own st1 p1⟩
end
end Mm
namespace Mm
open PySem L2
mutual
def D.under (n : Nat) : D → Prop
  | .lst ds => underL n ds
  | .tup ds => underL n ds
  | .ins _ fs => underF n fs
  | .ref m => m < n
  | .dic ks => underK n ks
  | _ => True
def underL (n : Nat) : List D → Prop
  | [] => True
  | d :: ds => d.under n ∧ underL n ds
def underF (n : Nat) : List (Str × D) → Prop
  | [] => True
  | (_, d) :: ds => d.under n ∧ underF n ds
def underK (n : Nat) : List (Key × D) → Prop
  | [] => True
  | (_, d) :: ds => d.under n ∧ underK n ds
end
theorem under_ints (n : Nat) : ∀ ns : List Int, underL n (ns.map D.int)
  | [] => by unfold List.map underL; trivial
  | i :: ns => by
    unfold List.map underL
    exact ⟨by unfold D.under; trivial, under_ints n ns⟩
mutual
theorem Rep.under {g : Gam} {w : Wd} : ∀ {d : D} {v : V}, Rep g w d v → d.under w.rho.length
  | .non, _, _ => by unfold D.under; trivial
  | .bl _, _, _ => by unfold D.under; trivial
  | .int _, _, _ => by unfold D.under; trivial
  | .str _, _, _ => by unfold D.under; trivial
  | .scr _, _, _ => by unfold D.under; trivial
  | .ty _, _, _ => by unfold D.under; trivial
  | .cls _, _, _ => by unfold D.under; trivial
  | .adr _, _, _ => by unfold D.under; trivial
  | .set _, _, _ => by unfold D.under; trivial
  | .tdc _, _, _ => by unfold D.under; trivial
  | .tds _, _, _ => by unfold D.under; trivial
  | .any, _, _ => by unfold D.under; trivial
  | .dic ds, v, h => by
    unfold Rep at h
    obtain ⟨a, vs, _, _, r⟩ := h
    unfold D.under
    exact RepK.under r
  | .lst ds, v, h => by
    obtain ⟨a, vs, _, _, r⟩ := rep_lst h
    unfold D.under
    exact RepL.under r
  | .tup ds, v, h => by
    obtain ⟨a, vs, _, _, r⟩ := rep_tup h
    unfold D.under
    exact RepL.under r
  | .ins c fs, v, h => by
    unfold Rep at h
    obtain ⟨a, dx, gs, _, _, r⟩ := h
    unfold D.under
    exact RepF.under r
  | .ref n, v, h => by
    obtain ⟨a, e, _⟩ := rep_ref h
    unfold D.under
    exact (List.getElem?_eq_some_iff.mp e).1
theorem RepL.under {g : Gam} {w : Wd} : ∀ {ds : List D} {vs : List V}, RepL g w ds vs → underL w.rho.length ds
  | [], _, _ => by unfold underL; trivial
  | d :: ds, vs, h => by
    unfold RepL at h
    obtain ⟨v, r, e, a, b⟩ := h
    unfold underL
    exact ⟨Rep.under a, RepL.under b⟩
theorem RepF.under {g : Gam} {w : Wd} : ∀ {ds : List (Str × D)} {vs : List (Str × V)}, RepF g w ds vs → underF w.rho.length ds
  | [], _, _ => by unfold underF; trivial
  | (f, d) :: ds, vs, h => by
    unfold RepF at h
    obtain ⟨v, r, e, a, b⟩ := h
    unfold underF
    exact ⟨Rep.under a, RepF.under b⟩
theorem RepK.under {g : Gam} {w : Wd} : ∀ {ds : List (Key × D)} {vs : List (Key × V)}, RepK g w ds vs → underK w.rho.length ds
  | [], _, _ => by unfold underK; trivial
  | (f, d) :: ds, vs, h => by
    unfold RepK at h
    obtain ⟨v, r, e, a, b⟩ := h
    unfold underK
    exact ⟨a.under, RepK.under b⟩
end
structure Wd.cut (w w' : Wd) (n : Nat) : Prop where
  pre : ∀ m a, m < n → w.rho[m]? = some a → w'.rho[m]? = some a
  ex : Same w.G w'.G
mutual
theorem Rep.cut {g : Gam} {w w' : Wd} {n : Nat} (l : w.cut w' n) : ∀ {d : D} {v : V}, Rep g w d v → d.under n → Rep g w' d v
  | .non, _, h, _ => h
  | .bl _, _, h, _ => h
  | .int _, _, h, _ => h
  | .str _, _, h, _ => h
  | .lst ds, v, h, k => by
    unfold Rep at h ⊢
    unfold D.under at k
    obtain ⟨a, vs, e, q, r⟩ := h
    exact ⟨a, vs, e, l.ex _ _ q, RepL.cut l r k⟩
  | .tup ds, v, h, k => by
    unfold Rep at h ⊢
    unfold D.under at k
    obtain ⟨a, vs, e, q, r⟩ := h
    exact ⟨a, vs, e, q.same l.ex, RepL.cut l r k⟩
  | .ins c fs, v, h, k => by
    unfold Rep at h ⊢
    unfold D.under at k
    obtain ⟨a, dx, gs, e, q, r⟩ := h
    exact ⟨a, dx, gs, e, l.ex _ _ q, RepF.cut l r k⟩
  | .ref n, v, h, k => by
    unfold Rep at h ⊢
    unfold D.under at k
    obtain ⟨a, e, q⟩ := h
    exact ⟨a, l.pre _ _ k e, q⟩
  | .scr ns, v, h, _ => by
    unfold Rep at h ⊢
    obtain ⟨a, e, q⟩ := h
    exact ⟨a, e, l.ex.seq q⟩
  | .ty _, _, h, _ => h
  | .cls _, _, h, _ => h
  | .adr _, _, h, _ => h
  | .set xs, v, h, _ => by
    unfold Rep at h ⊢
    obtain ⟨a, q, e, r, s⟩ := h
    exact ⟨a, q, e, l.ex _ _ r, s⟩
  | .dic ds, v, h, k => by
    unfold Rep at h ⊢
    unfold D.under at k
    obtain ⟨a, vs, e, q, r⟩ := h
    exact ⟨a, vs, e, same_rd l.ex q, RepK.cut l r k⟩
  | .tdc ks, v, h, _ => by
    unfold Rep at h ⊢
    obtain ⟨a, e, q⟩ := h
    exact ⟨a, e, l.ex _ _ q⟩
  | .any, v, h, _ => by
    unfold Rep at h ⊢
    exact h
  | .tds ks, v, h, _ => by
    unfold Rep at h ⊢
    obtain ⟨a, e, q⟩ := h
    exact ⟨a, e, l.ex _ _ q⟩
theorem RepL.cut {g : Gam} {w w' : Wd} {n : Nat} (l : w.cut w' n) : ∀ {ds : List D} {vs : List V}, RepL g w ds vs → underL n ds → RepL g w' ds vs
  | [], _, h, _ => h
  | d :: ds, vs, h, k => by
    unfold RepL at h ⊢
    unfold underL at k
    obtain ⟨v, r, e, a, b⟩ := h
    exact ⟨v, r, e, Rep.cut l a k.1, RepL.cut l b k.2⟩
theorem RepF.cut {g : Gam} {w w' : Wd} {n : Nat} (l : w.cut w' n) : ∀ {ds : List (Str × D)} {vs : List (Str × V)}, RepF g w ds vs → underF n ds → RepF g w' ds vs
  | [], _, h, _ => h
  | (f, d) :: ds, vs, h, k => by
    unfold RepF at h ⊢
    unfold underF at k
    obtain ⟨v, r, e, a, b⟩ := h
    exact ⟨v, r, e, Rep.cut l a k.1, RepF.cut l b k.2⟩
theorem RepK.cut {g : Gam} {w w' : Wd} {n : Nat} (l : w.cut w' n) : ∀ {ds : List (Key × D)} {vs : List (Key × V)}, RepK g w ds vs → underK n ds → RepK g w' ds vs
  | [], _, h, _ => h
  | (f, d) :: ds, vs, h, k => by
    unfold RepK at h ⊢
    unfold underK at k
    obtain ⟨v, r, e, a, b⟩ := h
    exact ⟨v, r, e, a.cut l k.1, RepK.cut l b k.2⟩
end
theorem MemX.cut {g : Gam} {w w' : Wd} {n : Nat} (l : w.cut w' n) : ∀ {ks : List ((List Int × List Int) × Int)} {xs : List (NestedKey × Addr × Value)}, MemX g w ks xs → MemX g w' ks xs
  | [], _, h => h
  | ((A, B), z) :: ks, xs, h => by
    obtain ⟨t, tok, r, e, q, m⟩ := h
    refine ⟨t, tok, r, e, q.cut l ?_, m.cut l⟩
    have u : ∀ C : List Int, (D.tup (C.map D.int)).under n := fun C => by unfold D.under; exact under_ints n C
    unfold D.under underL
    refine ⟨u A, ?_⟩
    unfold underL
    refine ⟨u B, ?_⟩
    unfold underL
    trivial
def Cell.under (n : Nat) : Cell → Prop
  | .lst ds => underL n ds
  | .ins _ fs => underF n fs
  | .dic ks => underK n ks
  | .tdc _ => True
  | .lck ks => underK n ks
  | .mem _ => True
  | .lkl ds => underL n ds
theorem CellR.under {g : Gam} {w : Wd} {H : Hp} {a : Addr} {c : Cell} (h : CellR g w H a c) : c.under w.rho.length := by
  cases c with
  | lst ds =>
    obtain ⟨vs, _, r⟩ := h
    exact r.under
  | ins c fs =>
    obtain ⟨dx, gs, _, r⟩ := h
    exact r.under
  | dic ks =>
    obtain ⟨gs, _, r⟩ := h
    exact r.under
  | tdc ks => trivial
  | lck ks =>
    obtain ⟨_, gs, _, r⟩ := h
    exact r.under
  | mem ks => trivial
  | lkl ds =>
    obtain ⟨_, vs, _, r⟩ := h
    exact r.under
theorem CellR.cut {g : Gam} {w w' : Wd} {H : Hp} {a : Addr} {c : Cell} {n : Nat} (l : w.cut w' n) (h : CellR g w H a c) (k : c.under n) : CellR g w' H a c := by
  cases c with
  | lst ds =>
    obtain ⟨vs, e, r⟩ := h
    exact ⟨vs, e, r.cut l k⟩
  | ins c fs =>
    obtain ⟨dx, gs, e, r⟩ := h
    exact ⟨dx, gs, e, r.cut l k⟩
  | dic ks =>
    obtain ⟨gs, e, r⟩ := h
    exact ⟨gs, e, r.cut l k⟩
  | tdc ks => exact h
  | lck ks =>
    obtain ⟨o, gs, e, r⟩ := h
    exact ⟨o, gs, e, r.cut l k⟩
  | mem ks =>
    obtain ⟨o, es, ep, xs, e1, h1, h2, h3, h4, h5⟩ := h
    exact ⟨o, es, ep, xs, e1, h1, h2, h3, h4, h5.cut l⟩
  | lkl ds =>
    obtain ⟨o, gs, e, r⟩ := h
    exact ⟨o, gs, e, r.cut l k⟩
section
variable {X : Cx} {Y : Gam} {W : WX} {e a b c tg iter elt o : Expr} {es rest ifs : List Expr} {ta tb te : TE} {tt tu : TT} {ma mb me : ME} {mt mu : MT} {t : TA} {m : MA} {pos p apos : Pos} {x f : Str}
variable {k n : Nat} {fa C : Addr} {fd : FuncData} {ps : List Str} {mf : MFn} {dvs : List V} {ds : List Value} {dd : List D}
open Classical in
noncomputable def popI (c : Str) (S : Sto) (r : R Ret) : R D := match r with
  | .ok (.val .non) S2 => (match S2.getLast? with
    | some (.ins c' fs) => if S2 = S ++ [.ins c fs] ∧ c' = c ∧ underF S.length fs then .ok (.ins c fs) S else .stuck
    | _ => .stuck)
  | .exc cc none S2 => (match S2.getLast? with
    | some q => if S2 = S ++ [q] then .exc cc none S else .stuck
    | _ => .stuck)
  | _ => .stuck
theorem popI_ok {c : Str} {S : Sto} {fs : List (Str × D)} (h : underF S.length fs) : popI c S (.ok (.val .non) (S ++ [.ins c fs])) = .ok (.ins c fs) S := by
  unfold popI
  simp [h]
noncomputable def eNew (c : Str) (mf : MFn) (dd : List D) (m : MA) : ME := fun env S => (m env S).bind fun ds S1 => popI c S1 (mf (.ref S1.length :: (ds ++ dd)) (S1 ++ [.ins c []]))
def tMakeS (C : Addr) (sp : Sp) (dvs : List V) (E : L2.St → XK) (t : TA) : TE := fun σ H Q => t σ H fun vs H1 => ∀ x dx, H1 x = none → H1 dx = none → dx ≠ x →
  sp (.ref x :: (vs ++ dvs)) (upd (upd H1 dx (.own x)) x (.ins C dx [])) (fun v H2 => v = .non ∧ Q (.ref x) H2) (E σ)
theorem run_makeS {CX : CXT} {sp : Sp} {E : L2.St → XK} {pins : List (Addr × Obj)} {σ : L2.St} {H : Hp} {s : Shared} {Q : VK} {us : List Value} {vs : List V} (M : Mk X.K C fa) (F : FnOk X.prog X.w X.K X.mg X.base CX k fa fd ps sp) (hr : Room (k + 1) X.A) (hb : Binds X.K fd ps ds) (hd : Vals dvs ds)
    (hx : ∀ (pins : List (Addr × Obj)) (H : Hp) (s : Shared) (e : Value) (s' : Shared), Inv X pins σ H s → CX X.stack H s (E σ) e s' → X.xe e s') (I : Inv X pins σ H s) (r : Vals vs us)
    (h : ∀ x dx, H x = none → H dx = none → dx ≠ x → sp (.ref x :: (vs ++ dvs)) (upd (upd H dx (.own x)) x (.ins C dx [])) (fun v H2 => v = .non ∧ Q (.ref x) H2) (E σ)) :
    wpAny (model X.prog X.w) X.A (call (.ref C) us) (EP X pins σ Q) X.xe s := by
  have hq := h (s.heap.objs.size + 1) s.heap.objs.size (I.hok.fresh (Nat.le_succ _)) (I.hok.fresh (Nat.le_refl _)) (Nat.ne_of_lt (Nat.lt_succ_self _))
  have I2 := Inv.made (C := C) I
  have r2 : Vals (V.ref (s.heap.objs.size + 1) :: (vs ++ dvs)) (Value.ref (s.heap.objs.size + 1) :: (us ++ ds)) := .cons rfl (r.append hd)
  have hl : (Value.ref (s.heap.objs.size + 1) :: us ++ ds).length = ps.length := by
    have e := r2.length
    rw [F.len _ _ _ _ hq] at e
    exact e.symm
  refine wpAny_call (make_map (f := fa) I.kIn M.makes M.init (beq_iff_eq.mp M.fn) (codeAny_mono (F.run _ X.stack _ _ ⟨Value.ref (s.heap.objs.size + 1) :: us, []⟩ (Value.ref (s.heap.objs.size + 1) :: (us ++ ds)) _ _ (E σ) (hr.make C us [])
    (I2.env0.make C us []) (hb _ (Value.ref (s.heap.objs.size + 1) :: us) I2.kIn hl) r2 hq) fun r s' hq' => ?_))
  cases r with
  | error e => exact hx pins _ _ e s' I2 hq'
  | ok fl =>
    cases fl with
    | ret u =>
      obtain ⟨v, H', I3, rv, ev, q3⟩ := I2.after hq'
      subst ev
      exact ⟨rv, ⟨V.ref (s.heap.objs.size + 1), H', I3, rfl, q3⟩⟩
    | next => exact False.elim hq'
    | brk => exact False.elim hq'
    | cont => exact False.elim hq'
theorem pe_makeS {CX : CXT} {sp : Sp} {E : L2.St → XK} (M : Mk X.K C fa) (F : FnOk X.prog X.w X.K X.mg X.base CX k fa fd ps sp) (hr : Room (k + 1) X.A) (hg : Gl X x) (hm : X.mg x = some (.ref C)) (hb : Binds X.K fd ps ds) (hd : Vals dvs ds) (hx : ∀ σ, PassesAt CX X σ (E σ))
    (ha : PA X (e :: es) t) (hdb : (x == ("__debug__" : Str)) = false) (he : starEach (e :: es) X.env = (false, eval e X.env) :: starEach es X.env) (hpl : (backTo pos (starEach es X.env)).any (·.1) = false) :
    PE X (.Call (.Name x p) (e :: es) [] pos) (tMakeS C sp dvs E t) := by
  refine ⟨fun pins s σ H Q I h => ?_⟩
  refine wpAny_Call_Name_kw (ld_glob I hg hm ?_ hdb)
  refine PySem.W.callWith_K (h₀ := X.base) I.ok.mod.kin M.kp (thn (ha.run pos pins s σ H _ I h) fun us s1 ⟨vs, H1, I1, r, q⟩ => ⟨I1.kIn, ?_⟩) he hpl
  exact run_makeS M F hr hb hd (hx σ) I1 r q
theorem ok_inst {g : Gam} {w : Wd} {H : Hp} {S : Sto} {c : Str} {x dx : Addr} (k : Ok g w H S) (hx : H x = none) (hdx : H dx = none) (ne : dx ≠ x) :
    Ok g ⟨w.rho ++ [x], w.G⟩ (upd (upd H dx (.own x)) x (.ins (g.ca c) dx [])) (S ++ [.ins c []]) ∧ w.le ⟨w.rho ++ [x], w.G⟩ := by
  have le : w.le ⟨w.rho ++ [x], w.G⟩ := ⟨⟨[x], rfl⟩, Same.refl _⟩
  obtain ⟨k1, f1⟩ := ok_lay (o := .own x) k hdx nt_own
  have hx1 : upd H dx (.own x) x = none := by rw [upd_ne (Ne.symm ne)]; exact hx
  obtain ⟨k2, f2⟩ := ok_lay (o := .ins (g.ca c) dx []) k1 hx1 nt_ins
  have nx : x ∉ w.rho := fun m => by
    obtain ⟨_, o, e⟩ := k.cells.in_ m
    rw [hx] at e
    cases e
  refine ⟨⟨k2.ex, ⟨fun i j a h1 h2 => ?_, ?_, fun m a q h1 h2 => ?_⟩, k2.tabs, k2.notab⟩, le⟩
  · have h1 : (w.rho ++ [x])[i]? = some a := h1
    have h2 : (w.rho ++ [x])[j]? = some a := h2
    by_cases hi : i < w.rho.length
    · by_cases hj : j < w.rho.length
      · rw [List.getElem?_append_left hi] at h1
        rw [List.getElem?_append_left hj] at h2
        exact k.cells.nd i j a h1 h2
      · rw [List.getElem?_append_left hi] at h1
        rw [List.getElem?_append_right (by omega)] at h2
        have : a = x := by
          cases z : j - w.rho.length with
          | zero => rw [z] at h2; simpa using h2.symm
          | succ q => rw [z] at h2; simp at h2
        exact absurd (this ▸ List.mem_of_getElem? h1) nx
    · by_cases hj : j < w.rho.length
      · rw [List.getElem?_append_right (by omega)] at h1
        rw [List.getElem?_append_left hj] at h2
        have : a = x := by
          cases z : i - w.rho.length with
          | zero => rw [z] at h1; simpa using h1.symm
          | succ q => rw [z] at h1; simp at h1
        exact absurd (this ▸ List.mem_of_getElem? h2) nx
      · have l1 := (List.getElem?_eq_some_iff.mp h1).1
        have l2 := (List.getElem?_eq_some_iff.mp h2).1
        simp only [List.length_append, List.length_cons, List.length_nil] at l1 l2
        omega
  · show (w.rho ++ [x]).length = (S ++ [Cell.ins c []]).length
    rw [List.length_append, List.length_append, k.cells.len]
    rfl
  · have h1 : (w.rho ++ [x])[m]? = some a := h1
    by_cases hm : m < w.rho.length
    · rw [List.getElem?_append_left hm] at h1
      rw [List.getElem?_append_left (by rw [← k.cells.len]; exact hm)] at h2
      obtain ⟨q1, q2⟩ := k2.cells.at_ m a q h1 h2
      exact ⟨q1, q2.move le rfl⟩
    · rw [List.getElem?_append_right (by omega)] at h1
      rw [List.getElem?_append_right (by rw [← k.cells.len]; omega), ← k.cells.len] at h2
      cases z : m - w.rho.length with
      | zero =>
        rw [z] at h1 h2
        have ea : x = a := by simpa using h1
        have eq' : Cell.ins c [] = q := by simpa using h2
        subst ea eq'
        exact ⟨none_of_same k.ex hx, dx, [], upd_same, by unfold RepF; rfl⟩
      | succ y => rw [z] at h1; simp at h1
theorem frame_inst {g : Gam} {w w' : Wd} {H H' : Hp} {c : Str} {x dx : Addr} (hx : H x = none) (hdx : H dx = none) (ne : dx ≠ x) (f : Frame ⟨w.rho ++ [x], w.G⟩ (upd (upd H dx (.own x)) x (.ins (g.ca c) dx [])) w' H') : Frame w H w' H' := by
  have le : w.le ⟨w.rho ++ [x], w.G⟩ := ⟨⟨[x], rfl⟩, Same.refl _⟩
  have at_ : ∀ a, H a ≠ none → upd (upd H dx (.own x)) x (.ins (g.ca c) dx []) a = H a := fun a h => by
    rw [upd_ne (fun z => h (by rw [z]; exact hx)), upd_ne (fun z => h (by rw [z]; exact hdx))]
  refine ⟨le.trans f.le, fun a o h n t => f.keep a o (by rw [at_ a (by rw [h]; exact fun z => nomatch z)]; exact h) (fun z => ?_) t, fun a h => f.newG a (by rw [at_ a h]; exact h), fun a h => ?_, fun a h => f.dom a (by rw [at_ a h]; exact h), fun a ps h => f.tb a ps (by rw [at_ a (by rw [h]; exact fun z => nomatch z)]; exact h), fun a x u h => f.fz a x u (by rw [at_ a (by rw [h]; exact fun z => nomatch z)]; exact h)⟩
  · rcases List.mem_append.mp z with z | z
    · exact n z
    · have : a = x := by simpa using z
      rw [this, hx] at h
      cases h
  · rcases f.rho a h with z | z
    · rcases List.mem_append.mp z with z | z
      · exact .inl z
      · refine .inr ?_
        have : a = x := by simpa using z
        rw [this]
        exact hx
    · refine .inr ?_
      cases e : H a with
      | none => rfl
      | some o =>
        rw [at_ a (by rw [e]; exact fun z => nomatch z), e] at z
        cases z
theorem post_new {g : Gam} {c : Str} {w0 w : Wd} {H0 H : Hp} {σ : L2.St} {env : Envr} {S : Sto} {O : List (Option Addr)} {Q : VK} {x dx : Addr} {r : R Ret} (st : StR g w0 H0 w H σ env S O) (hx : H x = none) (hdx : H dx = none) (ne : dx ≠ x)
    (p : PostX g W w0 H0 w σ env O (popI c S r) (fun d _ w' H' => ∀ v, Rep g w' d v → Q v H')) : PostF g ⟨w.rho ++ [x], w.G⟩ (upd (upd H dx (.own x)) x (.ins (g.ca c) dx [])) (fun v H2 => v = .non ∧ Q (.ref x) H2) (WE W σ) r := by
  obtain ⟨k0, le0⟩ := ok_inst (c := c) st.ok hx hdx ne
  have cutW : ∀ {w' : Wd} {H' : Hp} {q : Cell}, Frame ⟨w.rho ++ [x], w.G⟩ (upd (upd H dx (.own x)) x (.ins (g.ca c) dx [])) w' H' → Ok g w' H' (S ++ [q]) → w'.rho = w.rho ++ [x] := fun {w' H' q} f k => by
    obtain ⟨tl, et⟩ := f.le.pre
    have l1 := k.cells.len
    have et : w'.rho = (w.rho ++ [x]) ++ tl := et
    rw [et, List.length_append, List.length_append, List.length_append, st.ok.cells.len] at l1
    have : tl = [] := by
      cases tl with
      | nil => rfl
      | cons y ys => simp at l1
    rw [et, this, List.append_nil]
  have nx : x ∉ w.rho := fun m => by
    obtain ⟨_, o, e⟩ := st.ok.cells.in_ m
    rw [hx] at e
    cases e
  have okS : ∀ {w' : Wd} {H' : Hp} {q : Cell} {o : HO}, Frame ⟨w.rho ++ [x], w.G⟩ (upd (upd H dx (.own x)) x (.ins (g.ca c) dx [])) w' H' → Ok g w' H' (S ++ [q]) → H' x = some o → (∀ ps, o ≠ .tbl ps) → w'.G x = none →
      Ok g ⟨w.rho, upd w'.G x o⟩ H' S ∧ Frame w H ⟨w.rho, upd w'.G x o⟩ H' ∧ w'.cut ⟨w.rho, upd w'.G x o⟩ S.length := fun {w' H' q o} f k ho nt hg => by
    have er := cutW f k
    have cw : w'.cut ⟨w.rho, upd w'.G x o⟩ S.length := ⟨fun m a hm e => by
      rw [er, List.getElem?_append_left (by rw [st.ok.cells.len]; exact hm)] at e
      exact e, same_upd hg⟩
    have f2 : Frame w H w' H' := frame_inst hx hdx ne f
    refine ⟨⟨fun b u e => ?_, ⟨st.ok.cells.nd, st.ok.cells.len, fun m b q' e1 e2 => ?_⟩, k.tabs, fun b ps e => ?_⟩, ⟨⟨⟨[], by simp⟩, f2.le.ex.trans (same_upd hg)⟩, f2.keep, fun b h => ?_, fun b h => .inl h, f2.dom, f2.tb, f2.fz⟩, cw⟩
    · by_cases hb : b = x
      · have e : upd w'.G x o b = some u := e
        rw [hb, upd_same] at e
        rw [hb, ho, e]
      · have e : upd w'.G x o b = some u := e
        rw [upd_ne hb] at e
        exact k.ex b u e
    · have hm : m < S.length := (List.getElem?_eq_some_iff.mp e2).1
      have e1' : w'.rho[m]? = some b := by
        rw [er, List.getElem?_append_left (by rw [st.ok.cells.len]; exact hm)]
        exact e1
      obtain ⟨q1, q2⟩ := k.cells.at_ m b q' e1' (by rw [List.getElem?_append_left hm]; exact e2)
      have nb : b ≠ x := fun z => nx (by rw [← z]; exact List.mem_of_getElem? e1)
      refine ⟨(upd_ne nb).trans q1, q2.cut cw ?_⟩
      obtain ⟨_, q4⟩ := st.ok.cells.at_ m b q' e1 e2
      have q5 := q4.under
      rw [st.ok.cells.len] at q5
      exact q5
    · by_cases hb : b = x
      · have e : upd w'.G x o b = some (.tbl ps) := e
        rw [hb, upd_same] at e
        exact nt ps (Option.some.inj e)
      · have e : upd w'.G x o b = some (.tbl ps) := e
        rw [upd_ne hb] at e
        exact k.notab b ps e
    · have nb : b ≠ x := fun z => h (by rw [z]; exact hx)
      exact (upd_ne nb).trans (f2.newG b h)
  unfold popI at p
  split at p
  · rename_i S2
    split at p
    · rename_i c' fs hl
      split at p
      · rename_i hc
        obtain ⟨e1, e2, e3⟩ := hc
        subst e2
        intro w' H' v f k rv
        rw [e1] at k
        have er := cutW f k
        have hlast : w'.rho[S.length]? = some x := by
          rw [er, ← st.ok.cells.len]
          simp
        obtain ⟨q1, dx', gs, q2, q3⟩ := k.cells.at_ S.length x (.ins c' fs) hlast (by simp)
        obtain ⟨k3, f3, cw⟩ := okS f k q2 nt_ins q1
        refine ⟨rep_non (g := g) (w := w') rv, p _ H' (st.after f3 k3) f3.le _ ?_⟩
        unfold Rep
        exact ⟨x, dx', gs, rfl, upd_same, q3.cut cw e3⟩
      · exact False.elim p
    · exact False.elim p
  · rename_i cc S2
    split at p
    · rename_i q hl
      split at p
      · rename_i e1
        intro w' H' cls dd f k ex
        rw [e1] at k
        have er := cutW f k
        have hlast : w'.rho[S.length]? = some x := by
          rw [er, ← st.ok.cells.len]
          simp
        obtain ⟨q1, q2⟩ := k.cells.at_ S.length x q hlast (by simp)
        obtain ⟨o, q3, q4⟩ := q2.some_
        obtain ⟨k3, f3, cw⟩ := okS f k q3 q4 q1
        exact p _ H' cls dd (st.after f3 k3) f3.le ex
      · exact False.elim p
    · exact False.elim p
  · exact False.elim p
theorem s_new (M : Mk X.K (Y.ca x) fa) (F : FnOk X.prog X.w X.K X.mg X.base (L2N.CX X.prog X.w) k fa fd ps (spOf Y n mf)) (hr : Room (k + 1) X.A) (hm : X.mg x = some (.ref (Y.ca x))) (hb : Binds X.K fd ps ds) (hd : Vals dvs ds) (hdv : ∀ w, RepL Y w dd dvs) (tk : L2N.Takes X W)
    (ha : SA X Y W (e :: es) t m) (hn : (e :: es).length + dd.length + 1 = n := by rfl) (hg : Gl X x := by rfl) (hdb : (x == ("__debug__" : Str)) = false := by decide) (he : starEach (e :: es) X.env = (false, eval e X.env) :: starEach es X.env := by rfl) (hpl : (backTo pos (starEach es X.env)).any (·.1) = false := by rfl) :
    SE X Y W (.Call (.Name x p) (e :: es) [] pos) (tMakeS (Y.ca x) (spOf Y n mf) dvs (WE W) t) (eNew x mf dd m) :=
  ⟨pe_makeS M F hr hg hm hb hd (fun σ => L2N.passAt tk σ) ha.pa hdb he hpl, fun w0 H0 w H σ env S O Q st p => by
    refine ha.sim w0 H0 w H σ env S O _ st ?_
    have p2 := PostX.bind p
    cases e : m env S with
    | stuck => rw [e] at p2; exact p2
    | exc c q S2 => rw [e] at p2; exact p2
    | ok ds S1 =>
      rw [e] at p2
      intro w1 H1 st1 l1 vs rs y dy hy hdy ne
      have p3 := p2 w1 H1 st1 l1
      obtain ⟨k4, l4⟩ := ok_inst (c := x) st1.ok hy hdy ne
      have r4 : RepL Y ⟨w1.rho ++ [y], w1.G⟩ (.ref S1.length :: (ds ++ dd)) (.ref y :: (vs ++ dvs)) := RepL.cons_ (by
        unfold Rep
        refine ⟨y, ?_, rfl⟩
        show (w1.rho ++ [y])[S1.length]? = some y
        rw [← st1.ok.cells.len]
        simp) ((rs.mono l4).append_ (hdv _))
      refine ⟨?_, ⟨w1.rho ++ [y], w1.G⟩, _, S1 ++ [.ins x []], k4, r4, post_new st1 hy hdy ne p3⟩
      rw [← r4.len, List.length_cons, List.length_append, ha.len _ _ _ _ e]
      exact hn⟩
end
end Mm
namespace Mm
open PySem L2
open Sem (wp) in
open AutoSeq1 (wpAny_loadPart') in
theorem meets_enumerate_newT (l : Addr) (items : Array Value) (n : Nat) (dct : Option Addr) (sl : Array (Option Value)) :
    Meets (Builtin.«enumerate.__new__» ⟨[.type "enumerate", .ref l], []⟩) (fun _ R s => s.heap.get? l = some { cls := .type "tuple", dict := dct, data := .seq items n, slots := sl } ∧
      R (.ok (.ret (.ref (s.heap.push { cls := .type "tuple_iterator", data := .fields #[.ref l, .int 0 0] }).objs.size)))
        { s with heap := (s.heap.push { cls := .type "tuple_iterator", data := .fields #[.ref l, .int 0 0] }).push { cls := .type "enumerate", data := .fields #[.none, .bool false, .ref s.heap.objs.size, rawInt 0, .none, .none] } }) :=
  .of_wp fun prog w A R s h => by
    obtain ⟨hp, g, d, tk, os⟩ := s; obtain ⟨hl, h⟩ := h
    have hsub := sub_enumerate
    have hL : Heap.IsTuple (Shared.heap ⟨hp, g, d, tk, os⟩) l items := ⟨_, hl, rfl, n, rfl⟩
    wp_walk using wpAny_loadPart' hl
    refine wpAny_stack_any fun st => wpAny_pure ?_
    split
    · rename_i c _ _ _ _ _
      cases (c == Value.type "enumerate")
      · wp_walk using wpAny_loadPart' hl, wpAny_pyIter_tuple hL
        exact ⟨_, rfl, h⟩
      · wp_walk using wpAny_loadPart' hl, wpAny_pyIter_tuple hL
        exact ⟨_, rfl, h⟩
    · wp_walk using wpAny_loadPart' hl, wpAny_pyIter_tuple hL
      exact ⟨_, rfl, h⟩
theorem call_enumerate_tuple {prog : Program} {w : World} {A : Around} {E : Value → Shared → Prop} {s : Shared} {l : Addr} {items : Array Value} {Q : Value → Shared → Prop} (hL : s.heap.IsTuple l items)
    (h : ∀ h', IsEnum h' (s.heap.objs.size + 1) s.heap.objs.size 0 .none → h'.IsTupleIter s.heap.objs.size l 0 → h'.objs.size = s.heap.objs.size + 2 →
      (∀ b o, s.heap.get? b = some o → h'.get? b = some o) → Q (.ref (s.heap.objs.size + 1)) { s with heap := h' }) :
    wpAny (model prog w) A (call (.type "enumerate") [.ref l]) Q E s := by
  obtain ⟨⟨c, dct, dt, sl⟩, hl, hc, n, hd⟩ := hL
  replace hc : c = .type "tuple" := hc
  replace hd : dt = .seq items n := hd
  subst hc hd
  refine callType_new F.called_enumerate (by decide) (F.typeCall_enumerate_1 _) (F.newCall_enumerate_1 _) (fun obj => F.args_object_init_2 obj _) F.entry_enumerate_new
    (meets_enumerate_newT l items n dct sl) ⟨hl, ?_⟩
  have hz : (s.heap.push { cls := .type "tuple_iterator", data := .fields #[.ref l, .int 0 0] }).objs.size = s.heap.objs.size + 1 := Heap.size_push ..
  show _ ∧ _
  rw [hz]
  have he : IsEnum ((s.heap.push { cls := .type "tuple_iterator", data := .fields #[.ref l, .int 0 0] }).push
      { cls := .type "enumerate", data := .fields #[.none, .bool false, .ref s.heap.objs.size, rawInt 0, .none, .none] }) (s.heap.objs.size + 1) s.heap.objs.size 0 .none := by
    have := Heap.get?_push_size (s.heap.push { cls := .type "tuple_iterator", data := .fields #[.ref l, .int 0 0] })
      (o := { cls := .type "enumerate", data := .fields #[.none, .bool false, .ref s.heap.objs.size, rawInt 0, .none, .none] }) rfl
    rw [hz] at this; exact this
  refine ⟨⟨_, he, rfl⟩, h _ he ⟨_, Heap.get?_push_of_some _ (Heap.get?_push_size _ rfl), rfl, rfl⟩ (by rw [Heap.size_push, hz]) fun b o x => Heap.get?_push_of_some _ (Heap.get?_push_of_some _ x)⟩
def Itet (K : PySem.W.Frag) (a : Addr) : It :=
  ⟨fun i H => ∃ (xs : List V) (x : V), SqT K H a xs ∧ xs[i]? = some x, fun i H v H' => ∃ T x, v = .ref T ∧ H T = none ∧ H' = upd H T (.tup [.int (i : Nat), x]) ∧ ∀ xs, SqT K H a xs → xs[i]? = some x, fun i H => ∃ xs : List V, SqT K H a xs ∧ xs.length ≤ i⟩
theorem turn_enumT {P : Program} {w : World} {K : PySem.W.Frag} {elts : List Expr} {kk : Nat} {tpos : Pos} (a e it : Addr) (hai : a ≠ it) (hae : e ≠ a) :
    Turn P w K (.Tuple elts kk tpos) (Itet K a) [e, it] e (fun i h => (∃ old, IsEnum h e it ((i : Nat) : Int) old) ∧ h.IsTupleIter it a i ∧ e ≠ it) where
  mem := by simp
  obj := fun i h st b hb => by
    obtain ⟨⟨old, he⟩, ⟨o, ho, hc, hd⟩, _⟩ := st
    have e' : b = e ∨ b = it := by simpa using hb
    rcases e' with z | z
    · rw [z]; exact ⟨_, he, fun v q => nomatch q⟩
    · rw [z]; exact ⟨o, ho, fun v q => by rw [hd] at q; cases q⟩
  keep := fun i h h' st k => let ⟨⟨old, he⟩, hi, hne⟩ := st; ⟨⟨old, k e (by simp) _ he⟩, hi.at fun o q => k it (by simp) o q, hne⟩
  item := by
    intro X hP hw hK hc i pins s σ H E I hf st hg
    subst hP hw hK
    obtain ⟨⟨old, he⟩, hit, hne⟩ := st
    obtain ⟨xs, x, hq, hx⟩ := hg
    obtain ⟨its, rv, p, hz⟩ := I.tuple hq
    obtain ⟨u, hu, ru⟩ := rv.get hx
    have hel : e < s.heap.objs.size := Heap.lt_size he
    have hil : it < s.heap.objs.size := by obtain ⟨_, q, _⟩ := hit; exact Heap.lt_size q
    have hilt : i < its.toArray.size := by
      rw [List.size_toArray]
      exact (List.getElem?_eq_some_iff.mp hu).1
    refine wpAny_pyNext_enum_itemD (Draws.tuple (A := X.A.in1) (I.ok.hd hc) it a hai its.toArray) he ⟨hit, show s.heap.IsTuple a its.toArray from p⟩ hilt hne (by simp [hne, hae]) fun u' h' tk hu' ho hit' hT hsz hk => ?_
    have eu : u' = u := by
      have h1 : its.toArray[i]? = some u := by simpa using hu
      exact Option.some.inj (hu'.symm.trans h1)
    subst eu
    refine ⟨_, rfl, wpAny_letOwnedTupleGo_enum (s := { s with heap := h', toks := tk + 1 }) ho fun h'' he' sb => ?_⟩
    have hT2 : h''.get? s.heap.objs.size = some { cls := .type "tuple", data := .seq #[.int i tk, u'] } := (sb.2 _ (Nat.ne_of_gt hel)).trans hT
    have new : ObjOk X.prog X.w (upd H s.heap.objs.size (.tup [.int (i : Nat), x])) h'' s.heap.objs.size (.tup [.int (i : Nat), x]) :=
      ⟨by show 2 ≤ sizeLine; decide, [.int i tk, u'], .cons ⟨_, rfl⟩ (.cons ru .nil), ⟨_, hT2, rfl, _, rfl⟩⟩
    have I1 : Inv X pins σ (upd H s.heap.objs.size (.tup [.int (i : Nat), x])) { s with heap := h'', toks := tk + 1 } :=
      I.turnedNew (ch := [e, it]) (fun b ob hb q => (sb.2 b (fun z => hb (by simp [z]))).trans (hk b ob (fun z => hb (by simp [z])) (fun z => hb (by simp [z])) q)) hf (Nat.le_refl _) new
    refine ⟨.ref s.heap.objs.size, _, I1, rfl, ⟨_, x, rfl, I.hok.fresh (Nat.le_refl _), rfl, fun ys hy => by rw [I.tuple_inj hy hq]; exact hx⟩, ⟨⟨u', ?_⟩, hit'.1.at fun o q => (sb.2 it (Ne.symm hne)).trans q, hne⟩, fun b hb => ?_⟩
    · have e1 : ((i + 1 : Nat) : Int) = (i : Int) + 1 := by omega
      rw [e1]; exact he'
    · have hb' : b < s.heap.objs.size := by
        have e' : b = e ∨ b = it := by simpa using hb
        rcases e' with z | z
        · rw [z]; exact hel
        · rw [z]; exact hil
      rw [upd_ne (Nat.ne_of_lt hb')]
      exact (hf b hb).1
  done := by
    intro X hP hw hK hc i pins s σ H E I hf st hg
    subst hP hw hK
    obtain ⟨⟨old, he⟩, hit, hne⟩ := st
    obtain ⟨xs, hq, hx⟩ := hg
    obtain ⟨its, rv, p, hz⟩ := I.tuple hq
    obtain ⟨f0, f1, f2, f3, f4, f5⟩ := hf it (by simp)
    have hl := rv.length
    have hT : s.TypeIs (.ref e) "enumerate" := ⟨_, he, rfl⟩
    unfold pyNext
    refine wpAny_bind (wpAny_attempt (wpAny_callSpecial?_slot (name := Str.ofString "__next__") hT F.slot_enumerate_next
      (wpAny_call_entry F.slot_enumerate_next hT F.entry_enumerate_next ?_ (F.args_enumerate_next_1 _))))
    show wpAny _ _ (field (.ref e) 2 >>= _) _ _ _
    refine wpAny_bind (wpAny_field he rfl (x := .ref it) rfl ?_)
    refine wpAny_bind (wpAny_nextOf_tuple_end (I.ok.hd hc) hit (show s.heap.IsTuple a its.toArray from p) (by simp; omega) fun h' x he' hx' => ?_)
    obtain ⟨o, ho, hc⟩ := hx'
    refine wpAny_bind (wpAny_isInstance (T := "StopIteration") (b := true) ⟨o, ho, hc⟩ isSubtype_stop ?_)
    exact wpAny_pure ⟨rfl, I.turned (t' := s.toks) (fun b o hb q => he' b o hb q) f0 f1 f3 f4 f5⟩
  self := fun A i s Q E st h => let ⟨⟨_, he⟩, _⟩ := st; wpAny_pyIter_enum he h
section
variable {X : Cx} {Y : Gam} {W : WX} {e a b c tg iter elt o : Expr} {es rest ifs : List Expr} {ta tb te : TE} {tt tu : TT} {ma mb me : ME} {mt mu : MT} {mf : MF} {t : TA} {m : MA} {pos p apos : Pos} {s : Stmt} {ss : List Stmt} {t1 t2 : TS} {m1 m2 : MS} {wi : TI} {mi : MI} {x f : Str}
def iEnumS (K : PySem.W.Frag) (ta : TA) : TI := fun σ H R => ta σ H fun vs H1 => ∃ a xs, vs = [.ref a] ∧ ((SqL K H1 a xs ∧ R (Ite K a) H1) ∨ (SqT K H1 a xs ∧ R (Itet K a) H1))
theorem pi_enumS {e : Expr} {ta : TA} {p pos tpos : Pos} {elts : List Expr} {kk : Nat} (hg : Gl X "enumerate") (hm : X.mg "enumerate" = none) (ha : PA X [e] ta) (hs : starEach [e] X.env = [(false, eval e X.env)]) :
    PI X (.Tuple elts kk tpos) (.Call (.Name "enumerate" p) [e] [] pos) (iEnumS X.K ta) := by
  refine ⟨fun pins s σ H R I h => ?_⟩
  refine PyProof.Rows.Call_ (ld_blt I hg hm PyProof.Rows.boot_enumerate (PyProof.Rows.callWith_type1 (thn (ha.run pos pins s σ H _ I h) fun us s1 ⟨vs, H1, I1, r1, q1⟩ => ?_) hs rfl))
  obtain ⟨a, xs, ex, q⟩ := q1
  subst ex
  cases r1 with
  | cons r rr =>
    cases rr
    cases r
    rcases q with ⟨hq, q⟩ | ⟨hq, q⟩
    · obtain ⟨its, rv, p', hz⟩ := I1.list hq
      refine call_enumerate_list p'.isList fun h' he hit hsz hk => wpAny_pyIter_enum he ?_
      have I2 : Inv X pins σ H1 { s1 with heap := h' } := I1.kept (t' := s1.toks) hk
      refine ⟨s1.heap.objs.size + 1, [s1.heap.objs.size + 1, s1.heap.objs.size], _, _, H1, rfl, I2, turn_enum a (s1.heap.objs.size + 1) s1.heap.objs.size, ⟨⟨.none, he⟩, hit, Nat.succ_ne_self _⟩, fun b hb => ?_, q⟩
      have e' : b = s1.heap.objs.size + 1 ∨ b = s1.heap.objs.size := by simpa using hb
      have hle : s1.heap.objs.size ≤ b := by
        rcases e' with z | z
        · rw [z]; exact Nat.le_succ _
        · rw [z]; exact Nat.le_refl _
      exact I1.fpOk hle (I1.hok.fresh hle)
    · obtain ⟨its, rv, p', hz⟩ := I1.tuple hq
      have hal : a < s1.heap.objs.size := p'.lt
      refine call_enumerate_tuple (show s1.heap.IsTuple a its.toArray from p') fun h' he hit hsz hk => wpAny_pyIter_enum he ?_
      have I2 : Inv X pins σ H1 { s1 with heap := h' } := I1.kept (t' := s1.toks) hk
      refine ⟨s1.heap.objs.size + 1, [s1.heap.objs.size + 1, s1.heap.objs.size], _, _, H1, rfl, I2, turn_enumT a (s1.heap.objs.size + 1) s1.heap.objs.size (Nat.ne_of_lt hal) (Nat.ne_of_gt (Nat.lt_succ_of_lt hal)), ⟨⟨.none, he⟩, hit, Nat.succ_ne_self _⟩, fun b hb => ?_, q⟩
      have e' : b = s1.heap.objs.size + 1 ∨ b = s1.heap.objs.size := by simpa using hb
      have hle : s1.heap.objs.size ≤ b := by
        rcases e' with z | z
        · rw [z]; exact Nat.le_succ _
        · rw [z]; exact Nat.le_refl _
      exact I1.fpOk hle (I1.hok.fresh hle)
theorem itR_enumT {g : Gam} {w : Wd} {a : Addr} {ds : List D} {vs : List V} (e : SqT g.K w.G a vs) (r : RepL g w ds vs) : ItR g w (Itet g.K a) (enumD 0 ds) := fun w2 H2 l x => by
  have q : SqT g.K H2 a vs := same_sqT (l.ex.trans x) e
  refine ⟨fun i d hd => ?_, ⟨vs, q, by rw [enumD_len, r.len]; exact Nat.le_refl _⟩⟩
  obtain ⟨d', hd', ed⟩ := enumD_at ds 0 i d hd
  obtain ⟨v, hv, rv⟩ := r.at_ hd'
  refine ⟨⟨vs, v, q, hv⟩, fun y H' hy => ?_⟩
  obtain ⟨T, x', e1, e2, e3, e4⟩ := hy
  have e5 := e4 vs q
  rw [hv] at e5
  cases e5
  rw [e1, e3, ed, Nat.zero_add]
  refine ⟨_, Grow.one e2 nt_tup, ?_⟩
  unfold Rep
  have le : w2.le ⟨w2.rho, upd w2.G T (.tup [.int (i : Nat), v])⟩ := ⟨⟨[], by simp⟩, same_upd (none_of_same x e2)⟩
  exact ⟨T, _, rfl, .inl (.inl upd_same), RepL.cons_ rep_int' (RepL.cons_ ((rv.mono l).mono le) RepL.nil_)⟩
def itES (m : MA) : MI := fun env S => (m env S).bind fun ds S1 => match ds with
  | [.lst ds] => .ok (enumD 0 ds) S1
  | [.tup ds] => .ok (enumD 0 ds) S1
  | _ => .stuck
theorem i_enumS {elts : List Expr} {kk : Nat} {tpos : Pos} (hm : X.mg "enumerate" = none) (ha : SA X Y W [e] t m) (hK : X.K = Y.K := by rfl) (hg : Gl X "enumerate" := by rfl) (hs : starEach [e] X.env = [(false, eval e X.env)] := by rfl) :
    SI X Y W (.Tuple elts kk tpos) (.Call (.Name "enumerate" p) [e] [] pos) (iEnumS Y.K t) (itES m) := ⟨hK ▸ pi_enumS hg hm ha.pa hs, fun w0 H0 w H σ env S O Q st p =>
  ha.sim w0 H0 w H σ env S O _ st ((PostX.bind p).imp fun ds S1 w1 H1 st1 l1 p1 vs r => by
    split at p1
    · rename_i ds
      obtain ⟨v, e1, e2⟩ := repL_one r
      obtain ⟨a, us, e3, e4, e5⟩ := rep_lst e2
      rw [e3] at e1
      exact ⟨a, us, e1, .inl ⟨.inl (.inl (st1.ok.ex _ _ e4)), p1 w1 H1 st1 (.refl w1) _ (itR_enum (g := Y) e4 e5)⟩⟩
    · rename_i ds
      obtain ⟨v, e1, e2⟩ := repL_one r
      obtain ⟨a, us, e3, e4, e5⟩ := rep_tup e2
      rw [e3] at e1
      exact ⟨a, us, e1, .inr ⟨same_sqT st1.ok.ex e4, p1 w1 H1 st1 (.refl w1) _ (itR_enumT (g := Y) e4 e5)⟩⟩
    · exact False.elim p1)⟩
theorem own_cell {g : Gam} {w0 w : Wd} {H0 H : Hp} {σ : L2.St} {env : Envr} {S : Sto} {O : List (Option Addr)} {cc : Cell} {q : Addr} (st : StR g w0 H0 w H σ env S O) (a : OwnAt g w H0 H O cc q) :
    StR g w0 H0 ⟨w.rho ++ [q], w.G⟩ H σ env (S ++ [cc]) O ∧ w.le ⟨w.rho ++ [q], w.G⟩ ∧ Rep g ⟨w.rho ++ [q], w.G⟩ (.ref S.length) (.ref q) := by
  have le : w.le ⟨w.rho ++ [q], w.G⟩ := ⟨⟨[q], rfl⟩, Same.refl _⟩
  refine ⟨⟨⟨st.ok.ex, ⟨fun i j b h1 h2 => ?_, ?_, fun k b d h1 h2 => ?_⟩, st.ok.tabs, st.ok.notab⟩, ⟨st.fr.le.trans le, st.fr.keep, st.fr.newG, fun b h => ?_, st.fr.dom, st.fr.tb, st.fr.fz⟩, st.l1, st.l2, fun i s x o e1 e2 e3 => ?_, st.inj, fun i b e => ?_⟩, le, ?_⟩
  · have h1 : (w.rho ++ [q])[i]? = some b := h1
    have h2 : (w.rho ++ [q])[j]? = some b := h2
    have one : ∀ k, ¬ k < w.rho.length → (w.rho ++ [q])[k]? = some b → b = q := fun k hk h => by
      rw [List.getElem?_append_right (by omega)] at h
      cases z : k - w.rho.length with
      | zero => rw [z] at h; simpa using h.symm
      | succ y => rw [z] at h; simp at h
    by_cases hi : i < w.rho.length
    · by_cases hj : j < w.rho.length
      · rw [List.getElem?_append_left hi] at h1
        rw [List.getElem?_append_left hj] at h2
        exact st.ok.cells.nd i j b h1 h2
      · rw [List.getElem?_append_left hi] at h1
        exact absurd (one j hj h2 ▸ List.mem_of_getElem? h1) a.nr
    · by_cases hj : j < w.rho.length
      · rw [List.getElem?_append_left hj] at h2
        exact absurd (one i hi h1 ▸ List.mem_of_getElem? h2) a.nr
      · have l1 := (List.getElem?_eq_some_iff.mp h1).1
        have l2 := (List.getElem?_eq_some_iff.mp h2).1
        simp only [List.length_append, List.length_cons, List.length_nil] at l1 l2
        omega
  · show (w.rho ++ [q]).length = (S ++ [cc]).length
    rw [List.length_append, List.length_append, st.ok.cells.len]
    rfl
  · have h1 : (w.rho ++ [q])[k]? = some b := h1
    by_cases hm : k < w.rho.length
    · rw [List.getElem?_append_left hm] at h1
      rw [List.getElem?_append_left (by rw [← st.ok.cells.len]; exact hm)] at h2
      obtain ⟨q1, q2⟩ := st.ok.cells.at_ k b d h1 h2
      exact ⟨q1, q2.move le rfl⟩
    · rw [List.getElem?_append_right (by omega)] at h1
      rw [List.getElem?_append_right (by rw [← st.ok.cells.len]; omega), ← st.ok.cells.len] at h2
      cases z : k - w.rho.length with
      | zero =>
        rw [z] at h1 h2
        have ea : q = b := by simpa using h1
        have eq' : cc = d := by simpa using h2
        subst ea eq'
        exact ⟨a.ng, a.at_.move le rfl⟩
      | succ y => rw [z] at h1; simp at h1
  · rcases List.mem_append.mp (show b ∈ w.rho ++ [q] from h) with z | z
    · exact st.fr.rho b z
    · have : b = q := by simpa using z
      rw [this]
      exact .inr a.n0
  · have q' := st.sl i s x o e1 e2 e3
    cases s with
    | no => exact q'
    | v d =>
      obtain ⟨z1, v, z2, z3⟩ := q'
      exact ⟨z1, v, z2, z3.mono le⟩
    | o c' =>
      obtain ⟨p', z1, z2, z3, z4⟩ := q'
      exact ⟨p', z1, z2, z3, z4.move le rfl⟩
  · obtain ⟨z1, z2, z3⟩ := st.fresh i b e
    refine ⟨z1, fun h => ?_, z3⟩
    rcases List.mem_append.mp (show b ∈ w.rho ++ [q] from h) with z | z
    · exact z2 z
    · have : b = q := by simpa using z
      exact a.no i (by rw [← this]; exact e)
  · unfold Rep
    refine ⟨q, ?_, rfl⟩
    show (w.rho ++ [q])[S.length]? = some q
    rw [← st.ok.cells.len]
    simp
def sCell (i : Nat) (mf : MF) : MS := fun env S => (mf env S).out env fun c S1 => .nx (env.set i (.v (.ref S1.length))) (S1 ++ [c])
theorem sim_cell {g : Gam} {i : Nat} (h : SimF g W te mf) : SimS g W (tAsg te (gName i)) (sCell i mf) := fun w0 H0 w H σ env S O Dn st p =>
  h w0 H0 w H σ env S O _ st ((PostS.out p).imp fun c S1 w1 H1 st1 l1 p1 q ow => by
    obtain ⟨st2, l2, r2⟩ := own_cell st1 ow
    exact p1 _ H1 _ _ (st2.set_v i r2) l2)
theorem t_cell {i : Nat} {x : Str} {pos' : Pos} (hN : X.N.Nodup) (hi : X.N[i]? = some x) (hx : Loc X.env.scope x) (he : SF X Y W e te mf) (hs : swapsWith e (some (.Name x pos')) pos.line X.env = pure false := by rfl) (hf : X.fn x = true ∨ X.env.scope.names.lookup x = some .local := by first | exact .inl rfl | exact .inr rfl | assumption) :
    SS X Y W (.Assign [.Name x pos'] e pos) (tAsg te (gName i)) (sCell i mf) := ⟨ps_set hN hi hx he.pe hs hf, sim_cell he.sim⟩
def frzAt (i : Nat) (env : Envr) : Envr := match env[i]? with
  | some (.o c) => env.set i (.v c.d)
  | _ => env
def sFrz (i : Nat) (m : MS) : MS := fun env S => m (frzAt i env) S
theorem set_get_self {α : Type} (l : List α) (i : Nat) (x : α) (h : l[i]? = some x) : l.set i x = l := by
  refine List.ext_getElem? fun k => ?_
  rw [List.getElem?_set]
  split
  · rename_i e
    subst e
    split
    · exact h.symm
    · rename_i hl
      rw [List.getElem?_eq_none_iff.mpr (by omega)] at h
      cases h
  · rfl
theorem StR.frz {g : Gam} {w0 w : Wd} {H0 H : Hp} {σ : L2.St} {env : Envr} {S : Sto} {O : List (Option Addr)} (st : StR g w0 H0 w H σ env S O) (i : Nat) : ∃ w' O', StR g w0 H0 w' H σ (frzAt i env) S O' ∧ w.le w' := by
  unfold frzAt
  split
  · rename_i c hs
    obtain ⟨q, e1, e2, e3, e4, e5, e6, hi⟩ := st.own_at hs
    have sl : ∀ (j : Nat) (z : Sl), (env.set i .no)[j]? = some z → (j = i ∧ z = .no) ∨ (j ≠ i ∧ env[j]? = some z) := fun j z h => by
      rw [List.getElem?_set] at h
      split at h
      · rename_i e
        split at h
        · exact .inl ⟨e.symm, (Option.some.inj h).symm⟩
        · cases h
      · rename_i e
        exact .inr ⟨Ne.symm e, h⟩
    have st1 : StR g w0 H0 w H σ (env.set i .no) S (O.set i none) := by
      refine ⟨st.ok, st.fr, by rw [List.length_set]; exact st.l1, by rw [List.length_set]; exact st.l2, fun j s x o h1 h2 h3 => ?_, fun j k r h1 h2 => ?_, fun j r h => ?_⟩
      · rcases sl j s h1 with ⟨z1, z2⟩ | ⟨z1, z2⟩
        · rw [z2]
          rw [List.getElem?_set, if_pos z1.symm] at h3
          split at h3
          · exact (Option.some.inj h3).symm
          · cases h3
        · rw [List.getElem?_set, if_neg (Ne.symm z1)] at h3
          exact st.sl j s x o z2 h2 h3
      · rw [List.getElem?_set] at h1 h2
        split at h1
        · split at h1 <;> cases h1
        · split at h2
          · split at h2 <;> cases h2
          · exact st.inj j k r h1 h2
      · rw [List.getElem?_set] at h
        split at h
        · split at h <;> cases h
        · rename_i hn
          obtain ⟨y1, y2, y3, y4⟩ := st.fresh j r h
          exact ⟨y1, y2, y3, by rw [List.getElem?_set, if_neg hn]; exact y4⟩
    have ow : OwnAt g w H0 H (O.set i none) c q := ⟨e5, e3, e6, fun j h => by
      rw [List.getElem?_set] at h
      split at h
      · split at h <;> cases h
      · rename_i hn
        exact hn (st.inj i j q e2 h), e4⟩
    obtain ⟨w2, st2, l2, r2⟩ := own_freeze st1 ow
    have st3 := st2.set_v i r2
    rw [List.set_set, List.set_set] at st3
    refine ⟨w2, O.set i none, ?_, l2⟩
    have es : σ.set i (some (.ref q)) = σ := set_get_self σ i _ e1
    rw [es] at st3
    exact st3
  · exact ⟨w, O, st, .refl w⟩
theorem sim_sfrz {g : Gam} {i : Nat} (h : SimS g W t1 m1) : SimS g W t1 (sFrz i m1) := fun w0 H0 w H σ env S O Dn st p => by
  obtain ⟨w', O', st', l'⟩ := st.frz i
  exact h w0 H0 w' H σ _ S O' Dn st' (PostS.mono p l')
theorem b_frz (i : Nat) (h : SB X Y W ss t1 m1) : SB X Y W ss t1 (sFrz i m1) := ⟨h.pss, sim_sfrz h.sim⟩
end
end Mm
namespace Mm
open PySem L2
section
variable {X : Cx} {Y : Gam} {W : WX} {e a b c tg iter elt o : Expr} {es rest ifs : List Expr} {ta tb te : TE} {tt tu : TT} {ma mb me : ME} {mt mu : MT} {mf : MF} {t : TA} {m : MA} {pos p apos : Pos} {s : Stmt} {ss : List Stmt} {t1 t2 : TS} {m1 m2 : MS} {wi : TI} {mi : MI} {x f : Str}
def eLenO (i : Nat) : ME := fun env S => match env[i]? with
  | some (.o (.lst ds)) => .ok (.int ds.length) S
  | _ => .stuck
theorem s_lenO (i : Nat) {x : Str} {p1 : Pos} (hm : X.mg "len" = none) (hK : X.K = Y.K := by rfl) (hN : X.N[i]? = some x := by rfl) (hv : Vis X.env.scope x := by first | exact Or.inl rfl | exact Or.inr (Or.inl rfl) | exact Or.inr (Or.inr rfl)) (hd : (x == ("__debug__" : Str)) = false := by decide)
    (hcd : (x == ("__classdict__" : Str)) = false := by decide) (hg : Gl X "len" := by rfl) (he : starEach [.Name x p1] X.env = (false, eval (.Name x p1) X.env) :: starEach [] X.env := by rfl) (hpl : (backTo pos (starEach [] X.env)).any (·.1) = false := by rfl) :
    SE X Y W (.Call (.Name "len" p) [.Name x p1] [] pos) (tCB (rLn Y.K) (tCons (tVar i) tNil)) (eLenO i) := ⟨hK ▸ pe_callB cr_len hg hm PySem.boot_len (pa_cons (pv i hN hv hd hcd) pa_nil he) (by decide) (by decide) he hpl, fun w0 H0 w H σ env S O Q st p => by
  unfold eLenO at p
  split at p
  · rename_i ds hs
    obtain ⟨q, e1, e2, e3, ⟨vs, e4, e4'⟩, e5, e6, hi⟩ := st.own_at hs
    exact ⟨.ref q, e1, .inl ⟨q, vs, rfl, .inl (.inl (.inl e4)), p w H st (.refl w) _ (by rw [e4'.len]; exact rep_int')⟩⟩
  · exact p.elim⟩
def eIxO (i : Nat) (mk : ME) : ME := fun env S => match env[i]? with
  | some (.o (.lst ds)) => (mk env S).bind fun k S1 => (match k with
    | .int k => opt (atI ds k) S1
    | _ => .stuck)
  | _ => .stuck
theorem get_list : PGet X (rIxL X.K) := by
  intro pins s σ H x y v u Q I rx ry h
  obtain ⟨p, xs, i, z, rfl, rfl, hq, he, q⟩ := h
  cases rx
  obtain ⟨t, rfl⟩ := ry
  obtain ⟨its, r, pl, hz⟩ := I.list hq
  obtain ⟨j, h1, h2, h3, h4, h5⟩ := atI_get he
  obtain ⟨w, ew, rw'⟩ := r.get h2
  have hl := r.length
  have hn := line63
  have fin : EP X pins σ Q w s := ⟨z, H, I, rw', q⟩
  by_cases h0 : 0 ≤ i
  · have hj : i.toNat = j := by
      rw [seqIndex_of h0 h5] at h1
      exact Option.some.inj h1
    exact wpAny_getItem_list pl.isList h0 (by omega) (by rw [hj]; simpa using ew) fin
  · have hj : (i + (its.toArray.size : Int)).toNat = j := by
      rw [seqIndex_neg (by omega) h4] at h1
      rw [List.size_toArray, ← hl]
      exact Option.some.inj h1
    exact wpAny_getItem_list_neg pl.isList (by omega) (by rw [List.size_toArray] <;> omega) (by omega) (by rw [hj]; simpa using ew) fin
def sAugC (mo mk : ME) (f : Int → Int → Int) (me : ME) : MS := fun env S => (mo env S).out env fun o S1 => (mk env S1).out env fun k S2 => match o, k with
  | .ref n, .int k => (match S2[n]? with
    | some (.lst ds) => (match atI ds k with
      | some (.int x) => (me env S2).out env fun d S3 => (match d, S3[n]? with
        | .int y, some (.lst ds') => (match ixN ds'.length k with
          | some j => .nx env (S3.set n (.lst (ds'.set j (.int (f x y)))))
          | none => .stuck)
        | _, _ => .stuck)
      | _ => .stuck)
    | _ => .stuck)
  | _, _ => .stuck
theorem t_augC {op : Operator} {f : Int → Int → Int} {p2 : Pos} (hp : PIp X op (ipI f)) (ho : SE X Y W o ta ma) (hk : SE X Y W b tb mb) (he : SE X Y W e te me) (hK : X.K = Y.K := by rfl)
    (ha : ∀ ov iv new, augStore b ov iv new = (do holding [new, ov, iv] (setItem ov iv new); release [new, ov, iv] []; pure .next) := by intros; rfl) :
    SS X Y W (.AugAssign (.Subscript o b p2) op e pos) (tAugS ta tb te (rIxL Y.K) (ipI f) rSetL) (sAugC ma mb f me) := ⟨hK ▸ ps_augS ho.pe hk.pe get_list he.pe hp set_list ha, fun w0 H0 w H σ env S O Dn st p =>
  ho.sim w0 H0 w H σ env S O _ st ((PostS.out p).imp fun od S1 w1 H1 st1 l1 p1 ov or => hk.sim w0 H0 w1 H1 σ env S1 O _ st1 ((PostS.out p1).imp fun k S2 w2 H2 st2 l2 p2 kv kr => by
    split at p2
    · rename_i n k
      split at p2
      · rename_i ds hS
        split at p2
        · rename_i x hx
          obtain ⟨q, us, x1, x2, x3, x4⟩ := cell_lst st2.ok (or.mono l2) hS
          obtain ⟨v, g1, g2⟩ := x4.atI_ hx
          refine ⟨q, us, k, v, x1, rep_int kr, .inl (.inl x3), g1, ?_⟩
          refine he.sim w0 H0 w2 H2 σ env S2 O _ st2 ((PostS.out p2).imp fun d S3 w3 H3 st3 l3 p3 dv dr => ?_)
          split at p3
          · rename_i y ds' hS3
            split at p3
            · rename_i j hj
              obtain ⟨q', us', y1, y2, y3, y4⟩ := cell_lst st3.ok (or.mono (l2.trans l3)) hS3
              refine ⟨x, y, rep_int g2, rep_int dr, q', us', k, j, y1, rep_int kr, y3, by rw [← y4.len]; exact hj, ?_⟩
              obtain ⟨k4, f4⟩ := ok_cell (c' := .lst (ds'.set j (.int (f x y)))) st3.ok y2 hS3 (o := .lst (us'.set j (.int (f x y)))) ⟨_, upd_same, y4.set_ rep_int' j⟩ nt_lst
              exact p3 w3 _ σ O (st3.after f4 k4) (.refl w3)
            · exact False.elim p3
          · exact False.elim p3
        · exact False.elim p2
      · exact False.elim p2
    · exact False.elim p2))⟩
variable {k n : Nat} {fa C : Addr} {fd : FuncData} {ps : List Str} {mfn : MFn} {ds : List Value}
theorem passN {X : Cx} : Passes (L2N.CX X.prog X.w) X E0 := fun _ _ _ _ _ _ _ z => (show False by
  obtain ⟨_, _, _, _, _, _, _, _, _, _, _, _, q⟩ := z
  exact q).elim
theorem takesN {X : Cx} : L2N.Takes X (fun _ _ _ _ => False) := fun _ _ z => (show False by
  obtain ⟨_, _, _, _, _, _, _, _, _, _, _, _, _, _, _, _, q⟩ := z
  exact q).elim
end
end Mm
namespace Mm
open PySem L2
section
variable (P : Program) (w : World) (K : PySem.W.Frag) (mg : Str → Option Value) (base : Heap) (Y : Gam)
def Kn (k : Nat) (x : Str) (n : Nat) (mf : MFn) (dvs : List V) (dd : List D) : Prop := ∃ f fd ps ds, FnOk P w K mg base (L2N.CX P w) k f fd ps (spOf Y n mf) ∧ mg x = some (.ref f) ∧ PySem.W.keepIn K (.ref f) = true ∧ Binds K fd ps ds ∧ Vals dvs ds ∧ ∀ w, RepL Y w dd dvs
def KnM (k : Nat) (c x : Str) (n : Nat) (mf : MFn) (dvs : List V) (dd : List D) : Prop := ∃ f fd ps ds, FnOk P w K mg base (L2N.CX P w) k f fd ps (spOf Y n mf) ∧ Cls K (Y.ca c) ∧ Meth K (Y.ca c) x f ∧ Binds K fd ps ds ∧ Vals dvs ds ∧ ∀ w, RepL Y w dd dvs
def KnC (k : Nat) (x : Str) (n : Nat) (mf : MFn) (dvs : List V) (dd : List D) : Prop := ∃ f fd ps ds, FnOk P w K mg base (L2N.CX P w) k f fd ps (spOf Y n mf) ∧ Mk K (Y.ca x) f ∧ mg x = some (.ref (Y.ca x)) ∧ Binds K fd ps ds ∧ Vals dvs ds ∧ ∀ w, RepL Y w dd dvs
end
structure KnX (K : PySem.W.Frag) (mg : Str → Option Value) (Y : Gam) (x : Str) : Prop where
  xP : PySem.W.excIn K (Y.ca x) [.type "ValueError", .type "Exception", .type "BaseException", .type "object"] "ValueError.__new__" = true
  gP : mg x = some (.ref (Y.ca x))
  kP : PySem.W.keepIn K (.ref (Y.ca x)) = true
  bP : PySem.W.subIn K (.ref (Y.ca x)) (.type "BaseException") = some true
  tP : PySem.W.typeIn K (.ref (Y.ca x)) = some (.type "type")
structure Bl (mg : Str → Option Value) : Prop where
  len : mg "len" = none
  range : mg "range" = none
  enumerate : mg "enumerate" = none
  zip : mg "zip" = none
  sorted : mg "sorted" = none
  sum : mg "sum" = none
  all : mg "all" = none
  any : mg "any" = none
  list : mg "list" = none
  tuple : mg "tuple" = none
  int : mg "int" = none
  isinstance : mg "isinstance" = none
  min : mg "min" = none
  max : mg "max" = none
  set : mg "set" = none
  abs : mg "abs" = none
  bool : mg "bool" = none
  str : mg "str" = none
  repr : mg "repr" = none
  dict : mg "dict" = none
section
variable {X : Cx} {Y : Gam} {W : WX} {e a b c tg iter elt o : Expr} {es rest ifs : List Expr} {ta tb te : TE} {tt tu : TT} {ma mb me : ME} {mt mu : MT} {mf : MF} {t : TA} {m : MA} {pos p apos : Pos} {s : Stmt} {ss : List Stmt} {t1 t2 : TS} {m1 m2 : MS} {wi : TI} {mi : MI} {x f : Str}
variable {k n : Nat} {mfn : MFn} {dvs : List V} {dd : List D}
theorem u_call (h : Kn X.prog X.w X.K X.mg X.base Y k x n mfn dvs dd) (hr : Room k X.A) (tk : L2N.Takes X W)
    (ha : SA X Y W (e :: es) t m) (hn : (e :: es).length + dd.length = n := by rfl) (hg : Gl X x := by rfl) (hdb : (x == ("__debug__" : Str)) = false := by decide) (he : starEach (e :: es) X.env = (false, eval e X.env) :: starEach es X.env := by rfl) (hpl : (backTo pos (starEach es X.env)).any (·.1) = false := by rfl) :
    SE X Y W (.Call (.Name x p) (e :: es) [] pos) (tCallSD (spOf Y n mfn) dvs (WE W) t) (eCall mfn dd m) := by
  obtain ⟨f, fd, ps, ds, F, hm, hk, hb, hd, hdv⟩ := h
  exact s_call F hr hm hk hb hd hdv tk ha hn hg hdb he hpl
theorem v_call (h : Kn X.prog X.w X.K X.mg X.base Y k x n mfn dvs dd) (hr : Room k X.A) (tk : L2N.Takes X W)
    (ha : SA X Y W (e :: es) t m) (hn : (e :: es).length + dd.length = n := by rfl) (hg : Gl X x := by rfl) (hdb : (x == ("__debug__" : Str)) = false := by decide) (he : starEach (e :: es) X.env = (false, eval e X.env) :: starEach es X.env := by rfl) (hpl : (backTo pos (starEach es X.env)).any (·.1) = false := by rfl) :
    SF X Y W (.Call (.Name x p) (e :: es) [] pos) (tCallSD (spOf Y n mfn) dvs (WE W) t) (fCall mfn dd m) := by
  obtain ⟨f, fd, ps, ds, F, hm, hk, hb, hd, hdv⟩ := h
  exact f_call F hr hm hk hb hd hdv tk ha hn hg hdb he hpl
theorem u_meth (c : Str) {pl : Sem Bool} (h : KnM X.prog X.w X.K X.mg X.base Y k c x n mfn dvs dd) (hr : Room k X.A) (tk : L2N.Takes X W) (ho : SE X Y W o ta ma)
    (ha : SA X Y W (e :: es) t m) (hn : (e :: es).length + dd.length + 1 = n := by rfl) (hst : starEach (e :: es) X.env = (false, eval e X.env) :: starEach es X.env := by rfl) (hpl : (backTo pos (starEach es X.env)).any (·.1) = false := by rfl)
    (ht : eval (.Call (.Attribute o x apos) (e :: es) [] pos) X.env = (do
      let ov ← eval o X.env
      standAt apos.atName
      let (f, first) ← holding [ov] (getMethod ov x pl)
      callWith pos f first (backTo pos (starEach (e :: es) X.env)) (backToKw pos (keywordEach [] X.env))) := by rfl) :
    SE X Y W (.Call (.Attribute o x apos) (e :: es) [] pos) (tMethS (Y.ca c) x (spOf Y n mfn) dvs (WE W) ta t) (eMeth c x mfn dd ma m) := by
  obtain ⟨f, fd, ps, ds, F, hC, hm, hb, hd, hdv⟩ := h
  exact s_meth c ho hC hm F hr hb hd hdv tk ha hn hst hpl ht
theorem v_meth (c : Str) {pl : Sem Bool} (h : KnM X.prog X.w X.K X.mg X.base Y k c x n mfn dvs dd) (hr : Room k X.A) (tk : L2N.Takes X W) (ho : SE X Y W o ta ma)
    (ha : SA X Y W (e :: es) t m) (hn : (e :: es).length + dd.length + 1 = n := by rfl) (hst : starEach (e :: es) X.env = (false, eval e X.env) :: starEach es X.env := by rfl) (hpl : (backTo pos (starEach es X.env)).any (·.1) = false := by rfl)
    (ht : eval (.Call (.Attribute o x apos) (e :: es) [] pos) X.env = (do
      let ov ← eval o X.env
      standAt apos.atName
      let (f, first) ← holding [ov] (getMethod ov x pl)
      callWith pos f first (backTo pos (starEach (e :: es) X.env)) (backToKw pos (keywordEach [] X.env))) := by rfl) :
    SF X Y W (.Call (.Attribute o x apos) (e :: es) [] pos) (tMethS (Y.ca c) x (spOf Y n mfn) dvs (WE W) ta t) (fMeth c x mfn dd ma m) := by
  obtain ⟨f, fd, ps, ds, F, hC, hm, hb, hd, hdv⟩ := h
  exact f_meth c ho hC hm F hr hb hd hdv tk ha hn hst hpl ht
theorem u_meth0 (c : Str) {pl : Sem Bool} (h : KnM X.prog X.w X.K X.mg X.base Y k c x n mfn dvs dd) (hr : Room k X.A) (tk : L2N.Takes X W) (ho : SE X Y W o ta ma)
    (hn : dd.length + 1 = n := by rfl)
    (ht : eval (.Call (.Attribute o x apos) [] [] pos) X.env = (do
      let ov ← eval o X.env
      standAt apos.atName
      let (f, first) ← holding [ov] (getMethod ov x pl)
      callWith pos f first (backTo pos (starEach [] X.env)) (backToKw pos (keywordEach [] X.env))) := by rfl) :
    SE X Y W (.Call (.Attribute o x apos) [] [] pos) (tMethS (Y.ca c) x (spOf Y n mfn) dvs (WE W) ta tNil) (eMeth c x mfn dd ma aNil) := by
  obtain ⟨f, fd, ps, ds, F, hC, hm, hb, hd, hdv⟩ := h
  exact s_meth0 c ho hC hm F hr hb hd hdv tk hn ht
theorem v_meth0 (c : Str) {pl : Sem Bool} (h : KnM X.prog X.w X.K X.mg X.base Y k c x n mfn dvs dd) (hr : Room k X.A) (tk : L2N.Takes X W) (ho : SE X Y W o ta ma)
    (hn : dd.length + 1 = n := by rfl)
    (ht : eval (.Call (.Attribute o x apos) [] [] pos) X.env = (do
      let ov ← eval o X.env
      standAt apos.atName
      let (f, first) ← holding [ov] (getMethod ov x pl)
      callWith pos f first (backTo pos (starEach [] X.env)) (backToKw pos (keywordEach [] X.env))) := by rfl) :
    SF X Y W (.Call (.Attribute o x apos) [] [] pos) (tMethS (Y.ca c) x (spOf Y n mfn) dvs (WE W) ta tNil) (fMeth c x mfn dd ma aNil) := by
  obtain ⟨f, fd, ps, ds, F, hC, hm, hb, hd, hdv⟩ := h
  exact f_meth0 c ho hC hm F hr hb hd hdv tk hn ht
theorem u_new (h : KnC X.prog X.w X.K X.mg X.base Y k x n mfn dvs dd) (hr : Room (k + 1) X.A) (tk : L2N.Takes X W)
    (ha : SA X Y W (e :: es) t m) (hn : (e :: es).length + dd.length + 1 = n := by rfl) (hg : Gl X x := by rfl) (hdb : (x == ("__debug__" : Str)) = false := by decide) (he : starEach (e :: es) X.env = (false, eval e X.env) :: starEach es X.env := by rfl) (hpl : (backTo pos (starEach es X.env)).any (·.1) = false := by rfl) :
    SE X Y W (.Call (.Name x p) (e :: es) [] pos) (tMakeS (Y.ca x) (spOf Y n mfn) dvs (WE W) t) (eNew x mfn dd m) := by
  obtain ⟨f, fd, ps, ds, F, M, hm, hb, hd, hdv⟩ := h
  exact s_new M F hr hm hb hd hdv tk ha hn hg hdb he hpl
theorem u_int {x : Str} {i : Int} (hm : ∃ u, X.mg x = some (.int i u)) (hg : Gl X x := by rfl) (hd : (x == ("__debug__" : Str)) = false := by decide) : SE X Y W (.Name x pos) (tC (.int i)) (eC (.int i)) := by
  obtain ⟨u, hm⟩ := hm
  exact s_gint hm hg hd
theorem u_raise {x : Str} {pos' : Pos} (h : KnX X.K X.mg Y x) (tk : L2N.Takes X W) (hc : X.calm = true := by rfl) (hg : Gl X x := by rfl) (hdb : (x == ("__debug__" : Str)) = false := by decide) :
    SS X Y W (.Raise (some (.Call (.Name x p) [] [] pos)) none pos') (fun _ σ H => W (.ref (Y.ca x)) none σ H) (sRaise x) := t_raise h.xP h.gP h.kP h.bP h.tP tk hc hg hdb
theorem u_set (i : Nat) {x : Str} {pos' : Pos} (he : SE X Y W e te me) (hN : X.N.Nodup) (hi : X.N[i]? = some x := by rfl) (hx : Loc X.env.scope x := by first | exact Or.inl rfl | exact Or.inr rfl) (hs : swapsWith e (some (.Name x pos')) pos.line X.env = pure false := by rfl) (hf : X.fn x = true ∨ X.env.scope.names.lookup x = some .local := by first | exact .inl rfl | exact .inr rfl | assumption) :
    SS X Y W (.Assign [.Name x pos'] e pos) (tAsg te (gName i)) (sAsg me (gN i)) := t_set hN hi hx he hs hf
theorem u_own (i : Nat) {x : Str} {pos' : Pos} (he : SF X Y W e te mf) (hN : X.N.Nodup) (hi : X.N[i]? = some x := by rfl) (hx : Loc X.env.scope x := by first | exact Or.inl rfl | exact Or.inr rfl) (hs : swapsWith e (some (.Name x pos')) pos.line X.env = pure false := by rfl) (hf : X.fn x = true ∨ X.env.scope.names.lookup x = some .local := by first | exact .inl rfl | exact .inr rfl | assumption) :
    SS X Y W (.Assign [.Name x pos'] e pos) (tAsg te (gName i)) (sOwn i mf) := t_own hN hi hx he hs hf
theorem u_cell (i : Nat) {x : Str} {pos' : Pos} (he : SF X Y W e te mf) (hN : X.N.Nodup) (hi : X.N[i]? = some x := by rfl) (hx : Loc X.env.scope x := by first | exact Or.inl rfl | exact Or.inr rfl) (hs : swapsWith e (some (.Name x pos')) pos.line X.env = pure false := by rfl) (hf : X.fn x = true ∨ X.env.scope.names.lookup x = some .local := by first | exact .inl rfl | exact .inr rfl | assumption) :
    SS X Y W (.Assign [.Name x pos'] e pos) (tAsg te (gName i)) (sCell i mf) := t_cell hN hi hx he hs hf
theorem u_g (i : Nat) {x : Str} (hN : X.N.Nodup) (hi : X.N[i]? = some x := by rfl) (hx : Loc X.env.scope x := by first | exact Or.inl rfl | exact Or.inr rfl) (hf : X.fn x = true ∨ X.env.scope.names.lookup x = some .local := by first | exact .inl rfl | exact .inr rfl | assumption) : SG X Y [i] (.Name x pos) (gName i) (gN i) := g_name hN hi hx hf
theorem u_aug (i : Nat) {x : Str} {op : Operator} {f : Int → Int → Int} {pos' : Pos} (ho : PIp X op (ipI f)) (he : SE X Y W e te me) (hN : X.N.Nodup) (hi : X.N[i]? = some x := by rfl) (hx : Loc X.env.scope x := by first | exact Or.inl rfl | exact Or.inr rfl) (hf : X.fn x = true ∨ X.env.scope.names.lookup x = some .local := by first | exact .inl rfl | exact .inr rfl | assumption) :
    SS X Y W (.AugAssign (.Name x pos') op e pos) (tAug i te (ipI f)) (sAug i f me) := t_aug hN hi hx ho he hf
def eLenA (i : Nat) : ME := fun env S => match env[i]? with
  | some (.o (.lst ds)) => .ok (.int ds.length) S
  | some (.v d) => opt (fLen S [d]) S
  | _ => .stuck
theorem u_lenA (i : Nat) {x : Str} {p1 : Pos} (hm : X.mg "len" = none) (hK : X.K = Y.K := by rfl) (hN : X.N[i]? = some x := by rfl) (hv : Vis X.env.scope x := by first | exact Or.inl rfl | exact Or.inr (Or.inl rfl) | exact Or.inr (Or.inr rfl)) (hd : (x == ("__debug__" : Str)) = false := by decide)
    (hcd : (x == ("__classdict__" : Str)) = false := by decide) (hg : Gl X "len" := by rfl) (he : starEach [.Name x p1] X.env = (false, eval (.Name x p1) X.env) :: starEach [] X.env := by rfl) (hpl : (backTo pos (starEach [] X.env)).any (·.1) = false := by rfl) :
    SE X Y W (.Call (.Name "len" p) [.Name x p1] [] pos) (tCB (rLn Y.K) (tCons (tVar i) tNil)) (eLenA i) := ⟨(s_lenO (Y := Y) (W := W) i hm hK hN hv hd hcd hg he hpl).pe, fun w0 H0 w H σ env S O Q st pp => by
  unfold eLenA at pp
  split at pp
  · rename_i ds hs
    exact (s_lenO (X := X) (Y := Y) (W := W) (p := p) i hm hK hN hv hd hcd hg he hpl).sim w0 H0 w H σ env S O Q st (by
      unfold eLenO
      rw [hs]
      exact pp)
  · rename_i d hs
    exact sim_cb (g := Y) (cd_len (g := Y)) ((a_cons (Y := Y) (W := W) (sv i (X := X) hN hv hd hcd) a_nil he).sim) w0 H0 w H σ env S O Q st (by
      unfold eCB aCons aNil eV
      rw [hs]
      exact pp)
  · exact pp.elim⟩
def eIxA (i : Nat) (mk : ME) : ME := fun env S => match env[i]? with
  | some (.o (.lst ds)) => (mk env S).bind fun k S1 => (match k with
    | .int k => opt (atI ds k) S1
    | _ => .stuck)
  | some (.v d) => (mk env S).bind fun k S1 => opt (fIx S1 d k) S1
  | _ => .stuck
theorem u_ixA (i : Nat) {x : Str} {p1 : Pos} (hk : SE X Y W a ta ma) (hs : PlainIx a) (hK : X.K = Y.K := by rfl) (hN : X.N[i]? = some x := by rfl) (hv : Vis X.env.scope x := by first | exact Or.inl rfl | exact Or.inr (Or.inl rfl) | exact Or.inr (Or.inr rfl)) (hd : (x == ("__debug__" : Str)) = false := by decide)
    (hcd : (x == ("__classdict__" : Str)) = false := by decide) : SE X Y W (.Subscript (.Name x p1) a pos) (tOp (fun x y H Q => rIxL Y.K x y H Q ∨ rIxT Y.K x y H Q) (tVar i) ta) (eIxA i ma) := ⟨hK ▸ pe_ix ix_lt (pv i hN hv hd hcd) hk.pe hs, fun w0 H0 w H σ env S O Q st p => by
  unfold eIxA at p
  split at p
  · rename_i ds hs
    obtain ⟨q, e1, e2, e3, e4, e5, e6, hi⟩ := st.own_at hs
    refine ⟨.ref q, e1, ?_⟩
    refine hk.sim w0 H0 w H σ env S O _ st ((PostX.bind p).imp fun k S1 w1 H1 st1 l1 p1 kv kr => ?_)
    split at p1
    · rename_i k
      obtain ⟨d, e, kk⟩ := PostX.opt_ p1 st1
      obtain ⟨q', f1, f2, f3, ⟨us, f4, f4'⟩, f5, f6, _⟩ := st1.own_at hs
      rw [e2] at f2
      cases f2
      obtain ⟨v, g1, g2⟩ := f4'.atI_ e
      exact .inl ⟨q, us, k, v, rfl, rep_int kr, .inl (.inl f4), g1, kk w1 H1 st1 (.refl w1) v g2⟩
    · exact False.elim p1
  · rename_i d hs
    exact sim_op (g := Y) (od_ix (g := Y)) ((sv i (X := X) (Y := Y) (W := W) (pos := p1) hN hv hd hcd).sim) hk.sim w0 H0 w H σ env S O Q st (by
      unfold eOp eV
      rw [hs]
      exact p)
  · exact p.elim⟩
end
section
variable {P : Program} {w : World} {K : PySem.W.Frag} {mg : Str → Option Value} {base : Heap} {Y : Gam}
abbrev FnP (K : PySem.W.Frag) (x qual : Str) (st : Stmt) (dvs : List V) (f : Addr) (fd : FuncData) : Prop := FunD K x qual (defArgs st) (defBody st) (defScope st) dvs [] f fd
theorem kn_of {k n : Nat} {x : Str} {st : Stmt} {f : Addr} {fd : FuncData} {ps : List Str} {mf : MFn} (F : FnP K x x st [] f fd) (g : mg x = some (.ref f)) (b : Binds K fd ps []) (h : FnOk P w K mg base (L2N.CX P w) k f fd ps (spOf Y n mf)) : Kn P w K mg base Y k x n mf [] [] :=
  ⟨f, fd, ps, [], h, g, F.kp, b, .nil, fun _ => RepL.nil_⟩
theorem knM_of {k n : Nat} {c x qual : Str} {st : Stmt} {f : Addr} {fd : FuncData} {ps : List Str} {mf : MFn} (F : FnP K x qual st [] f fd) (C : Cls K (Y.ca c)) (M : Meth K (Y.ca c) x f) (b : Binds K fd ps []) (h : FnOk P w K mg base (L2N.CX P w) k f fd ps (spOf Y n mf)) : KnM P w K mg base Y k c x n mf [] [] :=
  ⟨f, fd, ps, [], h, C, M, b, .nil, fun _ => RepL.nil_⟩
theorem knC_of {k n : Nat} {x qual : Str} {st : Stmt} {f : Addr} {fd : FuncData} {ps : List Str} {mf : MFn} (F : FnP K "__init__" qual st [] f fd) (M : Mk K (Y.ca x) f) (g : mg x = some (.ref (Y.ca x))) (b : Binds K fd ps []) (h : FnOk P w K mg base (L2N.CX P w) k f fd ps (spOf Y n mf)) : KnC P w K mg base Y k x n mf [] [] :=
  ⟨f, fd, ps, [], h, M, g, b, .nil, fun _ => RepL.nil_⟩
end
end Mm
namespace Mm
open PySem L2
abbrev GY (K : PySem.W.Frag) (ca : Str → Addr) (T : List (Addr × Str)) : Gam := ⟨K, ca, T⟩
end Mm
namespace Mm
open PySem L2
noncomputable def plainH (H : Hp) : Hp := fun a => match H a with
  | some (.tbl _) => none
  | o => o
theorem plainH_same (H : Hp) : Same (plainH H) H := fun a o h => by
  unfold plainH at h
  split at h
  · cases h
  · exact h
theorem plainH_notab (H : Hp) (a : Addr) (ps : Array Value) : plainH H a ≠ some (.tbl ps) := fun h => by
  unfold plainH at h
  split at h
  · cases h
  · rename_i z
    exact z ps h
theorem plainH_of {H : Hp} {a : Addr} {o : HO} (h : H a = some o) (n : ∀ ps, o ≠ .tbl ps) : plainH H a = some o := by
  unfold plainH
  rw [h]
  split
  · rename_i q z
    exact absurd (Option.some.inj z) (n _)
  · rfl
theorem plainH_sql {K : PySem.W.Frag} {H : Hp} {a : Addr} {xs : List V} (h : SqL K H a xs) : SqL K (plainH H) a xs := by
  rcases h with (h | ⟨o, h⟩) | h
  · exact .inl (.inl (plainH_of h fun _ z => by cases z))
  · exact .inl (.inr ⟨o, plainH_of h fun _ z => by cases z⟩)
  · exact .inr h
theorem law_sp {K : PySem.W.Frag} {ca : Str → Addr} {T : List (Addr × Str)} {H : Hp} {a : Addr} {ns : List Int} {m : MFn} {S : Sto} (hT : ∀ p ∈ T, H p.1 = some (.tbl #[]))
    (hS : SqL K H a (ns.map V.int)) (hm : m [.scr ns] [] = .ok (.val (.bl true)) S) : spOf (GY K ca T) 1 m [.ref a] H (fun v _ => v = .bl true) fun _ _ _ => False := by
  refine ⟨rfl, ⟨[], plainH H⟩, [.scr ns], [], ⟨plainH_same H, ⟨fun i j b h _ => by simp at h, rfl, fun n b c h _ => by simp at h⟩, fun p hp => LamX.TabS.nil (hT p hp), plainH_notab H⟩, RepL.cons_ ?_ RepL.nil_, ?_⟩
  · unfold Rep
    exact ⟨a, rfl, plainH_sql hS⟩
  · rw [hm]
    intro w' H' v _ _ r
    exact rep_bl (g := GY K ca T) (w := w') r
theorem exAt {es : List (PySem.W.Frag → Bool)} {K : PySem.W.Frag} (h : (es.all fun f => f K) = true) (i : Nat) {f : PySem.W.Frag → Bool} (e : es[i]? = some f) : f K = true := List.all_eq_true.mp h f (List.mem_of_getElem? e)
theorem cx_none (P : Program) (w : World) (H : Hp) (s : Shared) (e : Value) (s' : Shared) (h : L2N.CX P w [] H s (fun _ _ _ => False) e s') : False := by
  obtain ⟨_, _, _, _, _, _, _, _, _, _, _, _, z⟩ := h
  exact z
def blFa : List He.Fa := [.free "len", .free "range", .free "enumerate", .free "zip", .free "sorted", .free "sum", .free "all", .free "any", .free "list", .free "tuple", .free "int", .free "isinstance", .free "min", .free "max", .free "set", .free "abs", .free "bool", .free "str", .free "repr", .free "dict"]
theorem bl_of {K : PySem.W.Frag} {h : Heap} {mg : Str → Option Value} (X : K.In h) (G : h.Ns mainGlobals mg) (c : ∀ f ∈ blFa, f.ok K = true) : Bl mg := by
  have g : ∀ x : Str, He.Fa.free x ∈ blFa → mg x = none := fun x hx => He.free_ok X G (c _ hx)
  constructor <;> exact g _ (by simp [blFa])
theorem knX_of {K : PySem.W.Frag} {h : Heap} {mg : Str → Option Value} {T : List (Addr × Str)} (X : K.In h) (G : h.Ns mainGlobals mg) {x : Str} (c1 : (He.Fa.glo x).ok K = true) (c2 : (He.Fa.exc x).ok K = true) : KnX K mg (GY K (He.ga K) T) x := by
  obtain ⟨e1, e2, e3, e4⟩ := He.exc_ok c2
  exact ⟨e1, He.glo_ok X G c1, e2, e3, e4⟩
end Mm
namespace Mm
open PySem PySem.Spec PyProof.Rows L2
section
variable {prog : Program} {w : World} {A : Around} {E : Value → Shared → Prop} {s : Shared}
theorem iadd_lists {l b : Addr} {items items2 : Array Value} {n n2 : Nat} {Q : Value → Shared → Prop} (hl : s.heap.get? l = some { cls := .type "list", dict := none, data := .seq items n, slots := #[] }) (hb : s.heap.get? b = some { cls := .type "list", dict := none, data := .seq items2 n2, slots := #[] })
    (hsz : items.size + items2.size ≤ sizeLine) (h : Q (.ref l) { s with heap := s.heap.update l (Obj.mapSeq fun x => x ++ items2) }) : wpAny (model prog w) A (inplaceOp .Add (.ref l) (.ref b)) Q E s := by
  have ha' : s.TypeIs (.ref l) "list" := ⟨_, hl, rfl⟩
  have hb' : s.TypeIs (.ref b) "list" := ⟨_, hb, rfl⟩
  have look := F.slot_list_iadd.lookup
  have hfi : fillsInplaceSlot (.type "list") "add" (Operator.Add == .Add) = pure false := by
    unfold fillsInplaceSlot
    show (typeLookup (.type "list") (dunderI "add") >>= fun fi => pure (fi.isSome && !isSeqSlot fi)) = pure false
    rw [look]
    rfl
  have hsi : seqSlot? (.type "list") (dunderI "add") = pure (some (.builtin "list.__iadd__")) := by
    unfold seqSlot?
    rw [look]
    rfl
  unfold inplaceOp
  refine wpAny_holding (wpAny_bind (wpAny_typeOf ha' (wpAny_bind (wpAny_of_eq hfi ?_))))
  show wpAny _ A (if false = true then _ else _) Q E s
  rw [if_neg Bool.false_ne_true]
  refine wpAny_bind (wpAny_binaryOp1_none (nm := "add") ha' hb' noFill_list_add ?_)
  refine wpAny_bind (wpAny_of_eq hsi (wpAny_bind (wpAny_rule ?_)))
  have hlong : ¬ (!items.isEmpty && Builtin.List.listTooLong (items.size + items2.size)) = true := by
    rw [notLongL hsz, Bool.and_false]
    exact Bool.false_ne_true
  exact call_meets F.slot_list_iadd ha' F.entry_list_iadd (F.args_list_iadd_2 _ _) (AutoSeq1.list___iadd___list_list_0 l items n b items2 n2 hlong (by omega) (by omega)) ⟨hl, hb, h⟩
end
def ipL : TIp := fun x y H Q => ∃ l b xs zs, x = .ref l ∧ y = .ref b ∧ H l = some (.lst xs) ∧ H b = some (.lst zs) ∧ xs.length + zs.length ≤ sizeLine ∧ Q (.ref l) (upd H l (.lst (xs ++ zs)))
theorem ip_lists {X : Cx} : PIp X .Add ipL := by
  intro pins s σ H x y v u Q I rx ry h
  obtain ⟨l, b, xs, zs, rfl, rfl, hH, hB, hz, q⟩ := h
  cases rx
  cases ry
  obtain ⟨z, its, n, r, hl, e⟩ := I.lstM hH
  obtain ⟨z2, its2, n2, r2, hl2, e2⟩ := I.lstM hB
  refine iadd_lists e e2 (by rw [List.size_toArray, List.size_toArray]; omega) ⟨.ref l, _, I.lset (its' := its ++ its2) (t' := s.toks) hH e (by simp) (r.append r2) ?_, rfl, q⟩
  rw [List.length_append]
  omega
section
variable {X : Cx} {Y : Gam} {W : WX} {e a b c tg iter elt l : Expr} {es rest ifs : List Expr} {ta tb te tl : TE} {tt tu : TT} {ma mb me ml : ME} {mt mu : MT} {mf : MF} {t : TA} {m : MA} {pos p tpos : Pos} {s : Stmt} {ss : List Stmt} {t1 t2 : TS} {m1 m2 : MS} {wi : TI} {mi : MI} {x : Str}
def sExt (i : Nat) (me : ME) : MS := fun env S => match env[i]? with
  | some (.o (.lst xs)) => (me env S).out env fun d S1 => (match d with
    | .lst ys => if szB (xs.length + ys.length) then .nx (env.set i (.o (.lst (xs ++ ys)))) S1 else .stuck
    | _ => .stuck)
  | _ => .stuck
theorem t_ext (i : Nat) {pos' : Pos} (he : SE X Y W e te me) (hN : X.N.Nodup) (hi : X.N[i]? = some x := by rfl) (hx : Loc X.env.scope x := by first | exact Or.inl rfl | exact Or.inr rfl) (hf : X.fn x = true ∨ X.env.scope.names.lookup x = some .local := by first | exact .inl rfl | exact .inr rfl | assumption) :
    SS X Y W (.AugAssign (.Name x pos') .Add e pos) (tAug i te ipL) (sExt i me) := ⟨ps_aug hN hi hx he.pe ip_lists hf, fun w0 H0 w H σ env S O Dn st p => by
  unfold sExt at p
  split at p
  · rename_i xs hs
    obtain ⟨q, e1, e2, e3, e4, e5, e6, hi⟩ := st.own_at hs
    refine ⟨.ref q, e1, ?_⟩
    refine he.sim w0 H0 w H σ env S O _ st ((PostS.out p).imp fun d S1 w1 H1 st1 l1 p1 v r => ?_)
    split at p1
    · rename_i ys
      split at p1
      · rename_i hz
        obtain ⟨q', f1, f2, f3, ⟨us, f4, f4'⟩, f5, f6, _⟩ := st1.own_at hs
        rw [e2] at f2
        cases f2
        obtain ⟨b, zs, g1, g2, g3⟩ := rep_lst r
        refine ⟨q, b, us, zs, rfl, g1, f4, st1.ok.ex _ _ g2, by rw [← f4'.len, ← g3.len]; exact szB_le hz, ?_⟩
        show Dn.nx (σ.set i (some (V.ref q))) _
        rw [set_get_self σ i _ e1]
        exact p1 w1 _ σ O (st1.mut hs e2 ⟨_, upd_same, f4'.append_ g3⟩ nt_lst) (.refl w1)
      · exact False.elim p1
    · exact False.elim p1
  · exact p.elim⟩
variable {scope : Scope} {own : List (Str × Nat)} {is : List Nat} {tgs : TGs} {mgs : MGs} {k : Nat}
def eIsX (a : Addr) (c : Str) (m : MA) : ME := fun env S => (m env S).bind fun ds S1 => match ds with
  | [.adr a', .cls c'] => if a' = a then .ok (.bl (decide (c' = c))) S1 else .stuck
  | _ => .stuck
end
end Mm
namespace Mm
open PySem PySem.Spec PyProof.Rows L2
def tSem (X : Cx) (e : Expr) : TE := fun σ H Q => ∀ pins s, Inv X pins σ H s → wpAny (model X.prog X.w) X.A (eval e X.env) (EP X pins σ Q) X.xe s
theorem pe_sem {X : Cx} {e : Expr} : PE X e (tSem X e) := ⟨fun pins s σ H Q I h => h pins s I⟩
end Mm
namespace Mm
open PySem L2
section
variable {X : Cx} {Y : Gam} {W : WX} {e a b c tg iter elt l : Expr} {es rest ifs : List Expr} {ta tb tc te tl : TE} {tt tu : TT} {ma mb mc me ml : ME} {mt mu : MT} {mf : MF} {t : TA} {m : MA} {pos p tpos : Pos} {s : Stmt} {ss : List Stmt} {t1 t2 : TS} {m1 m2 : MS} {wi : TI} {mi : MI} {x : Str}
theorem s_bty {n : String} (hm : X.mg x = none) (hv : bootBuiltins x = some (.type n)) (hg : Gl X x := by rfl) (hn : x ≠ "__name__" := by decide) (hd : (x == ("__debug__" : Str)) = false := by decide) : SE X Y W (.Name x pos) (tC (.ty n)) (eC (.ty n)) :=
  ⟨pe_bltn hg hm hv rfl hn hd, sim_c fun _ => by unfold Rep; rfl⟩
def D.tyN : D → Option String
  | .non => some "NoneType"
  | .bl _ => some "bool"
  | .int _ => some "int"
  | .str _ => some "str"
  | .lst _ => some "list"
  | .tup _ => some "tuple"
  | _ => none
theorem sqT_ty {K : PySem.W.Frag} {H : Hp} {a : Addr} {xs : List V} (h : SqT K H a xs) : TyX K H (.ref a) (.type "tuple") := by
  rcases h with (h | ⟨o, h⟩) | h
  · exact .base (.tup h)
  · exact .fTuple h
  · obtain ⟨o, its, n, e1, e2, _⟩ := h
    exact .kTuple e1 e2
theorem rep_ty {g : Gam} {w : Wd} {H : Hp} {d : D} {v : V} {n : String} (ex : Same w.G H) (r : Rep g w d v) (h : d.tyN = some n) : TyX g.K H v (.type n) := by
  cases d with
  | non => cases h; rw [rep_non r]; exact .base .non
  | bl b => cases h; rw [rep_bl r]; exact .base (.bl b)
  | int b => cases h; rw [rep_int r]; exact .base (.int b)
  | str b => cases h; rw [rep_str r]; exact .base (.str b)
  | lst ds =>
    cases h
    obtain ⟨a, vs, e1, e2, _⟩ := rep_lst r
    rw [e1]
    exact .base (.lst (ex _ _ e2))
  | tup ds =>
    cases h
    obtain ⟨a, vs, e1, e2, _⟩ := rep_tup r
    rw [e1]
    exact sqT_ty (same_sqT ex e2)
  | _ => cases h
def fIsi : Sto → List D → Option D
  | _, [d, .ty n] => match d.tyN with
    | some t => (kitB t n).map D.bl
    | none => none
  | _, _ => none
theorem cd_isi {g : Gam} : CallD g (rIsi g.K) fIsi := fun w H S ds vs d Q k r e q => by
  unfold fIsi at e
  split at e
  · rename_i d1 n
    cases z : d1.tyN with
    | none => rw [z] at e; cases e
    | some tn =>
      rw [z] at e
      cases y : kitB tn n with
      | none => simp [y] at e
      | some b =>
        simp [y] at e
        subst e
        obtain ⟨v1, v2, e1, r1, r2⟩ := repL_two r
        unfold Rep at r2
        exact ⟨v1, .ty n, .type tn, .type n, b, by rw [e1, r2], .ty n, rep_ty k.ex r1 z, kit_ty y, q w H _ .refl rep_bl'⟩
  · cases e
def tysOf : List D → Option (List String)
  | [] => some []
  | .ty n :: ds => (tysOf ds).map (n :: ·)
  | _ => none
def kitL (t : String) : List String → Option Bool
  | [] => some false
  | n :: ns => match kitB t n with
    | some true => some true
    | some false => kitL t ns
    | none => none
theorem kitL_ok {K : PySem.W.Frag} {t : String} : ∀ {ns : List String} {b : Bool}, kitL t ns = some b → PySem.W.kitAny K (.type t) (ns.map Value.type) = some b
  | [], b, h => by
    cases h
    exact kitAny_nil
  | n :: ns, b, h => by
    unfold kitL at h
    cases z : kitB t n with
    | none => rw [z] at h; cases h
    | some y =>
      rw [z] at h
      cases y with
      | true =>
        cases h
        exact kitAny_cons (kit_ty z) (fun q => Bool.noConfusion q) (fun _ => rfl)
      | false => exact kitAny_cons (kit_ty z) (fun _ => kitL_ok h) (fun q => Bool.noConfusion q)
theorem tysOf_rep {g : Gam} {w : Wd} : ∀ {ds : List D} {ns : List String} {vs : List V}, tysOf ds = some ns → RepL g w ds vs → Paired ClsV vs (ns.map Value.type)
  | [], ns, vs, h, r => by
    cases h
    unfold RepL at r
    rw [r]
    exact .nil
  | d :: ds, ns, vs, h, r => by
    cases d with
    | ty n =>
      unfold tysOf at h
      cases q : tysOf ds with
      | none => rw [q] at h; cases h
      | some ns' =>
        rw [q] at h
        cases h
        unfold RepL at r
        obtain ⟨v, r', e1, a, b⟩ := r
        unfold Rep at a
        rw [e1, a]
        exact .cons (.ty n) (tysOf_rep q b)
    | _ => unfold tysOf at h; cases h
def eIsT (me : ME) (m : MA) : ME := fun env S => (me env S).bind fun d S1 => (m env S1).bind fun ds S2 => match d.tyN, tysOf ds with
  | some t, some ns => if szB ds.length then opt ((kitL t ns).map D.bl) S2 else .stuck
  | _, _ => .stuck
theorem s_isT {k : Nat} {p2 : Pos} (hm : X.mg "isinstance" = none) (he : SE X Y W e te me) (ha : SA X Y W es t m) (hK : X.K = Y.K := by rfl) (hg : Gl X "isinstance" := by rfl) (hs : starEach [e, .Tuple es k p2] X.env = (false, eval e X.env) :: starEach [.Tuple es k p2] X.env := by rfl)
    (hs2 : starEach [.Tuple es k p2] X.env = (false, eval (.Tuple es k p2) X.env) :: starEach [] X.env := by rfl) (hpl : (backTo pos (starEach [.Tuple es k p2] X.env)).any (·.1) = false := by rfl) :
    SE X Y W (.Call (.Name "isinstance" p) [e, .Tuple es k p2] [] pos) (tCB (rIsiT Y.K) (tCons te (tCons (tTup t) tNil))) (eIsT me m) :=
  ⟨hK ▸ pe_callB call_isiT hg hm (by decide +kernel : bootBuiltins "isinstance" = some (.builtin "isinstance")) (pa_cons he.pe (pa_cons (pe_tup ha.pa) pa_nil hs2) hs) (by decide) (by decide) hs hpl, fun w0 H0 w H σ env S O Q st pq =>
  he.sim w0 H0 w H σ env S O _ st ((PostX.bind pq).imp fun d S1 w1 H1 st1 l1 p1 v r => ha.sim w0 H0 w1 H1 σ env S1 O _ st1 ((PostX.bind p1).imp fun ds S2 w2 H2 st2 l2 p2 vs rs => by
    cases z1 : d.tyN with
    | none => rw [z1] at p2; exact False.elim p2
    | some tn =>
      cases z2 : tysOf ds with
      | none => rw [z1, z2] at p2; exact False.elim p2
      | some ns =>
        simp only [z1, z2] at p2
        split at p2
        · rename_i hz
          cases z3 : kitL tn ns with
          | none => rw [z3] at p2; exact False.elim p2
          | some b =>
            rw [z3] at p2
            refine ⟨by rw [← rs.len]; exact szB_le hz, fun q hq => ?_⟩
            have G := Grow.one (w := w2) (o := .tup vs) hq nt_tup
            refine ⟨v, q, vs, .type tn, ns.map Value.type, b, rfl, upd_same, tysOf_rep z2 rs, rep_ty (st2.ok.ex.trans (same_upd hq)) (r.mono l2) z1, kitL_ok z3, ?_⟩
            exact p2 _ _ (st2.grow G) (G.le st2.ok) _ rep_bl'
        · exact False.elim p2))⟩
theorem itR_zipT {g : Gam} {w : Wd} {a b : Addr} {ds es : List D} {vs us : List V} (e : SqT g.K w.G a vs) (r : RepL g w ds vs) (e' : SqT g.K w.G b us) (r' : RepL g w es us) : ItR g w (RZ.ItzT g.K a b) (zipD ds es) := fun w2 H2 l x => by
  have q : SqT g.K H2 a vs := same_sqT (l.ex.trans x) e
  have q' : SqT g.K H2 b us := same_sqT (l.ex.trans x) e'
  refine ⟨fun i d hd => ?_, ⟨vs, us, q, q', by rw [zipD_len, r.len, r'.len]; omega⟩⟩
  obtain ⟨d1, d2, h1, h2, ed⟩ := zipD_at ds es i d hd
  obtain ⟨v, hv, rv⟩ := r.at_ h1
  obtain ⟨u, hu, ru⟩ := r'.at_ h2
  refine ⟨⟨vs, us, v, u, q, q', hv, hu⟩, fun y H' hy => ?_⟩
  obtain ⟨T, x', y', e1, e2, e3, e4, e5⟩ := hy
  have e6 := e4 vs q
  have e7 := e5 us q'
  rw [hv] at e6
  rw [hu] at e7
  cases e6
  cases e7
  rw [e1, e3, ed]
  refine ⟨_, Grow.one e2 nt_tup, ?_⟩
  unfold Rep
  have le : w2.le ⟨w2.rho, upd w2.G T (.tup [v, u])⟩ := ⟨⟨[], by simp⟩, same_upd (none_of_same x e2)⟩
  exact ⟨T, _, rfl, .inl (.inl upd_same), RepL.cons_ ((rv.mono l).mono le) (RepL.cons_ ((ru.mono l).mono le) RepL.nil_)⟩
def itZA (m : MA) : MI := fun env S => (m env S).bind fun ds S1 => match ds with
  | [.lst xs, .lst ys] => .ok (zipD xs ys) S1
  | [.tup xs, .tup ys] => .ok (zipD xs ys) S1
  | _ => .stuck
theorem i_zipA {e2 : Expr} {elts : List Expr} {kk : Nat} (hm : X.mg "zip" = none) (ha : SA X Y W [e, e2] t m) (hK : X.K = Y.K := by rfl) (hg : Gl X "zip" := by rfl) (hs : starEach [e, e2] X.env = (false, eval e X.env) :: starEach [e2] X.env := by rfl) (hpl : (backTo pos (starEach [e2] X.env)).any (·.1) = false := by rfl) :
    SI X Y W (.Tuple elts kk tpos) (.Call (.Name "zip" p) [e, e2] [] pos) (RZ.iZipA Y.K t) (itZA m) := ⟨hK ▸ RZ.pi_zipA hg hm ha.pa hs hpl, fun w0 H0 w H σ env S O Q st p =>
  ha.sim w0 H0 w H σ env S O _ st ((PostX.bind p).imp fun ds S1 w1 H1 st1 l1 p1 vs r => by
    split at p1
    · rename_i xs ys
      obtain ⟨v, u, e1, e2, e3⟩ := repL_two r
      obtain ⟨a, us, x1, x2, x3⟩ := rep_lst e2
      obtain ⟨b, ws, y1, y2, y3⟩ := rep_lst e3
      rw [x1, y1] at e1
      exact ⟨a, b, us, ws, e1, .inl ⟨.inl (.inl (st1.ok.ex _ _ x2)), .inl (.inl (st1.ok.ex _ _ y2)), p1 w1 H1 st1 (.refl w1) _ (itR_zip (g := Y) x2 x3 y2 y3)⟩⟩
    · rename_i xs ys
      obtain ⟨v, u, e1, e2, e3⟩ := repL_two r
      obtain ⟨a, us, x1, x2, x3⟩ := rep_tup e2
      obtain ⟨b, ws, y1, y2, y3⟩ := rep_tup e3
      rw [x1, y1] at e1
      exact ⟨a, b, us, ws, e1, .inr ⟨same_sqT st1.ok.ex x2, same_sqT st1.ok.ex y2, p1 w1 H1 st1 (.refl w1) _ (itR_zipT (g := Y) x2 x3 y2 y3)⟩⟩
    · exact False.elim p1)⟩
def eChain (f g : Sto → D → D → Option D) (ma mb mc : ME) : ME := fun env S => (ma env S).bind fun x S1 => (mb env S1).bind fun y S2 => match f S2 x y with
  | some (.bl true) => (mc env S2).bind fun z S3 => opt (g S3 y z) S3
  | some (.bl false) => .ok (.bl false) S2
  | _ => .stuck
theorem s_chain {op op' : CmpOp} {r r' : R2} {f f' : Sto → D → D → Option D} (hd : OpD Y r f) (hd' : OpD Y r' f') (ho : OpR X (compareOp op) r) (ho' : OpR X (compareOp op') r') (ha : SE X Y W a ta ma) (hb : SE X Y W b tb mb) (hc : SE X Y W c tc mc)
    (hm : lastMarks [op, op'] [b, c] = false := by with_unfolding_all rfl) : SE X Y W (.Compare a [op, op'] [b, c] pos) (tChain r r' ta tb tc) (eChain f f' ma mb mc) := ⟨pe_chain ho ho' ha.pe hb.pe hc.pe hm, fun w0 H0 w H σ env S O Q st p =>
  ha.sim w0 H0 w H σ env S O _ st ((PostX.bind p).imp fun d1 S1 w1 H1 st1 l1 p1 v1 r1 => hb.sim w0 H0 w1 H1 σ env S1 O _ st1 ((PostX.bind p1).imp fun d2 S2 w2 H2 st2 l2 p2 v2 r2 => by
    split at p2
    · rename_i z
      refine hd w2 H2 S2 d1 d2 v1 v2 _ _ st2.ok (r1.mono l2) r2 z fun w3 H3 v G rv => ⟨true, rep_bl rv, ?_⟩
      simp only [if_true]
      have st3 := st2.grow G
      have l3 := G.le st2.ok
      refine hc.sim w0 H0 w3 H3 σ env S2 O _ st3 ((PostX.bind (PostX.mono p2 l3)).imp fun d3 S3 w4 H4 st4 l4 p4 v3 r3 => ?_)
      obtain ⟨d, e, kk⟩ := PostX.opt_ p4 st4
      exact hd' w4 H4 S3 d2 d3 v2 v3 d Q st4.ok ((r2.mono l3).mono l4) r3 e fun w5 H5 v5 G5 r5 => kk w5 H5 (st4.grow G5) (G5.le st4.ok) v5 r5
    · rename_i z
      refine hd w2 H2 S2 d1 d2 v1 v2 _ _ st2.ok (r1.mono l2) r2 z fun w3 H3 v G rv => ⟨false, rep_bl rv, ?_⟩
      simp only [Bool.false_eq_true, if_false]
      exact p2 w3 H3 (st2.grow G) (G.le st2.ok) _ rep_bl'
    · exact False.elim p2))⟩
def fMin2 : Sto → List D → Option D
  | _, [.int i, .int j] => some (.int (if j < i then j else i))
  | _, _ => none
theorem cd_min2 {g : Gam} : CallD g (fun xs H Q => ∃ i j, xs = [.int i, .int j] ∧ Q (.int (if j < i then j else i)) H) fMin2 := fun w H S ds vs d Q k r e q => by
  unfold fMin2 at e
  split at e
  · rename_i i j
    cases e
    obtain ⟨v1, v2, e1, r1, r2⟩ := repL_two r
    exact ⟨i, j, by rw [e1, rep_int r1, rep_int r2], q w H _ .refl rep_int'⟩
  · cases e
end
end Mm
namespace Mm
open PySem L2
mutual
def noRef : D → Bool
  | .lst ds => noRefL ds
  | .tup ds => noRefL ds
  | .ins _ fs => noRefF fs
  | .dic ks => noRefK ks
  | .ref _ => false
  | _ => true
def noRefL : List D → Bool
  | [] => true
  | d :: ds => noRef d && noRefL ds
def noRefF : List (Str × D) → Bool
  | [] => true
  | (_, d) :: ds => noRef d && noRefF ds
def noRefK : List (Key × D) → Bool
  | [] => true
  | (_, d) :: ds => noRef d && noRefK ds
end
mutual
theorem noRef_under : ∀ {d : D}, noRef d = true → d.under 0
  | .lst ds, h => by unfold noRef at h; unfold D.under; exact noRefL_under h
  | .tup ds, h => by unfold noRef at h; unfold D.under; exact noRefL_under h
  | .ins c fs, h => by unfold noRef at h; unfold D.under; exact noRefF_under h
  | .tdc _, _ => by unfold D.under; trivial
  | .tds _, _ => by unfold D.under; trivial
  | .any, _ => by unfold D.under; trivial
  | .dic ks, h => by unfold noRef at h; unfold D.under; exact noRefK_under h
  | .ref n, h => by unfold noRef at h; cases h
  | .non, _ => by unfold D.under; trivial
  | .bl _, _ => by unfold D.under; trivial
  | .int _, _ => by unfold D.under; trivial
  | .str _, _ => by unfold D.under; trivial
  | .scr _, _ => by unfold D.under; trivial
  | .ty _, _ => by unfold D.under; trivial
  | .cls _, _ => by unfold D.under; trivial
  | .adr _, _ => by unfold D.under; trivial
  | .set _, _ => by unfold D.under; trivial
theorem noRefL_under : ∀ {ds : List D}, noRefL ds = true → underL 0 ds
  | [], _ => by unfold underL; trivial
  | d :: ds, h => by
    unfold noRefL at h
    rw [Bool.and_eq_true] at h
    unfold underL
    exact ⟨noRef_under h.1, noRefL_under h.2⟩
theorem noRefF_under : ∀ {ds : List (Str × D)}, noRefF ds = true → underF 0 ds
  | [], _ => by unfold underF; trivial
  | (_, d) :: ds, h => by
    unfold noRefF at h
    rw [Bool.and_eq_true] at h
    unfold underF
    exact ⟨noRef_under h.1, noRefF_under h.2⟩
theorem noRefK_under : ∀ {ds : List (Key × D)}, noRefK ds = true → underK 0 ds
  | [], _ => by unfold underK; trivial
  | (_, d) :: ds, h => by
    unfold noRefK at h
    rw [Bool.and_eq_true] at h
    unfold underK
    exact ⟨noRef_under h.1, noRefK_under h.2⟩
end
def lendV : Sl → Sl
  | .v d => if noRef d then .v d else .no
  | _ => .no
def frzL : List Nat → Envr → Envr
  | [], env => env
  | i :: is, env => frzAt i (frzL is env)
def lendE (is : List Nat) (env : Envr) : Envr := (frzL is env).map lendV
theorem StR.frzL {g : Gam} {w0 w : Wd} {H0 H : Hp} {σ : L2.St} {env : Envr} {S : Sto} {O : List (Option Addr)} (st : StR g w0 H0 w H σ env S O) : ∀ is : List Nat, ∃ w' O', StR g w0 H0 w' H σ (frzL is env) S O' ∧ w.le w'
  | [] => ⟨w, O, st, .refl w⟩
  | i :: is => by
    obtain ⟨w1, O1, st1, l1⟩ := st.frzL is
    obtain ⟨w2, O2, st2, l2⟩ := st1.frz i
    exact ⟨w2, O2, st2, l1.trans l2⟩
theorem StR.lend {g : Gam} {w0 w : Wd} {H0 H : Hp} {σ : L2.St} {env : Envr} {S : Sto} {O : List (Option Addr)} (st : StR g w0 H0 w H σ env S O) (is : List Nat) :
    ∃ G, StR g ⟨[], G⟩ H ⟨[], G⟩ H σ (lendE is env) [] (List.replicate σ.length none) ∧ ∀ w2 H2 S2, Frame ⟨[], G⟩ H w2 H2 → Ok g w2 H2 S2 → StR g w0 H0 w H2 σ env S O := by
  obtain ⟨w1, O1, st1, l1⟩ := st.frzL is
  refine ⟨w1.G, ⟨⟨st1.ok.ex, ⟨fun i j a h _ => by simp at h, rfl, fun n a c h _ => by simp at h⟩, st1.ok.tabs, st1.ok.notab⟩, .refl _ _, by unfold lendE; rw [List.length_map]; exact st1.l1, List.length_replicate, fun i s x o e1 e2 e3 => ?_, fun i j p e _ => ?_, fun i p e => ?_⟩, fun w2 H2 S2 f k => ?_⟩
  · have eo : o = none := by
      rw [List.getElem?_replicate] at e3
      split at e3
      · exact (Option.some.inj e3).symm
      · cases e3
    unfold lendE at e1
    rw [List.getElem?_map] at e1
    cases q : (Mm.frzL is env)[i]? with
    | none => rw [q] at e1; cases e1
    | some s' =>
      rw [q] at e1
      have e1 : lendV s' = s := Option.some.inj e1
      cases s' with
      | no => rw [← e1]; exact eo
      | o c => rw [← e1]; exact eo
      | v d =>
        by_cases hd : noRef d = true
        · have e1' : Sl.v d = s := by rw [← e1]; exact (if_pos hd).symm
          rw [← e1']
          have hO : i < O1.length := by
            rw [st1.l2, ← st1.l1]
            exact (List.getElem?_eq_some_iff.mp q).1
          obtain ⟨_, v, q1, q2⟩ := st1.sl i (.v d) x O1[i] q e2 (List.getElem?_eq_getElem hO)
          exact ⟨eo, v, q1, Rep.cut (w := w1) (w' := ⟨[], w1.G⟩) (n := 0) ⟨fun m a h _ => absurd h (Nat.not_lt_zero _), fun _ _ z => z⟩ q2 (noRef_under hd)⟩
        · have e1' : Sl.no = s := by rw [← e1]; exact (if_neg hd).symm
          rw [← e1']
          exact eo
  · rw [List.getElem?_replicate] at e
    split at e <;> cases e
  · rw [List.getElem?_replicate] at e
    split at e <;> cases e
  · have kp : ∀ a o, H a = some o → (∀ ps, o ≠ .tbl ps) → H2 a = some o := fun a o e n => f.keep a o e (by simp) n
    refine st.after ⟨.refl w, fun a o e _ n => kp a o e n, fun _ _ => rfl, fun _ z => .inl z, f.dom, f.tb, f.fz⟩ ⟨fun a o e => kp a o (st.ok.ex a o e) (fun ps z => st.ok.notab a ps (by rw [e, z])), ⟨st.ok.cells.nd, st.ok.cells.len, fun m a c e1 e2 => ?_⟩, k.tabs, st.ok.notab⟩
    obtain ⟨q1, q2⟩ := st.ok.cells.at_ m a c e1 e2
    obtain ⟨x, q3, q4⟩ := q2.some_
    exact ⟨q1, q2.move (.refl w) (by rw [q3, kp a x q3 q4])⟩
section
variable {X : Cx} {Y : Gam} {W : WX} {e : Expr} {te : TE} {tt : TT} {me : ME} {mt : MT}
def cLend (is : List Nat) (m : MT) : MT := fun env S => match m (lendE is env) [] with
  | .ok b _ => .ok b S
  | _ => .stuck
theorem c_lend (is : List Nat) (h : SC X Y W e tt mt) : SC X Y W e tt (cLend is mt) := ⟨h.pt, fun w0 H0 w H σ env S O Q st p => by
  obtain ⟨G, st1, back⟩ := st.lend is
  refine h.sim _ _ _ _ σ _ [] _ Q st1 ?_
  unfold cLend at p
  cases z : mt (lendE is env) [] with
  | stuck => rw [z] at p; exact p
  | exc c q S2 => rw [z] at p; exact False.elim p
  | ok b S2 =>
    rw [z] at p
    exact fun w2 H2 st2 l2 => p w H2 (back w2 H2 S2 st2.fr st2.ok) (.refl w)⟩
def scal : D → Bool
  | .non => true
  | .bl _ => true
  | .int _ => true
  | .str _ => true
  | _ => false
end
end Mm
namespace Mm
open PySem L2
def Tof (K : PySem.W.Frag) (tf : List (He.Defn × Str)) : List (Addr × Str) := tf.map fun p => ((He.cT K p.1).2, p.2)
theorem law_atT {l : PySem.W.OpenLaw} {w : World} {K : PySem.W.Frag} {k n : Nat} {x : Str} {mg : Str → Option Value} {fa : Addr} {h : Heap} {fd : FuncData} {ca : Str → Addr} {m : MFn} {facl : List He.Fa} {fns : List He.DefD} {ex : PySem.W.Frag → Bool} (tf : List (He.Defn × Str)) (c : He.SaysX facl fns [] (tf.map (·.1)) ex w h K) (KX : K.In h)
    (hb : ∀ (s : Shared) (u : Value), BindsTo s fd ⟨[u], []⟩ [(x, u)]) (hm : ∀ ns : List Int, ns.length ≤ n → (∀ z ∈ ns, Builtin.Int.intBits z ≤ 1048576) → ∃ S, m [.scr ns] [] = .ok (.val (.bl true)) S)
    (hF : ∀ base : Heap, (∀ q ∈ tf, LamX.TabB base mg (He.cT K q.1).1 (He.cT K q.1).2) → FnOk l.prog w K mg base (L2N.CX l.prog w) k fa fd [x] (spOf (GY K ca (Tof K tf)) 1 m)) : LamX.LawAtS l w K (L2N.CX l.prog w) k n x mg fa h := by
  have at_ : ∀ p ∈ tf.map (fun p => He.cT K p.1), ∃ q ∈ tf.map (·.1), He.cT K q = p := fun p hp => by
    obtain ⟨q, hq, e⟩ := List.mem_map.mp hp
    exact ⟨q.1, List.mem_map.mpr ⟨q, hq, rfl⟩, e⟩
  refine ⟨fd, tf.map (fun p => He.cT K p.1), spOf (GY K ca (Tof K tf)) 1 m, fun p hp => ?_, fun p hp => ?_, fun p hp => ?_, hb, fun H a ns hl hbt hT hS => ?_, fun base _ _ hTB => hF base fun q hq => hTB _ (List.mem_map.mpr ⟨q, hq, rfl⟩)⟩
  · obtain ⟨q, hq, e⟩ := at_ p hp
    rw [← e]
    exact c.empty q hq
  · obtain ⟨q, hq, e⟩ := at_ p hp
    rw [← e]
    exact c.out q hq
  · obtain ⟨q, hq, e⟩ := at_ p hp
    rw [← e]
    exact PySem.W.codeHd_of_K KX (c.hd q hq)
  · obtain ⟨S, e⟩ := hm ns hl hbt
    refine law_sp (fun p hp => ?_) hS e
    obtain ⟨q, hq, e⟩ := List.mem_map.mp hp
    rw [← e]
    exact hT _ (List.mem_map.mpr ⟨q, hq, rfl⟩)
end Mm
namespace Gf
theorem nlt_of_bit {x y i : Nat} (hx : x.testBit i = false) (hy : y.testBit i = true) (h : ∀ j, i < j → x.testBit j = y.testBit j) : x < y := by
  have e : x / 2 ^ (i + 1) = y / 2 ^ (i + 1) := Nat.eq_of_testBit_eq fun j => by
    rw [Nat.testBit_div_two_pow, Nat.testBit_div_two_pow]
    exact h _ (by omega)
  have hx2 : x / 2 ^ i % 2 = 0 := by
    have := Nat.testBit_eq_decide_div_mod_eq (x := x) (i := i)
    rw [hx] at this
    have h3 := of_decide_eq_false this.symm
    omega
  have hy2 : y / 2 ^ i % 2 = 1 := by
    have := Nat.testBit_eq_decide_div_mod_eq (x := y) (i := i)
    rw [hy] at this
    exact of_decide_eq_true this.symm
  have e1 : x / 2 ^ i / 2 = y / 2 ^ i / 2 := by
    rw [Nat.div_div_eq_div_mul, Nat.div_div_eq_div_mul, ← Nat.pow_succ]
    exact e
  have l : x / 2 ^ i < y / 2 ^ i := by omega
  exact Nat.lt_of_not_le fun g => absurd (Nat.div_le_div_right (c := 2 ^ i) g) (by omega)
theorem xor_self_left (a b : Nat) : a ^^^ (a ^^^ b) = b := by rw [← Nat.xor_assoc, Nat.xor_self, Nat.zero_xor]
theorem xor_cancel_right (a b : Nat) : a ^^^ b ^^^ b = a := by rw [Nat.xor_assoc, Nat.xor_self, Nat.xor_zero]
theorem xor_eq_zero {a b : Nat} (h : a ^^^ b = 0) : a = b := by
  have := congrArg (· ^^^ b) h
  simpa [xor_cancel_right] using this
theorem bit_big {x w i : Nat} (h : x < 2 ^ w) (hi : w ≤ i) : x.testBit i = false := Nat.testBit_lt_two_pow (Nat.lt_of_lt_of_le h (Nat.pow_le_pow_right (by decide) hi))
theorem lt_of_bits {x w : Nat} (h : ∀ i, w ≤ i → x.testBit i = false) : x < 2 ^ w := Nat.lt_pow_two_of_testBit x fun i hi => h i hi
theorem log2_bit {n j : Nat} (h : n.log2 < j) : n.testBit j = false := by
  by_cases z : n = 0
  · subst z
    simp
  · exact Nat.testBit_lt_two_pow ((Nat.log2_lt z).mp h)
theorem log2_of {n i : Nat} (h : n.testBit i = true) (g : ∀ j, i < j → n.testBit j = false) : n.log2 = i := by
  have z : n ≠ 0 := by
    intro z
    subst z
    simp at h
  have a : ¬ n.log2 < i := fun l => by
    rw [log2_bit l] at h
    cases h
  have b : ¬ i < n.log2 := fun l => by
    have := g _ l
    rw [Nat.testBit_log2 z] at this
    cases this
  omega
theorem log2_ge {n i : Nat} (h : n.testBit i = true) : i ≤ n.log2 := Nat.le_of_not_lt fun l => by
  rw [log2_bit l] at h
  cases h
theorem ne_of_bit {n i : Nat} (h : n.testBit i = true) : n ≠ 0 := fun z => by
  subst z
  simp at h
def app : List Nat → Nat → Nat
  | [], _ => 0
  | r :: rs, x => (if x.testBit 0 then r else 0) ^^^ app rs (x / 2)
theorem app_nil (x : Nat) : app [] x = 0 := rfl
theorem app_cons (r : Nat) (rs : List Nat) (x : Nat) : app (r :: rs) x = (if x.testBit 0 then r else 0) ^^^ app rs (x / 2) := rfl
theorem app_zero : ∀ rs : List Nat, app rs 0 = 0
  | [] => rfl
  | r :: rs => by
    rw [app_cons]
    simp [app_zero rs]
theorem app_xor : ∀ (rs : List Nat) (x y : Nat), app rs (x ^^^ y) = app rs x ^^^ app rs y
  | [], _, _ => by simp [app]
  | r :: rs, x, y => by
    rw [app_cons, app_cons, app_cons, Nat.xor_div_two, app_xor rs, Nat.testBit_xor]
    cases x.testBit 0 <;> cases y.testBit 0 <;> simp <;> apply Nat.eq_of_testBit_eq <;> intro i <;> simp only [Nat.testBit_xor] <;> cases r.testBit i <;> cases (app rs (x / 2)).testBit i <;> cases (app rs (y / 2)).testBit i <;> rfl
theorem app_lt {w : Nat} : ∀ {rs : List Nat} (x : Nat), (∀ r ∈ rs, r < 2 ^ w) → app rs x < 2 ^ w
  | [], _, _ => Nat.two_pow_pos w
  | r :: rs, x, h => by
    rw [app_cons]
    refine Nat.xor_lt_two_pow ?_ (app_lt (x / 2) fun s hs => h s (List.mem_cons_of_mem _ hs))
    split
    · exact h r List.mem_cons_self
    · exact Nat.two_pow_pos w
theorem app_pow : ∀ (rs : List Nat) (i : Nat), app rs (2 ^ i) = rs.getD i 0
  | [], i => by simp [app]
  | r :: rs, 0 => by
    rw [app_cons]
    simp [app_zero]
  | r :: rs, i + 1 => by
    rw [app_cons]
    have e : 2 ^ (i + 1) / 2 = 2 ^ i := by
      rw [Nat.pow_succ]
      omega
    rw [e, app_pow rs i]
    simp [Nat.testBit_two_pow]
theorem app_mod : ∀ (rs : List Nat) (x : Nat), app rs (x % 2 ^ rs.length) = app rs x
  | [], x => rfl
  | r :: rs, x => by
    rw [app_cons, app_cons, List.length_cons]
    have e1 : (x % 2 ^ (rs.length + 1)).testBit 0 = x.testBit 0 := by
      rw [Nat.testBit_mod_two_pow]
      simp
    have e2 : x % 2 ^ (rs.length + 1) / 2 = x / 2 % 2 ^ rs.length := Nat.eq_of_testBit_eq fun i => by
      rw [Nat.testBit_div_two, Nat.testBit_mod_two_pow, Nat.testBit_mod_two_pow, Nat.testBit_div_two]
      simp
    rw [e1, e2, app_mod rs]
def plain (w : Nat) : List Nat := (List.range w).map (2 ^ ·)
theorem app_map2 (rs : List Nat) (x : Nat) : app (rs.map (2 * ·)) x = 2 * app rs x := by
  induction rs generalizing x with
  | nil => rfl
  | cons r rs ih =>
    rw [List.map_cons, app_cons, app_cons, ih]
    have e : ∀ a b : Nat, 2 * a ^^^ 2 * b = 2 * (a ^^^ b) := fun a b => by
      have := Nat.shiftLeft_xor_distrib (a := a) (b := b) (i := 1)
      simp only [Nat.shiftLeft_eq, Nat.pow_one] at this
      rw [Nat.mul_comm 2 a, Nat.mul_comm 2 b, Nat.mul_comm 2 (a ^^^ b)]
      exact this.symm
    rw [← e]
    split <;> rfl
theorem plain_succ (w : Nat) : plain (w + 1) = 1 :: (plain w).map (2 * ·) := by
  unfold plain
  rw [List.range_succ_eq_map, List.map_cons, List.map_map, List.map_map]
  congr 1
  apply List.map_congr_left
  intro i _
  show 2 ^ (i + 1) = 2 * 2 ^ i
  rw [Nat.pow_succ, Nat.mul_comm]
theorem tb_two (a i : Nat) : (2 * a).testBit i = (decide (1 ≤ i) && a.testBit (i - 1)) := by
  have e : 2 * a = a <<< 1 := by rw [Nat.shiftLeft_eq]; omega
  rw [e, Nat.testBit_shiftLeft]
theorem app_plain : ∀ (w x : Nat), x < 2 ^ w → app (plain w) x = x
  | 0, x, h => by
    have : x = 0 := by omega
    subst this
    rfl
  | w + 1, x, h => by
    rw [plain_succ, app_cons, app_map2, app_plain w (x / 2) (by rw [Nat.pow_succ] at h; omega)]
    apply Nat.eq_of_testBit_eq
    intro i
    rw [Nat.testBit_xor]
    cases i with
    | zero =>
      rw [tb_two]
      cases x.testBit 0 <;> simp
    | succ i =>
      rw [tb_two]
      have : (x / 2).testBit (i + 1 - 1) = x.testBit (i + 1) := Nat.testBit_div_two x i
      rw [this]
      have o : Nat.testBit 1 (i + 1) = false := by
        have := Nat.testBit_two_pow (n := 0) (m := i + 1)
        simpa using this
      split <;> simp [o]
theorem plain_len (w : Nat) : (plain w).length = w := by simp [plain]
theorem plain_mem {w x : Nat} : x ∈ plain w ↔ ∃ i, i < w ∧ x = 2 ^ i := by
  unfold plain
  simp only [List.mem_map, List.mem_range]
  constructor
  · rintro ⟨i, h, e⟩
    exact ⟨i, h, e.symm⟩
  · rintro ⟨i, h, e⟩
    exact ⟨i, h, e.symm⟩
theorem app_map (f : Nat → Nat) (f0 : f 0 = 0) (fx : ∀ x y, f (x ^^^ y) = f x ^^^ f y) : ∀ (rs : List Nat) (x : Nat), app (rs.map f) x = f (app rs x)
  | [], _ => by simp [app, f0]
  | r :: rs, x => by
    rw [List.map_cons, app_cons, app_cons, fx, app_map f f0 fx rs]
    split
    · rfl
    · rw [f0]
theorem app_app (rs ss : List Nat) (x : Nat) : app (rs.map (app ss)) x = app ss (app rs x) := app_map (app ss) (app_zero ss) (app_xor ss) rs x
def Sp (B : List Nat) (x : Nat) : Prop := ∃ m, app B m = x
theorem Sp.zero (B : List Nat) : Sp B 0 := ⟨0, app_zero B⟩
theorem Sp.xor {B : List Nat} {x y : Nat} (a : Sp B x) (b : Sp B y) : Sp B (x ^^^ y) := by
  obtain ⟨m, rfl⟩ := a
  obtain ⟨n, rfl⟩ := b
  exact ⟨m ^^^ n, app_xor B m n⟩
theorem Sp.nil {x : Nat} : Sp [] x ↔ x = 0 := ⟨fun ⟨_, h⟩ => h.symm, fun h => ⟨0, h.symm⟩⟩
theorem Sp.cons {a : Nat} {B : List Nat} {x : Nat} : Sp (a :: B) x ↔ Sp B x ∨ Sp B (x ^^^ a) := by
  constructor
  · rintro ⟨m, e⟩
    rw [app_cons] at e
    cases z : m.testBit 0 with
    | false =>
      rw [z] at e
      simp at e
      exact .inl ⟨_, e⟩
    | true =>
      rw [z] at e
      simp at e
      refine .inr ⟨m / 2, ?_⟩
      rw [← e, Nat.xor_comm a, xor_cancel_right]
  · rintro (⟨m, e⟩ | ⟨m, e⟩)
    · refine ⟨2 * m, ?_⟩
      rw [app_cons]
      have : (2 * m).testBit 0 = false := by simp
      rw [this, Nat.mul_div_cancel_left _ (by decide)]
      simpa using e
    · refine ⟨2 * m + 1, ?_⟩
      rw [app_cons]
      have : (2 * m + 1).testBit 0 = true := by simp
      have h2 : (2 * m + 1) / 2 = m := by omega
      rw [this, h2, e, if_pos rfl, Nat.xor_comm x, xor_self_left]
theorem Sp.head (a : Nat) (B : List Nat) : Sp (a :: B) a := Sp.cons.mpr (.inr (by rw [Nat.xor_self]; exact .zero B))
theorem Sp.tail {a : Nat} {B : List Nat} {x : Nat} (h : Sp B x) : Sp (a :: B) x := Sp.cons.mpr (.inl h)
theorem Sp.mem {a : Nat} : ∀ {B : List Nat}, a ∈ B → Sp B a
  | b :: B, h => by
    rcases List.mem_cons.mp h with e | h
    · rw [e]
      exact .head b B
    · exact (Sp.mem h).tail
theorem Sp.sub {C : List Nat} : ∀ {B : List Nat} {x : Nat}, (∀ b ∈ B, Sp C b) → Sp B x → Sp C x
  | [], x, _, h => by
    rw [Sp.nil.mp h]
    exact .zero C
  | b :: B, x, g, h => by
    rcases Sp.cons.mp h with h | h
    · exact Sp.sub (fun c hc => g c (List.mem_cons_of_mem _ hc)) h
    · have := (Sp.sub (fun c hc => g c (List.mem_cons_of_mem _ hc)) h).xor (g b List.mem_cons_self)
      rwa [xor_cancel_right] at this
theorem Sp.mono {B C : List Nat} {x : Nat} (s : ∀ b ∈ B, b ∈ C) (h : Sp B x) : Sp C x := h.sub fun b hb => .mem (s b hb)
theorem Sp.perm {B C : List Nat} (p : B.Perm C) {x : Nat} : Sp B x ↔ Sp C x := ⟨.mono fun b hb => p.mem_iff.mp hb, .mono fun b hb => p.mem_iff.mpr hb⟩
theorem Sp.lt {w : Nat} {B : List Nat} {x : Nat} (h : ∀ b ∈ B, b < 2 ^ w) (s : Sp B x) : x < 2 ^ w := by
  obtain ⟨m, rfl⟩ := s
  exact app_lt m h
theorem Sp.bit {i : Nat} : ∀ {B : List Nat} {x : Nat}, (∀ c ∈ B, c.testBit i = false) → Sp B x → x.testBit i = false
  | [], x, _, h => by
    rw [Sp.nil.mp h]
    simp
  | b :: B, x, g, h => by
    rcases Sp.cons.mp h with h | h
    · exact Sp.bit (fun c hc => g c (List.mem_cons_of_mem _ hc)) h
    · have := Sp.bit (fun c hc => g c (List.mem_cons_of_mem _ hc)) h
      rw [Nat.testBit_xor, g b List.mem_cons_self] at this
      simpa using this
def RR (B : List Nat) : Prop := (∀ b ∈ B, b ≠ 0) ∧ B.Pairwise fun a b => a.testBit b.log2 = false ∧ b.testBit a.log2 = false
theorem RR.nil : RR [] := ⟨fun _ h => by simp at h, .nil⟩
theorem RR.cons {b : Nat} {B : List Nat} : RR (b :: B) ↔ b ≠ 0 ∧ (∀ c ∈ B, b.testBit c.log2 = false ∧ c.testBit b.log2 = false) ∧ RR B := by
  unfold RR
  rw [List.pairwise_cons]
  constructor
  · rintro ⟨h1, h2, h3⟩
    exact ⟨h1 b List.mem_cons_self, h2, fun c hc => h1 c (List.mem_cons_of_mem _ hc), h3⟩
  · rintro ⟨h1, h2, h3, h4⟩
    refine ⟨fun c hc => ?_, h2, h4⟩
    rcases List.mem_cons.mp hc with e | hc
    · rw [e]
      exact h1
    · exact h3 c hc
theorem RR.perm {B C : List Nat} (p : B.Perm C) (h : RR B) : RR C := ⟨fun c hc => h.1 c (p.mem_iff.mpr hc), (p.pairwise_iff fun z => ⟨z.2, z.1⟩).mp h.2⟩
theorem RR.nodup {B : List Nat} (h : RR B) : B.Nodup := by
  have h1 := h.1
  have h2 := h.2
  refine List.Pairwise.imp_of_mem (fun {a b} ha _ z e => ?_) h2
  rw [← e, Nat.testBit_log2 (h1 a ha)] at z
  cases z.1
theorem RR.top {B : List Nat} (h : RR B) {a b : Nat} (ha : a ∈ B) (hb : b ∈ B) : a.testBit b.log2 = decide (a = b) := by
  by_cases e : a = b
  · subst e
    simp [Nat.testBit_log2 (h.1 a ha)]
  · rw [decide_eq_false e]
    revert ha hb
    induction B with
    | nil => intro ha; simp at ha
    | cons c B ih =>
      intro ha hb
      obtain ⟨_, h2, h3⟩ := RR.cons.mp h
      rcases List.mem_cons.mp ha with ea | ha <;> rcases List.mem_cons.mp hb with eb | hb
      · exact absurd (ea.trans eb.symm) e
      · rw [ea]
        exact (h2 b hb).1
      · rw [eb]
        exact (h2 a ha).2
      · exact ih h3 ha hb
def rst (l b : Nat) : Nat := if l.testBit b.log2 then l ^^^ b else l
def red (x : Nat) (B : List Nat) : Nat := B.foldl rst x
theorem red_cons (x b : Nat) (B : List Nat) : red x (b :: B) = red (rst x b) B := rfl
theorem red_keep {i : Nat} : ∀ {B : List Nat} (x : Nat), (∀ c ∈ B, c.testBit i = false) → (red x B).testBit i = x.testBit i
  | [], _, _ => rfl
  | b :: B, x, h => by
    rw [red_cons, red_keep _ fun c hc => h c (List.mem_cons_of_mem _ hc)]
    unfold rst
    split
    · rw [Nat.testBit_xor, h b List.mem_cons_self]
      simp
    · rfl
theorem red_top : ∀ {B : List Nat} (x : Nat), RR B → ∀ b ∈ B, (red x B).testBit b.log2 = false
  | b :: B, x, h, c, hc => by
    obtain ⟨h1, h2, h3⟩ := RR.cons.mp h
    rw [red_cons]
    rcases List.mem_cons.mp hc with e | hc
    · rw [e, red_keep _ fun d hd => (h2 d hd).2]
      unfold rst
      split
      · rename_i z
        rw [Nat.testBit_xor, z, Nat.testBit_log2 h1]
        rfl
      · rename_i z
        simpa using z
    · exact red_top _ h3 c hc
theorem red_sp : ∀ (B : List Nat) (x : Nat), Sp B (x ^^^ red x B)
  | [], x => by
    show Sp [] (x ^^^ x)
    rw [Nat.xor_self]
    exact .zero _
  | b :: B, x => by
    rw [red_cons]
    have h := (red_sp B (rst x b)).tail (a := b)
    by_cases z : x.testBit b.log2 = true
    · have e : rst x b = x ^^^ b := if_pos z
      rw [e] at h ⊢
      have := h.xor (Sp.head b B)
      have q : x ^^^ b ^^^ red (x ^^^ b) B ^^^ b = x ^^^ red (x ^^^ b) B := by
        rw [Nat.xor_assoc x b, Nat.xor_comm b, Nat.xor_assoc, xor_cancel_right]
      rwa [q] at this
    · have e : rst x b = x := if_neg z
      rw [e] at h ⊢
      exact h
theorem RR.indep : ∀ {B : List Nat} {y : Nat}, RR B → Sp B y → (∀ b ∈ B, y.testBit b.log2 = false) → y = 0
  | [], y, _, h, _ => Sp.nil.mp h
  | b :: B, y, h, s, t => by
    obtain ⟨h1, h2, h3⟩ := RR.cons.mp h
    rcases Sp.cons.mp s with s | s
    · exact RR.indep h3 s fun c hc => t c (List.mem_cons_of_mem _ hc)
    · have z := Sp.bit (i := b.log2) (fun c hc => (h2 c hc).2) s
      rw [Nat.testBit_xor, t b List.mem_cons_self, Nat.testBit_log2 h1] at z
      cases z
theorem red_zero {B : List Nat} (h : RR B) {x : Nat} : red x B = 0 ↔ Sp B x := by
  constructor
  · intro e
    have := red_sp B x
    rwa [e, Nat.xor_zero] at this
  · intro s
    have q := s.xor (red_sp B x)
    rw [xor_self_left] at q
    exact h.indep q (red_top x h)
theorem red_lt {w : Nat} {B : List Nat} {x : Nat} (h : ∀ b ∈ B, b < 2 ^ w) (hx : x < 2 ^ w) : red x B < 2 ^ w := by
  have := Nat.xor_lt_two_pow hx ((red_sp B x).lt h)
  rwa [xor_self_left] at this
theorem log2_xor {a b : Nat} (ha : a ≠ 0) (h : b.log2 < a.log2) : (a ^^^ b).log2 = a.log2 := log2_of (by rw [Nat.testBit_xor, Nat.testBit_log2 ha, log2_bit h]; rfl) fun j hj => by
  rw [Nat.testBit_xor, log2_bit hj, log2_bit (Nat.lt_trans h hj)]
  rfl
theorem RR.spTop : ∀ {B : List Nat} {s : Nat}, RR B → Sp B s → s ≠ 0 → ∃ b ∈ B, s.log2 = b.log2
  | [], s, _, h, n => absurd (Sp.nil.mp h) n
  | b :: B, s, h, sp, n => by
    obtain ⟨h1, h2, h3⟩ := RR.cons.mp h
    rcases Sp.cons.mp sp with q | q
    · obtain ⟨c, hc, e⟩ := RR.spTop h3 q n
      exact ⟨c, List.mem_cons_of_mem _ hc, e⟩
    · by_cases z : s ^^^ b = 0
      · rw [xor_eq_zero z]
        exact ⟨b, List.mem_cons_self, rfl⟩
      · obtain ⟨c, hc, e⟩ := RR.spTop h3 q z
        have es : s = b ^^^ (s ^^^ b) := by rw [Nat.xor_comm s, xor_self_left]
        have ne : b.log2 ≠ c.log2 := fun q => by
          have := (h2 c hc).1
          rw [← q, Nat.testBit_log2 h1] at this
          cases this
        rcases Nat.lt_or_gt_of_ne ne with l | l
        · refine ⟨c, List.mem_cons_of_mem _ hc, ?_⟩
          rw [es, Nat.xor_comm, log2_xor z (by omega), e]
        · refine ⟨b, List.mem_cons_self, ?_⟩
          have := log2_xor h1 (b := s ^^^ b) (by omega)
          rw [← es] at this
          exact this
theorem red_least {B : List Nat} (h : RR B) {x y : Nat} (s : Sp B (x ^^^ y)) : red x B ≤ y := by
  have q : Sp B (red x B ^^^ y) := by
    have := (red_sp B x).xor s
    have e : x ^^^ red x B ^^^ (x ^^^ y) = red x B ^^^ y := by
      rw [Nat.xor_comm x (red x B), Nat.xor_assoc, xor_self_left]
    rwa [e] at this
  by_cases z : red x B ^^^ y = 0
  · exact Nat.le_of_eq (xor_eq_zero z)
  · obtain ⟨b, hb, e⟩ := h.spTop q z
    have t := red_top x h b hb
    rw [← e] at t
    refine Nat.le_of_lt (nlt_of_bit t ?_ fun j hj => ?_)
    · have := Nat.testBit_log2 z
      rw [Nat.testBit_xor, t] at this
      simpa using this
    · have := log2_bit hj
      rw [Nat.testBit_xor] at this
      cases p : (red x B).testBit j <;> cases p2 : y.testBit j <;> rw [p, p2] at this <;> first | rfl | cases this
theorem RR.uniq {B C : List Nat} (hB : RR B) (hC : RR C) (h : ∀ y, Sp B y ↔ Sp C y) : B.Perm C := by
  have half : ∀ {B C : List Nat}, RR B → RR C → (∀ y, Sp B y ↔ Sp C y) → ∀ a, a ∈ B → a ∈ C := fun {B C} hB hC h a ha => by
    obtain ⟨c, hc, e⟩ := hC.spTop ((h a).mp (.mem ha)) (hB.1 a ha)
    have q : a ^^^ c = 0 := hB.indep ((Sp.mem ha).xor ((h c).mpr (.mem hc))) fun b hb => by
      rw [Nat.testBit_xor, hB.top ha hb]
      obtain ⟨d, hd, e2⟩ := hC.spTop ((h b).mp (.mem hb)) (hB.1 b hb)
      rw [e2, hC.top hc hd]
      by_cases z : a = b
      · have : c = d := by
          subst z
          have := hC.top hc hd
          rw [← e2, e, Nat.testBit_log2 (hC.1 c hc)] at this
          exact of_decide_eq_true this.symm
        simp [z, this]
      · have : c ≠ d := fun y => by
          subst y
          have t := hB.top ha hb
          rw [e2, ← e, Nat.testBit_log2 (hB.1 a ha)] at t
          exact z (of_decide_eq_true t.symm)
        simp [z, this]
    rw [xor_eq_zero q]
    exact hc
  exact (List.perm_ext_iff_of_nodup hB.nodup hC.nodup).mpr fun a => ⟨half hB hC h a, half hC hB (fun y => (h y).symm) a⟩
def cst (l o : Nat) : Nat := if o.testBit l.log2 then o ^^^ l else o
def bst (F : List Nat) (x : Nat) : List Nat := if red x F = 0 then F else F.map (cst (red x F)) ++ [red x F]
def bas (xs : List Nat) : List Nat := xs.foldl bst []
theorem cst_log2 {l o : Nat} (hl : l ≠ 0) (ho : o ≠ 0) (h : l.testBit o.log2 = false) : (cst l o).log2 = o.log2 ∧ cst l o ≠ 0 := by
  unfold cst
  split
  · rename_i z
    have a := log2_ge z
    have b : l.log2 ≠ o.log2 := fun e => by
      rw [← e, Nat.testBit_log2 hl] at h
      cases h
    have c := log2_xor ho (b := l) (by omega)
    refine ⟨c, ne_of_bit (i := o.log2) ?_⟩
    rw [Nat.testBit_xor, Nat.testBit_log2 ho, h]
    rfl
  · exact ⟨rfl, ho⟩
theorem cst_top {l o : Nat} (hl : l ≠ 0) : (cst l o).testBit l.log2 = false := by
  unfold cst
  split
  · rename_i z
    rw [Nat.testBit_xor, z, Nat.testBit_log2 hl]
    rfl
  · rename_i z
    simpa using z
theorem RR.cst {F : List Nat} {l : Nat} (h : RR F) (hl : l ≠ 0) (ht : ∀ b ∈ F, l.testBit b.log2 = false) : RR (F.map (cst l) ++ [l]) := by
  refine ⟨fun b hb => ?_, ?_⟩
  · rcases List.mem_append.mp hb with hb | hb
    · obtain ⟨o, ho, rfl⟩ := List.mem_map.mp hb
      exact (cst_log2 hl (h.1 o ho) (ht o ho)).2
    · simp at hb
      rw [hb]
      exact hl
  · refine List.pairwise_append.mpr ⟨List.pairwise_map.mpr (List.Pairwise.imp_of_mem (fun {a b} ha hb z => ?_) h.2), List.pairwise_singleton _ _, fun a ha b hb => ?_⟩
    · rw [(cst_log2 hl (h.1 a ha) (ht a ha)).1, (cst_log2 hl (h.1 b hb) (ht b hb)).1]
      have q : ∀ u v : Nat, u.testBit v.log2 = false → l.testBit v.log2 = false → (Gf.cst l u).testBit v.log2 = false := fun u v h1 h2 => by
        unfold Gf.cst
        split
        · rw [Nat.testBit_xor, h1, h2]
          rfl
        · exact h1
      exact ⟨q a b z.1 (ht b hb), q b a z.2 (ht a ha)⟩
    · obtain ⟨o, ho, rfl⟩ := List.mem_map.mp ha
      simp at hb
      rw [hb, (cst_log2 hl (h.1 o ho) (ht o ho)).1]
      exact ⟨cst_top hl, ht o ho⟩
theorem sp_cst {F : List Nat} {l y : Nat} : Sp (F.map (cst l) ++ [l]) y ↔ Sp (l :: F) y := by
  constructor
  · refine .sub fun b hb => ?_
    rcases List.mem_append.mp hb with hb | hb
    · obtain ⟨o, ho, rfl⟩ := List.mem_map.mp hb
      unfold cst
      split
      · exact (Sp.mem ho).tail.xor (.head l F)
      · exact (Sp.mem ho).tail
    · simp at hb
      rw [hb]
      exact .head l F
  · refine .sub fun b hb => ?_
    have L : Sp (F.map (cst l) ++ [l]) l := .mem (by simp)
    rcases List.mem_cons.mp hb with e | hb
    · rw [e]
      exact L
    · have q : Sp (F.map (cst l) ++ [l]) (cst l b) := .mem (List.mem_append_left _ (List.mem_map_of_mem hb))
      unfold cst at q
      split at q
      · have := q.xor L
        rwa [xor_cancel_right] at this
      · exact q
theorem RR.bst {F : List Nat} (h : RR F) (x : Nat) : RR (bst F x) := by
  unfold Gf.bst
  split
  · exact h
  · rename_i z
    exact h.cst z (red_top x h)
theorem sp_bst {F : List Nat} (h : RR F) {x y : Nat} : Sp (bst F x) y ↔ Sp (x :: F) y := by
  unfold bst
  split
  · rename_i z
    refine ⟨.tail, .sub fun b hb => ?_⟩
    rcases List.mem_cons.mp hb with e | hb
    · rw [e]
      exact (red_zero h).mp z
    · exact .mem hb
  · rw [sp_cst]
    have q : Sp F (x ^^^ red x F) := red_sp F x
    constructor
    · refine .sub fun b hb => ?_
      rcases List.mem_cons.mp hb with e | hb
      · rw [e]
        have := q.tail (a := x) |>.xor (.head x F)
        have e2 : x ^^^ red x F ^^^ x = red x F := by rw [Nat.xor_comm x, xor_cancel_right]
        rwa [e2] at this
      · exact (Sp.mem hb).tail
    · refine .sub fun b hb => ?_
      rcases List.mem_cons.mp hb with e | hb
      · rw [e]
        have := q.tail (a := red x F) |>.xor (.head _ F)
        rwa [xor_cancel_right] at this
      · exact (Sp.mem hb).tail
theorem bas_go : ∀ (xs F : List Nat), RR F → RR (xs.foldl bst F) ∧ ∀ y, Sp (xs.foldl bst F) y ↔ Sp (xs ++ F) y
  | [], F, h => ⟨h, fun _ => .rfl⟩
  | x :: xs, F, h => by
    obtain ⟨h1, h2⟩ := bas_go xs (bst F x) (h.bst x)
    refine ⟨h1, fun y => ?_⟩
    rw [List.foldl_cons, h2]
    have up : ∀ b ∈ xs ++ bst F x, Sp (x :: xs ++ F) b := fun b hb => by
      rcases List.mem_append.mp hb with hb | hb
      · exact .mem (by simp [hb])
      · exact ((sp_bst h).mp (.mem hb)).mono fun c hc => by
          rcases List.mem_cons.mp hc with e | hc
          · simp [e]
          · simp [hc]
    have dn : ∀ b ∈ x :: xs ++ F, Sp (xs ++ bst F x) b := fun b hb => by
      have go : Sp (bst F x) b → Sp (xs ++ bst F x) b := .mono fun c hc => List.mem_append_right _ hc
      rcases List.mem_append.mp hb with hb | hb
      · rcases List.mem_cons.mp hb with e | hb
        · rw [e]
          exact .mono (fun c hc => List.mem_append_right _ hc) ((sp_bst h).mpr (.head x F))
        · exact .mem (List.mem_append_left _ hb)
      · exact go ((sp_bst h).mpr (Sp.mem hb).tail)
    exact ⟨.sub up, .sub dn⟩
theorem bas_rr (xs : List Nat) : RR (bas xs) := (bas_go xs [] .nil).1
theorem bas_sp (xs : List Nat) (y : Nat) : Sp (bas xs) y ↔ Sp xs y := by
  have := (bas_go xs [] .nil).2 y
  rwa [List.append_nil] at this
def All (w : Nat) (B : List Nat) : Prop := ∀ x, x < 2 ^ w → Sp B x
theorem plain_rr (w : Nat) : RR (plain w) := by
  refine ⟨fun b hb => ?_, ?_⟩
  · obtain ⟨i, _, e⟩ := plain_mem.mp hb
    rw [e]
    exact Nat.ne_of_gt (Nat.two_pow_pos i)
  · unfold plain
    refine List.pairwise_map.mpr (List.Pairwise.imp (fun {a b} h => ?_) (List.pairwise_lt_range (n := w)))
    rw [Nat.log2_two_pow, Nat.log2_two_pow, Nat.testBit_two_pow, Nat.testBit_two_pow]
    constructor <;> (apply decide_eq_false; omega)
theorem plain_all (w : Nat) : All w (plain w) := fun x h => ⟨x, app_plain w x h⟩
theorem plain_lt {w : Nat} : ∀ b ∈ plain w, b < 2 ^ w := fun b hb => by
  obtain ⟨i, h, e⟩ := plain_mem.mp hb
  rw [e]
  exact Nat.pow_lt_pow_right (by decide) h
theorem RR.full {w : Nat} {B : List Nat} (h : RR B) (lt : ∀ b ∈ B, b < 2 ^ w) (a : All w B) : B.length = w := by
  have := (h.uniq (plain_rr w) fun y => ⟨fun s => plain_all w y (s.lt lt), fun s => a y (s.lt plain_lt)⟩).length_eq
  rw [this, plain_len]
theorem RR.tops {B : List Nat} (h : RR B) : (B.map Nat.log2).Nodup := by
  refine List.pairwise_map.mpr (List.Pairwise.imp_of_mem (fun {a b} ha hb z e => ?_) h.2)
  rw [← e, Nat.testBit_log2 (h.1 a ha)] at z
  cases z.1
theorem cover {w : Nat} {l : List Nat} (hn : l.Nodup) (lt : ∀ x ∈ l, x < w) (hw : w ≤ l.length) : ∀ i, i < w → i ∈ l := fun i hi => by
  apply Classical.byContradiction
  intro n
  have : (i :: l).Nodup := List.nodup_cons.mpr ⟨n, hn⟩
  have := this.length_le_of_subset (l₂ := List.range w) fun x hx => by
    rcases List.mem_cons.mp hx with e | hx
    · rw [e]
      simpa using hi
    · simpa using lt x hx
  simp at this
  omega
theorem RR.all {w : Nat} {B : List Nat} (h : RR B) (lt : ∀ b ∈ B, b < 2 ^ w) (hw : w ≤ B.length) : All w B := fun x hx => by
  rw [← red_zero h]
  apply Nat.eq_of_testBit_eq
  intro i
  rw [Nat.zero_testBit]
  by_cases hi : i < w
  · have := cover h.tops (fun t ht => by
      obtain ⟨b, hb, rfl⟩ := List.mem_map.mp ht
      exact (Nat.log2_lt (h.1 b hb)).mpr (lt b hb)) (by simpa using hw) i hi
    obtain ⟨b, hb, e⟩ := List.mem_map.mp this
    rw [← e]
    exact red_top x h b hb
  · exact bit_big (red_lt lt hx) (by omega)
theorem RR.len_le {w : Nat} {B : List Nat} (h : RR B) (lt : ∀ b ∈ B, b < 2 ^ w) : B.length ≤ w := by
  have := h.tops.length_le_of_subset (l₂ := List.range w) fun x hx => by
    obtain ⟨b, hb, rfl⟩ := List.mem_map.mp hx
    simpa using (Nat.log2_lt (h.1 b hb)).mpr (lt b hb)
  simpa using this
end Gf
namespace Mm
open PySem L2
section
variable {α β : Type} {env : Envr} {S S1 S2 : Sto} {i j : Nat} {d d1 d2 : D} {a b : ME} {c t u : MT} {s s1 s2 : MS} {m : MA}
@[simp] theorem bind_ok' (x : α) (S : Sto) (f : α → Sto → R β) : (R.ok x S).bind f = f x S := rfl
@[simp] theorem bind_exc' (c : Str) (p : Option D) (S : Sto) (f : α → Sto → R β) : (R.exc c p S : R α).bind f = .exc c p S := rfl
@[simp] theorem out_ok' (x : α) (S : Sto) (env : Envr) (f : α → Sto → Out) : (R.ok x S).out env f = f x S := rfl
@[simp] theorem out_exc' (c : Str) (p : Option D) (S : Sto) (env : Envr) (f : α → Sto → Out) : (R.exc c p S : R α).out env f = .exc c p env S := rfl
@[simp] theorem opt_some' (x : α) (S : Sto) : opt (some x) S = .ok x S := rfl
@[simp] theorem mFrz_eq (mf : MF) (env : Envr) (S : Sto) : mFrz mf env S = (mf env S).bind fun c S1 => .ok c.d S1 := rfl
@[simp] theorem d_lst (xs : List D) : (Cell.lst xs).d = .lst xs := rfl
@[simp] theorem d_ins (c : Str) (xs : List (Str × D)) : (Cell.ins c xs).d = .ins c xs := rfl
@[simp] theorem r_val (d : D) : (Ret.val d).d = d := rfl
@[simp] theorem r_own (d : Cell) : (Ret.own d).d = d.d := rfl
@[simp] theorem eV_eq (i : Nat) (env : Envr) (S : Sto) : eV i env S = (match env[i]? with
  | some (.v d) => .ok d S
  | _ => .stuck) := rfl
@[simp] theorem eC_eq (d : D) (env : Envr) (S : Sto) : eC d env S = .ok d S := rfl
@[simp] theorem eOp_eq (f : Sto → D → D → Option D) (ma mb : ME) (env : Envr) (S : Sto) : eOp f ma mb env S = ((ma env S).bind fun d1 S1 => (mb env S1).bind fun d2 S2 => opt (f S2 d1 d2) S2) := rfl
@[simp] theorem eUn_eq (f : Sto → D → Option D) (ma : ME) (env : Envr) (S : Sto) : eUn f ma env S = ((ma env S).bind fun d1 S1 => opt (f S1 d1) S1) := rfl
@[simp] theorem fNeg_eq (S : Sto) (i : Int) : fNeg S (.int i) = some (.int (-i)) := rfl
@[simp] theorem cB_eq (me : ME) (env : Envr) (S : Sto) : cB me env S = ((me env S).bind fun d S1 => match d with
  | .bl k => .ok k S1
  | _ => .stuck) := rfl
@[simp] theorem cAnd_eq (a b : MT) (env : Envr) (S : Sto) : cAnd a b env S = ((a env S).bind fun k S1 => if k = true then b env S1 else .ok false S1) := rfl
@[simp] theorem cOr_eq (a b : MT) (env : Envr) (S : Sto) : cOr a b env S = ((a env S).bind fun k S1 => if k = true then .ok true S1 else b env S1) := rfl
@[simp] theorem cNot_eq (a : MT) (env : Envr) (S : Sto) : cNot a env S = ((a env S).bind fun k S1 => .ok (!k) S1) := rfl
@[simp] theorem cYes_eq (env : Envr) (S : Sto) : cYes env S = .ok true S := rfl
@[simp] theorem eIf_eq (t : MT) (a b : ME) (env : Envr) (S : Sto) : eIf t a b env S = ((t env S).bind fun k S1 => if k = true then a env S1 else b env S1) := rfl
@[simp] theorem eAnd_eq (a b : ME) (env : Envr) (S : Sto) : eAnd a b env S = ((a env S).bind fun d S1 => match d with
  | .bl true => b env S1
  | .bl false => .ok (.bl false) S1
  | _ => .stuck) := rfl
@[simp] theorem eOr_eq (a b : ME) (env : Envr) (S : Sto) : eOr a b env S = ((a env S).bind fun d S1 => match d with
  | .bl true => .ok (.bl true) S1
  | .bl false => b env S1
  | _ => .stuck) := rfl
@[simp] theorem aNil_eq (env : Envr) (S : Sto) : aNil env S = .ok [] S := rfl
@[simp] theorem aCons_eq (ma : ME) (mr : MA) (env : Envr) (S : Sto) : aCons ma mr env S = ((ma env S).bind fun d S1 => (mr env S1).bind fun ds S2 => .ok (d :: ds) S2) := rfl
@[simp] theorem eTup_eq (m : MA) (env : Envr) (S : Sto) : eTup m env S = ((m env S).bind fun ds S1 => if szB ds.length then .ok (.tup ds) S1 else .stuck) := rfl
@[simp] theorem fLst_eq (m : MA) (env : Envr) (S : Sto) : fLst m env S = ((m env S).bind fun ds S1 => if szB ds.length then .ok (.lst ds) S1 else .stuck) := rfl
@[simp] theorem eCall_eq (f : MFn) (dd : List D) (m : MA) (env : Envr) (S : Sto) : eCall f dd m env S = ((m env S).bind fun ds S1 => (f (ds ++ dd) S1).bind fun r S2 => .ok r.d S2) := rfl
@[simp] theorem fCall_eq (f : MFn) (dd : List D) (m : MA) (env : Envr) (S : Sto) : fCall f dd m env S = ((m env S).bind fun ds S1 => (f (ds ++ dd) S1).bind rOwn) := rfl
@[simp] theorem rOwn_own (c : Cell) (S : Sto) : rOwn (.own c) S = .ok c S := rfl
@[simp] theorem sNil_eq (env : Envr) (S : Sto) : sNil env S = .nx env S := rfl
@[simp] theorem sSeq_eq (a b : MS) (env : Envr) (S : Sto) : sSeq a b env S = (match a env S with
  | .nx e S1 => b e S1
  | o => o) := rfl
@[simp] theorem sExpr_eq (me : ME) (env : Envr) (S : Sto) : sExpr me env S = (me env S).out env fun _ S1 => .nx env S1 := rfl
@[simp] theorem sRet_eq (me : ME) (env : Envr) (S : Sto) : sRet me env S = (me env S).out env fun d S1 => .rt (.val d) S1 := rfl
@[simp] theorem sRetF_eq (mf : MF) (env : Envr) (S : Sto) : sRetF mf env S = (mf env S).out env fun c S1 => .rt (.own c) S1 := rfl
@[simp] theorem sRetO_eq (i : Nat) (env : Envr) (S : Sto) : sRetO i env S = (match env[i]? with
  | some (.o c) => .rt (.own c) S
  | some (.v d) => .rt (.val d) S
  | _ => .stuck) := rfl
@[simp] theorem sIf_eq (c : MT) (a b : MS) (env : Envr) (S : Sto) : sIf c a b env S = (c env S).out env fun k S1 => if k = true then a env S1 else b env S1 := rfl
@[simp] theorem gN_eq (i : Nat) (d : D) (env : Envr) : gN i d env = some (env.set i (.v d)) := rfl
@[simp] theorem gN0_eq (env : Envr) : gN0 [] env = some env := rfl
@[simp] theorem gNC_eq (a : MG) (b : MGs) (d : D) (ds : List D) (env : Envr) : gNC a b (d :: ds) env = (a d env).bind fun e => b ds e := rfl
@[simp] theorem gT_eq (b : MGs) (ds : List D) (env : Envr) : gT b (.tup ds) env = b ds env := rfl
@[simp] theorem sAsg_eq (me : ME) (mg : MG) (env : Envr) (S : Sto) : sAsg me mg env S = (me env S).out env fun d S1 => match mg d env with
  | some e => .nx e S1
  | none => .stuck := rfl
@[simp] theorem sOwn_eq (i : Nat) (mf : MF) (env : Envr) (S : Sto) : sOwn i mf env S = (mf env S).out env fun c S1 => if i < env.length then .nx (env.set i (.o c)) S1 else .stuck := rfl
@[simp] theorem sPar_eq (i j : Nat) (m : MA) (env : Envr) (S : Sto) : sPar i j m env S = (m env S).out env fun ds S1 => match ds with
  | [d1, d2] => .nx ((env.set i (.v d1)).set j (.v d2)) S1
  | _ => .stuck := rfl
@[simp] theorem sFor_eq (mi : MI) (g : MG) (b : MS) (env : Envr) (S : Sto) : sFor mi g b env S = (mi env S).out env fun ds S1 => forL g b ds env S1 := rfl
@[simp] theorem fLc_eq (mi : MI) (g : MG) (tt : MT) (te : ME) (vs : List Nat) (env : Envr) (S : Sto) : fLc mi g tt te vs env S = (mi env S).bind fun ds S1 => (lcR g tt te (wipeE env vs) ds S1).bind fin := rfl
@[simp] theorem fin_eq (ys : List D) (S : Sto) : fin ys S = if szB ys.length then .ok (.lst ys) S else .stuck := rfl
@[simp] theorem startE_eq (n : Nat) (ds : List D) : startE n ds = ds.map Sl.v ++ List.replicate (n - ds.length) .no := rfl
@[simp] theorem mFn_eq (n : Nat) (m : MS) (ds : List D) (S : Sto) : mFn n m ds S = (match m (startE n ds) S with
  | .nx _ S1 => .ok (.val .non) S1
  | .rt r S1 => .ok r S1
  | .exc c p _ S1 => .exc c p S1
  | _ => .stuck) := rfl
@[simp] theorem itL_eq (me : ME) (env : Envr) (S : Sto) : itL me env S = (me env S).bind fun d S1 => match d with
  | .lst ds => .ok ds S1
  | .tup ds => .ok ds S1
  | _ => .stuck := rfl
@[simp] theorem itR1_eq (m : MA) (env : Envr) (S : Sto) : itR1 m env S = (m env S).bind fun ds S1 => match ds with
  | [.int j] => if rgB j then .ok (rngD 0 j.toNat) S1 else .stuck
  | _ => .stuck := rfl
@[simp] theorem itES_eq (m : MA) (env : Envr) (S : Sto) : itES m env S = (m env S).bind fun ds S1 => match ds with
  | [.lst ds] => .ok (enumD 0 ds) S1
  | [.tup ds] => .ok (enumD 0 ds) S1
  | _ => .stuck := rfl
@[simp] theorem eCB_eq (f : Sto → List D → Option D) (m : MA) (env : Envr) (S : Sto) : eCB f m env S = (m env S).bind fun ds S1 => opt (f S1 ds) S1 := rfl
@[simp] theorem fCB_eq (f : Sto → List D → Option Cell) (m : MA) (env : Envr) (S : Sto) : fCB f m env S = (m env S).bind fun ds S1 => opt (f S1 ds) S1 := rfl
@[simp] theorem fLen_lst (S : Sto) (ds : List D) : fLen S [.lst ds] = some (.int ds.length) := rfl
@[simp] theorem fLen_tup (S : Sto) (ds : List D) : fLen S [.tup ds] = some (.int ds.length) := rfl
@[simp] theorem fListOf_lst (S : Sto) (ds : List D) : fListOf S [.lst ds] = some (.lst ds) := rfl
@[simp] theorem fListOf_tup (S : Sto) (ds : List D) : fListOf S [.tup ds] = some (.lst ds) := rfl
@[simp] theorem fTupOf_lst (S : Sto) (ds : List D) : fTupOf S [.lst ds] = some (.tup ds) := rfl
@[simp] theorem fTupOf_tup (S : Sto) (ds : List D) : fTupOf S [.tup ds] = some (.tup ds) := rfl
theorem fSorted_lst (S : Sto) (ds : List D) : fSorted S [.lst ds] = (intsOf ds).map fun ns => .lst ((isrt ns).map D.int) := rfl
@[simp] theorem fInt_int (S : Sto) (i : Int) : fInt S [.int i] = some (.int i) := rfl
@[simp] theorem fInt_bl (S : Sto) (b : Bool) : fInt S [.bl b] = some (.int (if b then 1 else 0)) := rfl
@[simp] theorem eBits_eq (me : ME) (env : Envr) (S : Sto) : eBits me env S = (me env S).bind fun d S1 => match d with
  | .int i => .ok (.int (Builtin.Int.intBits i : Nat)) S1
  | _ => .stuck := rfl
@[simp] theorem iAdd_eq (S : Sto) (i j : Int) : iAdd S (.int i) (.int j) = some (.int (i + j)) := rfl
@[simp] theorem iSub_eq (S : Sto) (i j : Int) : iSub S (.int i) (.int j) = some (.int (i - j)) := rfl
@[simp] theorem iMul_eq (S : Sto) (i j : Int) : iMul S (.int i) (.int j) = if mulB i j then some (.int (i * j)) else none := rfl
@[simp] theorem iDiv_eq (S : Sto) (i j : Int) : iDiv S (.int i) (.int j) = if divB i j then some (.int (i.fdiv j)) else none := rfl
@[simp] theorem iMod_eq (S : Sto) (i j : Int) : iMod S (.int i) (.int j) = if decide (j ≠ 0) then some (.int (i.fmod j)) else none := rfl
@[simp] theorem iPow_eq (S : Sto) (i j : Int) : iPow S (.int i) (.int j) = if powB i j then some (.int (i ^ j.toNat)) else none := rfl
@[simp] theorem iShl_eq (S : Sto) (i j : Int) : iShl S (.int i) (.int j) = if powB i j then some (.int (i * 2 ^ j.toNat)) else none := rfl
@[simp] theorem iShr_eq (S : Sto) (i j : Int) : iShr S (.int i) (.int j) = if decide (0 ≤ j) then some (.int (i / 2 ^ j.toNat)) else none := rfl
@[simp] theorem iAnd_eq (S : Sto) (i j : Int) : iAnd S (.int i) (.int j) = some (.int (Builtin.bitAnd i j)) := rfl
@[simp] theorem iXor_eq (S : Sto) (i j : Int) : iXor S (.int i) (.int j) = some (.int (Builtin.bitXor i j)) := rfl
@[simp] theorem iLt_eq (S : Sto) (i j : Int) : iLt S (.int i) (.int j) = some (.bl (decide (i < j))) := rfl
@[simp] theorem iLe_eq (S : Sto) (i j : Int) : iLe S (.int i) (.int j) = some (.bl (decide (i ≤ j))) := rfl
@[simp] theorem iGt_eq (S : Sto) (i j : Int) : iGt S (.int i) (.int j) = some (.bl (decide (j < i))) := rfl
@[simp] theorem iGe_eq (S : Sto) (i j : Int) : iGe S (.int i) (.int j) = some (.bl (decide (j ≤ i))) := rfl
@[simp] theorem dAdd_int (S : Sto) (i j : Int) : dAdd S (.int i) (.int j) = some (.int (i + j)) := rfl
@[simp] theorem dAdd_lst (S : Sto) (xs ys : List D) : dAdd S (.lst xs) (.lst ys) = if szB (xs.length + ys.length) then some (.lst (xs ++ ys)) else none := by
  show (none : Option D).or (fCatD S (.lst xs) (.lst ys)) = _
  show (none : Option D).or ((if szB (xs.length + ys.length) then some (Cell.lst (xs ++ ys)) else none).map Cell.d) = _
  cases szB (xs.length + ys.length) <;> rfl
@[simp] theorem fCat_lst (S : Sto) (xs ys : List D) : fCat S (.lst xs) (.lst ys) = if szB (xs.length + ys.length) then some (.lst (xs ++ ys)) else none := rfl
@[simp] theorem fIx_lst (S : Sto) (xs : List D) (i : Int) : fIx S (.lst xs) (.int i) = atI xs i := rfl
@[simp] theorem fIx_tup (S : Sto) (xs : List D) (i : Int) : fIx S (.tup xs) (.int i) = atI xs i := rfl
@[simp] theorem fIx_ref (S : Sto) (n : Nat) (i : Int) : fIx S (.ref n) (.int i) = (match S[n]? with
    | some (.lst xs) => atI xs i
    | _ => none) := rfl
@[simp] theorem fIs_non (S : Sto) (d : D) : fIs S d .non = some (.bl d.isN) := rfl
@[simp] theorem fIsNot_non (S : Sto) (d : D) : fIsNot S d .non = some (.bl (!d.isN)) := rfl
@[simp] theorem isN_non : D.isN .non = true := rfl
@[simp] theorem isN_int (i : Int) : D.isN (.int i) = false := rfl
@[simp] theorem oNone_eq (env : Envr) (S : Sto) : oNone env S = .ok none S := rfl
@[simp] theorem oSome_eq (me : ME) (env : Envr) (S : Sto) : oSome me env S = (me env S).bind fun d S1 => match d with
  | .int i => .ok (some i) S1
  | _ => .stuck := rfl
@[simp] theorem fSl_eq (me : ME) (ml mh : MO) (env : Envr) (S : Sto) : fSl me ml mh env S = (me env S).bind fun d S1 => (ml env S1).bind fun lo S2 => (mh env S2).bind fun hi S3 => match d with
  | .lst ds => .ok (.lst (cutD ds lo hi)) S3
  | .scr ns => .ok (.lst (cutD (ns.map D.int) lo hi)) S3
  | _ => .stuck := rfl
@[simp] theorem sApp_eq (i : Nat) (me : ME) (env : Envr) (S : Sto) : sApp i me env S = (match env[i]? with
  | some (.o (.lst ds)) => (me env S).out env fun d S1 => if szB (ds.length + 1) then .nx (env.set i (.o (.lst (ds ++ [d])))) S1 else .stuck
  | _ => .stuck) := rfl
@[simp] theorem sIns_eq (i : Nat) (mk me : ME) (env : Envr) (S : Sto) : sIns i mk me env S = (match env[i]? with
  | some (.o (.lst ds)) => (mk env S).out env fun k S1 => (me env S1).out env fun d S2 => match k with
    | .int k => if decide (0 ≤ k) && (bBnd k 9223372036854775807 && szB (ds.length + 1)) then .nx (env.set i (.o (.lst (ds.take k.toNat ++ [d] ++ ds.drop k.toNat)))) S2 else .stuck
    | _ => .stuck
  | _ => .stuck) := rfl
@[simp] theorem sPut_eq (i : Nat) (mk me : ME) (env : Envr) (S : Sto) : sPut i mk me env S = (me env S).out env fun d S1 => match env[i]? with
  | some (.o (.lst ds)) => (mk env S1).out env fun k S2 => (match k with
    | .int k => (match ixN ds.length k with
      | some j => .nx (env.set i (.o (.lst (ds.set j d)))) S2
      | none => .stuck)
    | _ => .stuck)
  | some (.v (.ref n)) => (mk env S1).out env fun k S2 => (match S2[n]?, k with
    | some (.lst ds), .int k => (match ixN ds.length k with
      | some j => .nx env (S2.set n (.lst (ds.set j d)))
      | none => .stuck)
    | _, _ => .stuck)
  | _ => .stuck := rfl
@[simp] theorem sAug_eq (i : Nat) (f : Int → Int → Int) (me : ME) (env : Envr) (S : Sto) : sAug i f me env S = (match env[i]? with
  | some (.v (.int k)) => (me env S).out env fun d S1 => (match d with
    | .int j => .nx (env.set i (.v (.int (f k j)))) S1
    | _ => .stuck)
  | _ => .stuck) := rfl
@[simp] theorem sRaise_eq (c : Str) (env : Envr) (S : Sto) : sRaise c env S = .exc c none env S := rfl
@[simp] theorem eFld_eq (c f : Str) (me : ME) (env : Envr) (S : Sto) : eFld c f me env S = (me env S).bind fun d S1 => match insOf c S1 d with
  | some fs => opt (fs.lookup f) S1
  | none => .stuck := rfl
@[simp] theorem insOf_ins (c c' : Str) (S : Sto) (fs : List (Str × D)) : insOf c S (.ins c' fs) = if c' = c then some fs else none := rfl
@[simp] theorem insOf_ref (c : Str) (S : Sto) (n : Nat) : insOf c S (.ref n) = (match S[n]? with
    | some (.ins c' fs) => if c' = c then some fs else none
    | _ => none) := rfl
@[simp] theorem sFldC_eq (c f : Str) (mo me : ME) (env : Envr) (S : Sto) : sFldC c f mo me env S = (me env S).out env fun y S1 => (mo env S1).out env fun d S2 => match d with
  | .ref n => (match S2[n]? with
    | some (.ins c' fs) => if c' = c ∧ fs.length < 1000 then .nx env (S2.set n (.ins c (putFD f y fs))) else .stuck
    | _ => .stuck)
  | _ => .stuck := rfl
@[simp] theorem mGo_eq (c x : Str) (mf : MFn) (dd : List D) (mo : ME) (m : MA) (F : Ret → Sto → R α) (env : Envr) (S : Sto) : mGo c x mf dd mo m F env S = (mo env S).bind fun o S1 => match insOf c S1 o with
  | some fs => if fs.lookup x = none then (m env S1).bind fun ds S2 => (mf (o :: (ds ++ dd)) S2).bind F else .stuck
  | none => .stuck := rfl
@[simp] theorem eMeth_eq (c x : Str) (mf : MFn) (dd : List D) (mo : ME) (m : MA) (env : Envr) (S : Sto) : eMeth c x mf dd mo m env S = mGo c x mf dd mo m (fun r S => .ok r.d S) env S := rfl
@[simp] theorem fMeth_eq (c x : Str) (mf : MFn) (dd : List D) (mo : ME) (m : MA) (env : Envr) (S : Sto) : fMeth c x mf dd mo m env S = mGo c x mf dd mo m rOwn env S := rfl
@[simp] theorem eNew_eq (c : Str) (mf : MFn) (dd : List D) (m : MA) (env : Envr) (S : Sto) : eNew c mf dd m env S = (m env S).bind fun ds S1 => popI c S1 (mf (.ref S1.length :: (ds ++ dd)) (S1 ++ [.ins c []])) := rfl
@[simp] theorem sCell_eq (i : Nat) (mf : MF) (env : Envr) (S : Sto) : sCell i mf env S = (mf env S).out env fun c S1 => .nx (env.set i (.v (.ref S1.length))) (S1 ++ [c]) := rfl
@[simp] theorem frzAt_eq (i : Nat) (env : Envr) : frzAt i env = (match env[i]? with
  | some (.o c) => env.set i (.v c.d)
  | _ => env) := rfl
@[simp] theorem sFrz_eq (i : Nat) (m : MS) (env : Envr) (S : Sto) : sFrz i m env S = m (frzAt i env) S := rfl
@[simp] theorem sAugC_eq (mo mk : ME) (f : Int → Int → Int) (me : ME) (env : Envr) (S : Sto) : sAugC mo mk f me env S = (mo env S).out env fun o S1 => (mk env S1).out env fun k S2 => match o, k with
  | .ref n, .int k => (match S2[n]? with
    | some (.lst ds) => (match atI ds k with
      | some (.int x) => (me env S2).out env fun d S3 => (match d, S3[n]? with
        | .int y, some (.lst ds') => (match ixN ds'.length k with
          | some j => .nx env (S3.set n (.lst (ds'.set j (.int (f x y)))))
          | none => .stuck)
        | _, _ => .stuck)
      | _ => .stuck)
    | _ => .stuck)
  | _, _ => .stuck := rfl
@[simp] theorem eLenA_eq (i : Nat) (env : Envr) (S : Sto) : eLenA i env S = (match env[i]? with
  | some (.o (.lst ds)) => .ok (.int ds.length) S
  | some (.v d) => opt (fLen S [d]) S
  | _ => .stuck) := rfl
@[simp] theorem eIxA_eq (i : Nat) (mk : ME) (env : Envr) (S : Sto) : eIxA i mk env S = (match env[i]? with
  | some (.o (.lst ds)) => (mk env S).bind fun k S1 => (match k with
    | .int k => opt (atI ds k) S1
    | _ => .stuck)
  | some (.v d) => (mk env S).bind fun k S1 => opt (fIx S1 d k) S1
  | _ => .stuck) := rfl
end
theorem forL_inv {I : List D → Envr → Sto → Prop} {g : MG} {b : MS} (step : ∀ d ds env S, I (d :: ds) env S → ∃ e1, g d env = some e1 ∧ ∃ e2 S2, (b e1 S = .nx e2 S2 ∨ b e1 S = .ct e2 S2) ∧ I ds e2 S2) :
    ∀ (ds : List D) (env : Envr) (S : Sto), I ds env S → ∃ e' S', forL g b ds env S = .nx e' S' ∧ I [] e' S'
  | [], env, S, h => ⟨env, S, rfl, h⟩
  | d :: ds, env, S, h => by
    obtain ⟨e1, h1, e2, S2, h2, h3⟩ := step d ds env S h
    unfold forL
    rw [h1]
    rcases h2 with h2 | h2 <;> (simp only [h2]; exact forL_inv step ds e2 S2 h3)
theorem lcR_map {g : MG} {tt : MT} {te : ME} {env : Envr} {S : Sto} (p : D → Bool) (f : D → D) : ∀ (ds : List D), (∀ d ∈ ds, ∃ e1, g d env = some e1 ∧ tt e1 S = .ok (p d) S ∧ (p d = true → te e1 S = .ok (f d) S)) →
    lcR g tt te env ds S = .ok ((ds.filter p).map f) S
  | [], _ => rfl
  | d :: ds, h => by
    obtain ⟨e1, h1, h2, h3⟩ := h d List.mem_cons_self
    have ih := lcR_map p f ds fun x hx => h x (List.mem_cons_of_mem _ hx)
    unfold lcR
    rw [h1]
    cases z : p d with
    | true => simp only [h2, z, h3 z, ih, bind_ok', List.filter_cons, if_true, List.map_cons]
    | false => simp [h2, z, ih, List.filter_cons]
theorem lcR_inv {I : List D → List D → Sto → Prop} {g : MG} {te : ME} {env : Envr} (step : ∀ d ds ys S, I (d :: ds) ys S → ∃ e1, g d env = some e1 ∧ ∃ y S2, te e1 S = .ok y S2 ∧ I ds (ys ++ [y]) S2) :
    ∀ (ds ys : List D) (S : Sto), I ds ys S → ∃ zs S', lcR g cYes te env ds S = .ok zs S' ∧ I [] (ys ++ zs) S'
  | [], ys, S, h => ⟨[], S, rfl, by rwa [List.append_nil]⟩
  | d :: ds, ys, S, h => by
    obtain ⟨e1, h1, y, S2, h2, h3⟩ := step d ds ys S h
    obtain ⟨zs, S', h4, h5⟩ := lcR_inv step ds (ys ++ [y]) S2 h3
    refine ⟨y :: zs, S', ?_, by simpa using h5⟩
    unfold lcR
    rw [h1]
    simp [h2, h4]
@[simp] theorem band_nat (a b : Nat) : Builtin.bitAnd (a : Int) (b : Int) = ((a &&& b : Nat) : Int) := by simp [Builtin.bitAnd]
@[simp] theorem bxor_nat (a b : Nat) : Builtin.bitXor (a : Int) (b : Int) = ((a ^^^ b : Nat) : Int) := Bits.bitXor_pp (Int.natCast_nonneg a) (Int.natCast_nonneg b) |>.trans (by simp)
theorem bits_nat {n : Nat} (h : n ≠ 0) : Builtin.Int.intBits (n : Int) = n.log2 + 1 := by
  unfold Builtin.Int.intBits
  have : ((n : Int) == 0) = false := by simpa using h
  rw [this]
  simp
@[simp] theorem shr_nat (a k : Nat) : (a : Int) / 2 ^ k = ((a >>> k : Nat) : Int) := by
  rw [Nat.shiftRight_eq_div_pow]
  simp
abbrev nd (n : Nat) : D := .int (n : Int)
def nl (xs : List Nat) : List D := xs.map nd
@[simp] theorem nl_nil : nl [] = [] := rfl
@[simp] theorem nl_cons (x : Nat) (xs : List Nat) : nl (x :: xs) = .int (x : Int) :: nl xs := rfl
@[simp] theorem nl_len (xs : List Nat) : (nl xs).length = xs.length := by simp [nl]
@[simp] theorem nl_append (xs ys : List Nat) : nl xs ++ nl ys = nl (xs ++ ys) := by simp [nl]
theorem szB_of {n : Nat} (h : n ≤ 100000) : szB n = true := decide_eq_true h
end Mm
namespace Gf
theorem Sp.image (f : Nat → Nat) (f0 : f 0 = 0) (fx : ∀ x y, f (x ^^^ y) = f x ^^^ f y) {B : List Nat} {x : Nat} (h : Sp B x) : Sp (B.map f) (f x) := by
  obtain ⟨m, rfl⟩ := h
  exact ⟨m, app_map f f0 fx B m⟩
theorem Sp.append {A B : List Nat} {x : Nat} (h : Sp (A ++ B) x) : ∃ u v, Sp A u ∧ Sp B v ∧ x = u ^^^ v := by
  induction A generalizing x with
  | nil => exact ⟨0, x, .zero _, h, by simp⟩
  | cons a A ih =>
    rcases Sp.cons.mp h with h | h
    · obtain ⟨u, v, h1, h2, e⟩ := ih h
      exact ⟨u, v, h1.tail, h2, e⟩
    · obtain ⟨u, v, h1, h2, e⟩ := ih h
      refine ⟨u ^^^ a, v, h1.tail.xor (.head a A), h2, ?_⟩
      have := congrArg (· ^^^ a) e
      simp only [xor_cancel_right] at this
      rw [this, Nat.xor_assoc, Nat.xor_comm v a, ← Nat.xor_assoc]
theorem RR.inj : ∀ {B : List Nat} {c : Nat}, RR B → c < 2 ^ B.length → app B c = 0 → c = 0
  | [], c, _, hc, _ => by simpa using hc
  | b :: B, c, h, hc, e => by
    obtain ⟨h1, h2, h3⟩ := RR.cons.mp h
    rw [app_cons] at e
    rw [List.length_cons, Nat.pow_succ] at hc
    cases z : c.testBit 0 with
    | true =>
      rw [z] at e
      have e2 : b = app B (c / 2) := xor_eq_zero (by simpa using e)
      have : Sp B b := ⟨_, e2.symm⟩
      have := Sp.bit (i := b.log2) (fun d hd => (h2 d hd).2) this
      rw [Nat.testBit_log2 h1] at this
      cases this
    | false =>
      rw [z] at e
      have := RR.inj h3 (c := c / 2) (by omega) (by simpa using e)
      have : c % 2 = 0 := by
        have q := Nat.testBit_zero c
        rw [z] at q
        have := of_decide_eq_false q.symm
        omega
      omega
abbrev PP := Nat × Nat
def tst (s p : PP) : PP := if s.1.testBit p.1.log2 then (s.1 ^^^ p.1, s.2 ^^^ p.2) else s
def tred (s : PP) (F : List PP) : PP := F.foldl tst s
theorem tred_fst : ∀ (F : List PP) (s : PP), (tred s F).1 = red s.1 (F.map (·.1))
  | [], _ => rfl
  | p :: F, s => by
    show (tred (tst s p) F).1 = red (rst s.1 p.1) (F.map (·.1))
    rw [tred_fst F]
    unfold tst rst
    split <;> rfl
theorem tred_rel {rs : List Nat} : ∀ {F : List PP} {s : PP}, (∀ p ∈ F, app rs p.2 = p.1) → app rs (tred s F).2 ^^^ (tred s F).1 = app rs s.2 ^^^ s.1
  | [], _, _ => rfl
  | p :: F, s, h => by
    show app rs (tred (tst s p) F).2 ^^^ (tred (tst s p) F).1 = _
    rw [tred_rel fun q hq => h q (List.mem_cons_of_mem _ hq)]
    unfold tst
    split
    · show app rs (s.2 ^^^ p.2) ^^^ (s.1 ^^^ p.1) = _
      rw [app_xor, h p List.mem_cons_self]
      apply Nat.eq_of_testBit_eq
      intro i
      simp only [Nat.testBit_xor]
      cases (app rs s.2).testBit i <;> cases s.1.testBit i <;> cases p.1.testBit i <;> rfl
    · rfl
theorem tred_sp : ∀ (F : List PP) (s : PP), Sp (F.map (·.2)) (s.2 ^^^ (tred s F).2)
  | [], s => by
    show Sp [] (s.2 ^^^ s.2)
    rw [Nat.xor_self]
    exact .zero _
  | p :: F, s => by
    have h := (tred_sp F (tst s p)).tail (a := p.2)
    show Sp (p.2 :: F.map (·.2)) (s.2 ^^^ (tred (tst s p) F).2)
    by_cases z : s.1.testBit p.1.log2 = true
    · have e : (tst s p).2 = s.2 ^^^ p.2 := by
        unfold tst
        rw [if_pos z]
      rw [e] at h
      have := h.xor (Sp.head p.2 (F.map (·.2)))
      have q : ∀ a b c : Nat, a ^^^ b ^^^ c ^^^ b = a ^^^ c := fun a b c => by rw [Nat.xor_assoc a b c, Nat.xor_comm b c, ← Nat.xor_assoc, xor_cancel_right]
      rwa [q] at this
    · have e : tst s p = s := by
        unfold tst
        rw [if_neg z]
      rw [e] at h ⊢
      exact h
abbrev TS2 := List PP × List Nat
def wst (l p : PP) : PP := if p.1.testBit l.1.log2 then (p.1 ^^^ l.1, p.2 ^^^ l.2) else p
def tstep (st : TS2) (k x : Nat) : TS2 := if (tred (x, 2 ^ k) st.1).1 = 0 then (st.1, st.2 ++ [(tred (x, 2 ^ k) st.1).2]) else (tred (x, 2 ^ k) st.1 :: st.1.map (wst (tred (x, 2 ^ k) st.1)), st.2)
def tgo : List Nat → Nat → TS2 → TS2
  | [], _, st => st
  | x :: xs, k, st => tgo xs (k + 1) (tstep st k x)
def tra (rs : List Nat) : TS2 := tgo rs 0 ([], [])
structure TOk (rs : List Nat) (k : Nat) (st : TS2) : Prop where
  rr : RR (st.1.map (·.1))
  fs : ∀ p ∈ st.1, app rs p.2 = p.1 ∧ p.2 < 2 ^ k
  is_ : ∀ m ∈ st.2, app rs m = 0 ∧ m < 2 ^ k
  sp : ∀ x, x < 2 ^ k → Sp (st.1.map (·.2) ++ st.2) x
  len : st.1.length + st.2.length = k
theorem TOk.step {rs : List Nat} {k x : Nat} {st : TS2} (h : TOk rs k st) (hx : app rs (2 ^ k) = x) : TOk rs (k + 1) (tstep st k x) := by
  have kk : 2 ^ k < 2 ^ (k + 1) := Nat.pow_lt_pow_right (by decide) (by omega)
  have e1 := tred_fst st.1 (x, 2 ^ k)
  have e2 := tred_rel (rs := rs) (F := st.1) (s := (x, 2 ^ k)) fun p hp => (h.fs p hp).1
  have e3 := tred_sp st.1 (x, 2 ^ k)
  have l2 : (tred (x, 2 ^ k) st.1).2 < 2 ^ (k + 1) := by
    have q := Sp.lt (w := k + 1) (fun b hb => by
      obtain ⟨p, hp, rfl⟩ := List.mem_map.mp hb
      exact Nat.lt_trans (h.fs p hp).2 kk) e3
    have := Nat.xor_lt_two_pow kk q
    rwa [xor_self_left] at this
  have e4 : app rs (tred (x, 2 ^ k) st.1).2 = (tred (x, 2 ^ k) st.1).1 := by
    have : app rs (2 ^ k) ^^^ x = 0 := by rw [hx, Nat.xor_self]
    exact xor_eq_zero (e2.trans this)
  generalize hl : tred (x, 2 ^ k) st.1 = l at *
  have split' : ∀ (C : List Nat), (∀ c ∈ st.1.map (·.2) ++ st.2, Sp C c) → Sp C l.2 → ∀ y, y < 2 ^ (k + 1) → Sp C y := fun C hC hl2 y hy => by
    have hk : Sp C (2 ^ k) := by
      have := (Sp.sub (fun b hb => hC b (List.mem_append_left _ hb)) e3).xor hl2
      rwa [xor_cancel_right] at this
    have low : ∀ z, z < 2 ^ k → Sp C z := fun z hz => Sp.sub hC (h.sp z hz)
    by_cases b : y.testBit k = true
    · have : y ^^^ 2 ^ k < 2 ^ k := lt_of_bits fun i hi => by
        rw [Nat.testBit_xor, Nat.testBit_two_pow]
        by_cases ei : k = i
        · subst ei
          simp [b]
        · rw [bit_big hy (by omega)]
          simp [ei]
      have := (low _ this).xor hk
      rwa [xor_cancel_right] at this
    · refine low y (lt_of_bits fun i hi => ?_)
      by_cases ei : k = i
      · subst ei
        simpa using b
      · exact bit_big hy (by omega)
  unfold tstep
  rw [hl]
  split
  · rename_i z
    refine ⟨h.rr, fun p hp => ⟨(h.fs p hp).1, Nat.lt_trans (h.fs p hp).2 kk⟩, fun m hm => ?_, ?_, ?_⟩
    · rcases List.mem_append.mp hm with hm | hm
      · exact ⟨(h.is_ m hm).1, Nat.lt_trans (h.is_ m hm).2 kk⟩
      · simp at hm
        rw [hm, e4, z]
        exact ⟨rfl, l2⟩
    · refine split' _ (fun c hc => .mem ?_) (.mem ?_)
      · rw [← List.append_assoc]
        exact List.mem_append_left _ hc
      · simp
    · simp
      have := h.len
      omega
  · rename_i z
    have tops : ∀ b ∈ st.1.map (·.1), l.1.testBit b.log2 = false := by
      rw [e1]
      exact red_top x h.rr
    have mp : (st.1.map (wst l)).map (·.1) = (st.1.map (·.1)).map (cst l.1) := by
      rw [List.map_map, List.map_map]
      apply List.map_congr_left
      intro p _
      show (wst l p).1 = cst l.1 p.1
      unfold wst cst
      split <;> rfl
    refine ⟨?_, fun p hp => ?_, fun m hm => ⟨(h.is_ m hm).1, Nat.lt_trans (h.is_ m hm).2 kk⟩, ?_, ?_⟩
    · rw [List.map_cons, mp]
      exact (h.rr.cst z tops).perm (by simpa using List.perm_append_comm (l₁ := (st.1.map (·.1)).map (cst l.1)) (l₂ := [l.1]))
    · rcases List.mem_cons.mp hp with e | hp
      · rw [e]
        exact ⟨e4, l2⟩
      · obtain ⟨q, hq, rfl⟩ := List.mem_map.mp hp
        have a := h.fs q hq
        unfold wst
        split
        · refine ⟨?_, Nat.xor_lt_two_pow (Nat.lt_trans a.2 kk) l2⟩
          show app rs (q.2 ^^^ l.2) = q.1 ^^^ l.1
          rw [app_xor, a.1, e4]
        · exact ⟨a.1, Nat.lt_trans a.2 kk⟩
    · have L : Sp ((l :: st.1.map (wst l)).map (·.2) ++ st.2) l.2 := .mem (by simp)
      refine split' _ (fun c hc => ?_) L
      rcases List.mem_append.mp hc with hc | hc
      · obtain ⟨q, hq, rfl⟩ := List.mem_map.mp hc
        have m : Sp ((l :: st.1.map (wst l)).map (·.2) ++ st.2) (wst l q).2 := .mem (List.mem_append_left _ (List.mem_map.mpr ⟨_, List.mem_cons_of_mem _ (List.mem_map_of_mem hq), rfl⟩))
        unfold wst at m
        split at m
        · have := m.xor L
          have e : (q.1 ^^^ l.1, q.2 ^^^ l.2).2 ^^^ l.2 = q.2 := xor_cancel_right _ _
          rwa [e] at this
        · exact m
      · exact .mem (List.mem_append_right _ hc)
    · simp
      have := h.len
      omega
theorem tgo_ok {rs : List Nat} : ∀ (xs : List Nat) (k : Nat) (st : TS2), TOk rs k st → rs.drop k = xs → k ≤ rs.length → TOk rs rs.length (tgo xs k st)
  | [], k, st, h, e, hk => by
    have : rs.length ≤ k := by simpa using List.drop_eq_nil_iff.mp e
    have : k = rs.length := by omega
    subst this
    exact h
  | x :: xs, k, st, h, e, hk => by
    have lt : k < rs.length := by
      apply Classical.byContradiction
      intro n
      rw [List.drop_eq_nil_iff.mpr (by omega)] at e
      cases e
    have e0 : rs[k]? = some x := by
      have := congrArg (·[0]?) e
      simpa using this
    have e1 : app rs (2 ^ k) = x := by
      rw [app_pow, List.getD_eq_getElem?_getD, e0]
      rfl
    refine tgo_ok xs (k + 1) _ (h.step e1) ?_ lt
    rw [← List.drop_drop, e]
    rfl
theorem tra_ok (rs : List Nat) : TOk rs rs.length (tra rs) := tgo_ok rs 0 _ ⟨RR.nil, fun _ h => by simp at h, fun _ h => by simp at h, fun x hx => by
  have : x = 0 := by omega
  subst this
  exact .zero _, rfl⟩ rfl (Nat.zero_le _)
theorem tra_sp (rs : List Nat) (y : Nat) : Sp ((tra rs).1.map (·.1)) y ↔ Sp rs y := by
  have h := tra_ok rs
  constructor
  · refine .sub fun b hb => ?_
    obtain ⟨p, hp, rfl⟩ := List.mem_map.mp hb
    exact ⟨p.2, (h.fs p hp).1⟩
  · rintro ⟨m, e⟩
    have s := h.sp (m % 2 ^ rs.length) (Nat.mod_lt _ (Nat.two_pow_pos _))
    have := Sp.image (app rs) (app_zero rs) (app_xor rs) s
    rw [app_mod, e] at this
    refine .sub (fun b hb => ?_) this
    rw [List.map_append] at hb
    rcases List.mem_append.mp hb with hb | hb
    · rw [List.map_map] at hb
      obtain ⟨p, hp, rfl⟩ := List.mem_map.mp hb
      show Sp _ (app rs p.2)
      rw [(h.fs p hp).1]
      exact .mem (List.mem_map_of_mem hp)
    · obtain ⟨q, hq, rfl⟩ := List.mem_map.mp hb
      rw [(h.is_ q hq).1]
      exact .zero _
theorem tra_ker (rs : List Nat) {x : Nat} (hx : x < 2 ^ rs.length) : Sp (tra rs).2 x ↔ app rs x = 0 := by
  have h := tra_ok rs
  constructor
  · rintro ⟨m, e⟩
    have := app_app (tra rs).2 rs m
    rw [e] at this
    rw [← this]
    have z : Sp ((tra rs).2.map (app rs)) (app ((tra rs).2.map (app rs)) m) := ⟨m, rfl⟩
    have := Sp.sub (C := []) (fun b hb => by
      obtain ⟨q, hq, rfl⟩ := List.mem_map.mp hb
      rw [(h.is_ q hq).1]
      exact .zero _) z
    exact Sp.nil.mp this
  · intro e
    obtain ⟨u, v, hu, hv, ex⟩ := (h.sp x hx).append
    have v0 : app rs v = 0 := by
      have z := Sp.image (app rs) (app_zero rs) (app_xor rs) hv
      exact Sp.nil.mp (Sp.sub (C := []) (fun b hb => by
        obtain ⟨q, hq, rfl⟩ := List.mem_map.mp hb
        rw [(h.is_ q hq).1]
        exact .zero _) z)
    have u0 : app rs u = 0 := by
      rw [ex, app_xor, v0, Nat.xor_zero] at e
      exact e
    obtain ⟨c, ec⟩ := hu
    have ec2 : app ((tra rs).1.map (·.1)) c = 0 := by
      have := app_app ((tra rs).1.map (·.2)) rs c
      rw [ec, u0, List.map_map] at this
      have e5 : (tra rs).1.map ((app rs) ∘ (·.2)) = (tra rs).1.map (·.1) := List.map_congr_left fun p hp => (h.fs p hp).1
      rwa [e5] at this
    rw [← app_mod] at ec2
    have c0 := h.rr.inj (Nat.mod_lt _ (Nat.two_pow_pos _)) ec2
    have : u = 0 := by
      have q := app_mod ((tra rs).1.map (·.2)) c
      have ll : ((tra rs).1.map (·.2)).length = ((tra rs).1.map (·.1)).length := by simp
      rw [ll, c0, app_zero, ec] at q
      exact q.symm
    rw [ex, this, Nat.zero_xor]
    exact hv
theorem tra_lt (rs : List Nat) : ∀ m ∈ (tra rs).2, m < 2 ^ rs.length := fun m hm => ((tra_ok rs).is_ m hm).2
def trail (rs : List Nat) (x : Nat) : Option Nat := if (tred (x, 0) (tra rs).1).1 = 0 then some (tred (x, 0) (tra rs).1).2 else none
theorem trail_some {rs : List Nat} {x m : Nat} (h : trail rs x = some m) : app rs m = x ∧ m < 2 ^ rs.length := by
  unfold trail at h
  split at h
  · rename_i z
    have e := Option.some.inj h
    have r := tred_rel (rs := rs) (F := (tra rs).1) (s := (x, 0)) fun p hp => ((tra_ok rs).fs p hp).1
    rw [e, z, Nat.xor_zero, app_zero, Nat.zero_xor] at r
    refine ⟨r, ?_⟩
    have s := tred_sp (tra rs).1 (x, 0)
    rw [e, Nat.zero_xor] at s
    exact s.lt fun b hb => by
      obtain ⟨p, hp, rfl⟩ := List.mem_map.mp hb
      exact ((tra_ok rs).fs p hp).2
  · cases h
theorem trail_none {rs : List Nat} {x : Nat} : trail rs x = none ↔ ¬ Sp rs x := by
  unfold trail
  have : (tred (x, 0) (tra rs).1).1 = 0 ↔ Sp rs x := by
    rw [tred_fst, red_zero (tra_ok rs).rr]
    exact tra_sp rs x
  rw [← this]
  split
  · rename_i z
    simp [z]
  · rename_i z
    simp [z]
end Gf
namespace Fb
open PySem L2 Mm
noncomputable def m__law_box : MFn := mFn 1 (sRetF (fLst (aCons (mFrz (fCB fListOf (aCons (mFrz (fSl (eV 0) oNone (oSome (eC (.int 63))))) aNil))) (aCons (eC (.int 0)) (aCons (eC (.int 0)) (aCons (eC (.int 41)) aNil))))))
noncomputable def m__law_take : MFn := mFn 5 (sSeq (sIf (cB (eOp iGt (eOp fIx (eV 0) (eC (.int 2))) (eC (.int 0)))) (sSeq (sAsg (eOp fIx (eV 0) (eC (.int 2))) (gN 2))
    (sSeq (sPut 0 (eC (.int 2)) (eOp iDiv (eV 2) (eV 1)))
    (sRet (eOp iMod (eV 2) (eV 1))))) sNil)
    (sSeq (sAsg (eC (.int 0)) (gN 3))
    (sSeq (sIf (cB (eOp iLt (eOp fIx (eV 0) (eC (.int 1))) (eCB fLen (aCons (eOp fIx (eV 0) (eC (.int 0))) aNil)))) (sSeq (sAsg (eOp fIx (eOp fIx (eV 0) (eC (.int 0))) (eOp fIx (eV 0) (eC (.int 1)))) (gN 3))
    (sAugC (eV 0) (eC (.int 1)) (fun i j => i + j) (eC (.int 1)))) sNil)
    (sSeq (sIf (cB (eOp iGe (eV 3) (eOp iPow (eC (.int 10)) (eC (.int 18))))) (sSeq (sPut 0 (eC (.int 2)) (eOp iDiv (eV 3) (eV 1)))
    (sRet (eOp iMod (eV 3) (eV 1)))) sNil)
    (sSeq (sAsg (eOp fIx (eV 0) (eC (.int 3))) (gN 4))
    (sSeq (sPut 0 (eC (.int 3)) (eOp iMod (eOp dAdd (eOp dAdd (eOp dAdd (eOp iPow (eV 4) (eC (.int 3))) (eOp iMul (eC (.int 69621)) (eV 4))) (eOp iMul (eC (.int 40693)) (eOp iMod (eV 3) (eC (.int 2147483549))))) (eC (.int 17))) (eC (.int 2147483549))))
    (sRet (eOp iMod (eOp iDiv (eOp fIx (eV 0) (eC (.int 3))) (eC (.int 64))) (eV 1)))))))))
noncomputable def m_FoldU_initU : MFn := mFn 4 (sSeq (sIf (cOr (cB (eOp iLt (eV 2) (eC (.int 0)))) (cOr (cB (eOp iGt (eV 2) (eC (.int 12)))) (cB (eOp iGt (eCB fLen (aCons (eV 1) aNil)) (eC (.int 12)))))) (sRaise "BadFold") sNil)
    (sSeq (sFor (itL (eV 1)) (gN 3) (sIf (cOr (cB (eOp iLt (eV 3) (eC (.int 0)))) (cB (eOp iGt (eOp iShr (eV 3) (eV 2)) (eC (.int 0))))) (sRaise "BadFold") sNil))
    (sSeq (sFldC "Fold" "lines" (eV 0) (eCB fTupOf (aCons (eV 1) aNil)))
    (sFldC "Fold" "wide" (eV 0) (eV 2)))))
noncomputable def m__law_shuffled : MFn := mFn 4 (sSeq (sOwn 2 (fLst aNil))
    (sSeq (sFor (itL (eV 1)) (gN 3) (sIns 2 (eCall m__law_take [] (aCons (eV 0) (aCons (eOp dAdd (eLenA 2) (eC (.int 1))) aNil))) (eV 3)))
    (sRetO 2)))
noncomputable def m__law_numbers : MFn := mFn 4 (sRetF (fLc (itR1 (aCons (eV 1) aNil)) (gN 3) cYes (eCall m__law_take [] (aCons (eV 0) (aCons (eOp iShl (eC (.int 1)) (eV 2)) aNil))) [3]))
noncomputable def m__law_lines : MFn := mFn 9 (sSeq (sOwn 3 (fLc (itR1 (aCons (eV 2) aNil)) (gN 7) cYes (eOp iShl (eC (.int 1)) (eV 7)) [7]))
    (sFrz 3 (sSeq (sOwn 3 (fCall m__law_shuffled [] (aCons (eV 0) (aCons (eOp dAdd (eV 3) (eCall m__law_numbers [] (aCons (eV 0) (aCons (eOp iSub (eV 1) (eV 2)) (aCons (eV 2) aNil))))) aNil))))
    (sSeq (sFor (itR1 (aCons (eOp iMul (eCall m__law_take [] (aCons (eV 0) (aCons (eC (.int 7)) aNil))) (eCB fInt (aCons (eOp iGt (eV 1) (eC (.int 1))) aNil))) aNil)) (gN 4) (sSeq (sAsg (eCall m__law_take [] (aCons (eV 0) (aCons (eV 1) aNil))) (gN 5))
    (sSeq (sAsg (eOp dAdd (eOp dAdd (eV 5) (eC (.int 1))) (eCall m__law_take [] (aCons (eV 0) (aCons (eOp iSub (eV 1) (eC (.int 1))) aNil)))) (gN 6))
    (sPut 3 (eV 5) (eOp iXor (eIxA 3 (eV 5)) (eIxA 3 (eOp iMod (eV 6) (eV 1))))))))
    (sSeq (sFor (itR1 (aCons (eOp iMul (eCall m__law_take [] (aCons (eV 0) (aCons (eC (.int 4)) aNil))) (eCB fInt (aCons (eOp iGt (eV 2) (eC (.int 1))) aNil))) aNil)) (gN 4) (sSeq (sAsg (eCall m__law_take [] (aCons (eV 0) (aCons (eV 2) aNil))) (gN 5))
    (sSeq (sAsg (eOp iMod (eOp dAdd (eOp dAdd (eV 5) (eC (.int 1))) (eCall m__law_take [] (aCons (eV 0) (aCons (eOp iSub (eV 2) (eC (.int 1))) aNil)))) (eV 2)) (gN 6))
    (sFrz 3 (sOwn 3 (fLc (itL (eV 3)) (gN 8) cYes (eOp iXor (eV 8) (eOp iShl (eOp iAnd (eOp iShr (eV 8) (eV 5)) (eC (.int 1))) (eV 6))) [8]))))))
    (sFrz 3 (sRet (eCB fTupOf (aCons (eV 3) aNil)))))))))
noncomputable def m_Fold_many : MFn := mFn 1 (sRet (eCB fLen (aCons (eFld "Fold" "lines" (eV 0)) aNil)))
noncomputable def m_Fold_size : MFn := mFn 1 (sRet (eFld "Fold" "wide" (eV 0)))
noncomputable def m_blended : MFn := mFn 3 (sSeq (sAsg (eC (.int 0)) (gN 1))
    (sSeq (sFor (itL (eV 0)) (gN 2) (sAsg (eOp iXor (eV 1) (eV 2)) (gN 1)))
    (sRet (eV 1))))
noncomputable def m_picked : MFn := mFn 4 (sRet (eCall m_blended [] (aCons (mFrz (fLc (itES (aCons (eV 0) aNil)) (gT (gNC (gN 2) (gNC (gN 3) gN0))) (cB (eOp fEq (eOp iAnd (eOp iShr (eV 1) (eV 2)) (eC (.int 1))) (eC (.int 1)))) (eV 3) [2, 3])) aNil)))
noncomputable def m_Fold_to : MFn := mFn 2 (sSeq (sIf (cOr (cB (eOp iLt (eV 1) (eC (.int 0)))) (cB (eOp iGt (eOp iShr (eV 1) (eCB fLen (aCons (eFld "Fold" "lines" (eV 0)) aNil))) (eC (.int 0))))) (sRaise "BadNumber") sNil)
    (sRet (eCall m_picked [] (aCons (eFld "Fold" "lines" (eV 0)) (aCons (eV 1) aNil)))))
noncomputable def m_top_of : MFn := mFn 1 (sRet (eOp iShl (eC (.int 1)) (eOp iSub (eBits (eV 0)) (eC (.int 1)))))
noncomputable def m_reduced : MFn := mFn 4 (sSeq (sAsg (eV 0) (gN 2))
    (sSeq (sFor (itL (eV 1)) (gN 3) (sIf (cB (eOp iGt (eOp iAnd (eV 2) (eCall m_top_of [] (aCons (eV 3) aNil))) (eC (.int 0)))) (sAsg (eOp iXor (eV 2) (eV 3)) (gN 2)) sNil))
    (sRet (eV 2))))
noncomputable def m_basis_of : MFn := mFn 6 (sSeq (sAsg (mFrz (fLst aNil)) (gN 1))
    (sSeq (sFor (itL (eV 0)) (gN 2) (sSeq (sAsg (eCall m_reduced [] (aCons (eV 2) (aCons (eV 1) aNil))) (gN 3))
    (sIf (cB (eOp iGt (eV 3) (eC (.int 0)))) (sSeq (sAsg (eCall m_top_of [] (aCons (eV 3) aNil)) (gN 4))
    (sAsg (eOp dAdd (mFrz (fLc (itL (eV 1)) (gN 5) cYes (eIf (cB (eOp iGt (eOp iAnd (eV 5) (eV 4)) (eC (.int 0)))) (eOp iXor (eV 5) (eV 3)) (eV 5)) [5])) (mFrz (fLst (aCons (eV 3) aNil)))) (gN 1))) sNil)))
    (sRetF (fCB fSorted (aCons (eV 1) aNil)))))
noncomputable def m_Fold_onto : MFn := mFn 1 (sRet (eOp fEq (eCB fLen (aCons (eCall m_basis_of [] (aCons (eFld "Fold" "lines" (eV 0)) aNil)) aNil)) (eFld "Fold" "wide" (eV 0))))
noncomputable def m_traced : MFn := mFn 11 (sSeq (sAsg (mFrz (fLst aNil)) (gN 1))
    (sSeq (sOwn 2 (fLst aNil))
    (sSeq (sFor (itES (aCons (eV 0) aNil)) (gT (gNC (gN 3) (gNC (gN 4) gN0))) (sSeq (sPar 5 6 (aCons (eV 4) (aCons (eOp iShl (eC (.int 1)) (eV 3)) aNil)))
    (sSeq (sFor (itL (eV 1)) (gT (gNC (gN 7) (gNC (gN 8) gN0))) (sIf (cB (eOp iGt (eOp iAnd (eV 5) (eCall m_top_of [] (aCons (eV 7) aNil))) (eC (.int 0)))) (sPar 5 6 (aCons (eOp iXor (eV 5) (eV 7)) (aCons (eOp iXor (eV 6) (eV 8)) aNil))) sNil))
    (sIf (cB (eOp fEq (eV 5) (eC (.int 0)))) (sApp 2 (eV 6)) (sSeq (sAsg (eCall m_top_of [] (aCons (eV 5) aNil)) (gN 9))
    (sSeq (sOwn 10 (fLst (aCons (eTup (aCons (eV 5) (aCons (eV 6) aNil))) aNil)))
    (sSeq (sFor (itL (eV 1)) (gT (gNC (gN 7) (gNC (gN 8) gN0))) (sApp 10 (eIf (cB (eOp iGt (eOp iAnd (eV 7) (eV 9)) (eC (.int 0)))) (eTup (aCons (eOp iXor (eV 7) (eV 5)) (aCons (eOp iXor (eV 8) (eV 6)) aNil))) (eTup (aCons (eV 7) (aCons (eV 8) aNil))))))
    (sFrz 10 (sAsg (eV 10) (gN 1))))))))))
    (sFrz 2 (sRet (eTup (aCons (eV 1) (aCons (eV 2) aNil))))))))
noncomputable def m_trail_to : MFn := mFn 6 (sSeq (sPar 2 3 (aCons (eV 1) (aCons (eC (.int 0)) aNil)))
    (sSeq (sFor (itL (eOp fIx (eCall m_traced [] (aCons (eV 0) aNil)) (eC (.int 0)))) (gT (gNC (gN 4) (gNC (gN 5) gN0))) (sIf (cB (eOp iGt (eOp iAnd (eV 2) (eCall m_top_of [] (aCons (eV 4) aNil))) (eC (.int 0)))) (sPar 2 3 (aCons (eOp iXor (eV 2) (eV 4)) (aCons (eOp iXor (eV 3) (eV 5)) aNil))) sNil))
    (sRet (eIf (cB (eOp fEq (eV 2) (eC (.int 0)))) (eV 3) (eC .non)))))
noncomputable def m_Fold_kernel : MFn := mFn 1 (sRetF (fCall m_basis_of [] (aCons (eOp fIx (eCall m_traced [] (aCons (eFld "Fold" "lines" (eV 0)) aNil)) (eC (.int 1))) aNil)))
noncomputable def m_Fold_least : MFn := mFn 3 (sSeq (sAsg (eCall m_trail_to [] (aCons (eFld "Fold" "lines" (eV 0)) (aCons (eV 1) aNil))) (gN 2))
    (sRet (eIf (cB (eOp fIs (eV 2) (eC .non))) (eC .non) (eCall m_reduced [] (aCons (eV 2) (aCons (eMeth "Fold" "kernel" m_Fold_kernel [] (eV 0) aNil) aNil))))))
noncomputable def m_Fold_back : MFn := mFn 2 (sSeq (sIf (cNot (cB (eMeth "Fold" "onto" m_Fold_onto [] (eV 0) aNil))) (sRaise "NotOnto") sNil)
    (sRet (eNew "Fold" m_FoldU_initU [] (aCons (mFrz (fLc (itR1 (aCons (eFld "Fold" "wide" (eV 0)) aNil)) (gN 1) cYes (eMeth "Fold" "least" m_Fold_least [] (eV 0) (aCons (eOp iShl (eC (.int 1)) (eV 1)) aNil)) [1])) (aCons (eCB fLen (aCons (eFld "Fold" "lines" (eV 0)) aNil)) aNil)))))
noncomputable def m_Fold_rows : MFn := mFn 1 (sRet (eFld "Fold" "lines" (eV 0)))
end Fb
namespace Mm
open PySem L2
theorem pyAll_ints : ∀ xs : List Int, pyAll (xs.map D.int) = some (xs.map PyData.int)
  | [] => by simp [pyAll]
  | x :: xs => by simp [pyAll, D.py, pyAll_ints xs]
theorem shaped_int (x : Int) : SeqAt.shaped (.int x) = true := by simp [SeqAt.shaped, PyData.canLay0, PyData.depth]
theorem shaped_bool (x : Bool) : SeqAt.shaped (.bool x) = true := by simp [SeqAt.shaped, PyData.canLay0, PyData.depth]
@[simp] theorem fEq_int (S : Sto) (i j : Int) : fEq S (.int i) (.int j) = some (.bl (decide (i = j))) := by
  simp [fEq, D.py, shaped_int, PyData.eqv]
  rfl
@[simp] theorem fNe_int (S : Sto) (i j : Int) : fNe S (.int i) (.int j) = some (.bl (!decide (i = j))) := by
  simp [fNe, D.py, shaped_int, PyData.eqv]
  rfl
@[simp] theorem fEq_bl (S : Sto) (i j : Bool) : fEq S (.bl i) (.bl j) = some (.bl (i == j)) := by
  simp [fEq, D.py, shaped_bool, PyData.eqv]
@[simp] theorem fNe_bl (S : Sto) (i j : Bool) : fNe S (.bl i) (.bl j) = some (.bl (!(i == j))) := by
  simp [fNe, D.py, shaped_bool, PyData.eqv]
theorem nl_eq (xs : List Nat) : nl xs = (xs.map Int.ofNat).map D.int := by simp [nl]
theorem intsOf_ints : ∀ xs : List Int, intsOf (xs.map D.int) = some xs
  | [] => rfl
  | x :: xs => by simp [intsOf, intsOf_ints xs]
@[simp] theorem intsOf_nl (xs : List Nat) : intsOf (nl xs) = some (xs.map Int.ofNat) := by
  rw [nl_eq, intsOf_ints]
def nins (x : Nat) : List Nat → List Nat
  | [] => [x]
  | y :: ys => if x ≤ y then x :: y :: ys else y :: nins x ys
def nsrt : List Nat → List Nat
  | [] => []
  | x :: xs => nins x (nsrt xs)
theorem ins1_nat (x : Nat) : ∀ ys : List Nat, ins1 (Int.ofNat x) (ys.map Int.ofNat) = (nins x ys).map Int.ofNat
  | [] => rfl
  | y :: ys => by
    rw [List.map_cons, ins1, nins, ins1_nat x ys]
    by_cases h : x ≤ y
    · rw [if_pos h, if_pos (by simpa using h)]
      rfl
    · rw [if_neg h, if_neg (by simpa using h)]
      rfl
theorem isrt_nat : ∀ xs : List Nat, isrt (xs.map Int.ofNat) = (nsrt xs).map Int.ofNat
  | [] => rfl
  | x :: xs => by rw [List.map_cons, isrt, isrt_nat xs, nsrt, ins1_nat]
@[simp] theorem fSorted_nl (S : Sto) (xs : List Nat) : fSorted S [.lst (nl xs)] = some (.lst (nl (nsrt xs))) := by
  rw [fSorted_lst, intsOf_nl, Option.map_some, isrt_nat, nl_eq]
theorem nins_perm (x : Nat) : ∀ ys : List Nat, (nins x ys).Perm (x :: ys)
  | [] => .refl _
  | y :: ys => by
    unfold nins
    split
    · exact .refl _
    · exact ((nins_perm x ys).cons y).trans (.swap x y ys)
theorem nsrt_perm : ∀ xs : List Nat, (nsrt xs).Perm xs
  | [] => .refl _
  | x :: xs => (nins_perm x _).trans ((nsrt_perm xs).cons x)
@[simp] theorem nsrt_len (xs : List Nat) : (nsrt xs).length = xs.length := (nsrt_perm xs).length_eq
end Mm
namespace Fb
open PySem L2 Mm Gf
theorem nl_map {xs : List Nat} {f : D → D} {g : Nat → Nat} (h : ∀ x ∈ xs, f (nd x) = nd (g x)) : (nl xs).map f = nl (xs.map g) := by
  simp only [nl, List.map_map]
  exact List.map_congr_left fun x hx => h x hx
theorem mem_nl {d : D} {xs : List Nat} : d ∈ nl xs ↔ ∃ x ∈ xs, d = nd x := by
  unfold nl
  rw [List.mem_map]
  constructor
  · rintro ⟨x, hx, e⟩
    exact ⟨x, hx, e.symm⟩
  · rintro ⟨x, hx, e⟩
    exact ⟨x, hx, e.symm⟩
theorem and_pow_pos (l k : Nat) : decide ((0 : Int) < ((l &&& 2 ^ k : Nat) : Int)) = l.testBit k := by
  cases z : l.testBit k with
  | true =>
    have : (l &&& 2 ^ k).testBit k = true := by rw [Nat.testBit_and, z, Nat.testBit_two_pow]; simp
    have := ne_of_bit this
    exact decide_eq_true (by omega)
  | false =>
    have : l &&& 2 ^ k = 0 := Nat.eq_of_testBit_eq fun i => by
      rw [Nat.testBit_and, Nat.testBit_two_pow]
      by_cases e : k = i
      · subst e
        simp [z]
      · simp [e]
    rw [this]
    rfl
theorem powB_of {i : Int} {j : Int} (h0 : 0 ≤ j) (h1 : j ≤ 1000000) (hi : i.natAbs < 2 ^ 64) : powB i j = true := by
  unfold powB
  rw [decide_eq_true h0, bBnd_iff.mpr (show j.natAbs ≤ 1000000 by omega), bBnd_iff.mpr (show i.natAbs ≤ 18446744073709551615 by omega)]
  rfl
theorem top_ok (S : Sto) {n : Nat} (h : n ≠ 0) (hb : n.log2 ≤ 1000) : m_top_of [.int n] S = .ok (.val (nd (2 ^ n.log2))) S := by
  have e : ((n.log2 + 1 : Nat) : Int) - 1 = ((n.log2 : Nat) : Int) := by omega
  simp [m_top_of, bits_nat h]
  rw [if_pos (powB_of (by omega) (by omega) (by decide))]
  simp
theorem blended_ok (S : Sto) (xs : List Nat) : m_blended [.lst (nl xs)] S = .ok (.val (nd (xs.foldl (· ^^^ ·) 0))) S := by
  have key := forL_inv (I := fun ds env S' => S' = S ∧ ∃ (l : Nat) (bs : List Nat) (s : Sl), ds = nl bs ∧ env = [.v (.lst (nl xs)), .v (nd l), s] ∧ bs.foldl (· ^^^ ·) l = xs.foldl (· ^^^ ·) 0) (g := gN 2) (b := sAsg (eOp iXor (eV 1) (eV 2)) (gN 1))
    (fun d ds env S' h => by
      obtain ⟨rfl, l, bs, s, e1, rfl, e3⟩ := h
      cases bs with
      | nil => simp at e1
      | cons b bs =>
        simp at e1
        obtain ⟨rfl, rfl⟩ := e1
        refine ⟨_, rfl, [.v (.lst (nl xs)), .v (nd (l ^^^ b)), .v (nd b)], S', .inl ?_, rfl, _, bs, _, rfl, rfl, e3⟩
        simp) (nl xs) [.v (.lst (nl xs)), .v (nd 0), .no] S ⟨rfl, 0, xs, .no, rfl, rfl, rfl⟩
  obtain ⟨e', S', h1, rfl, l, bs, s, e1, rfl, e3⟩ := key
  have : bs = [] := by
    cases bs with
    | nil => rfl
    | cons b bs => simp at e1
  subst this
  simp [m_blended]
  have h1' : forL (gN 2) (sAsg (eOp iXor (eV 1) (eV 2)) (gN 1)) (nl xs) [.v (.lst (nl xs)), .v (.int 0), .no] S' = .nx [.v (.lst (nl xs)), .v (nd l), s] S' := h1
  rw [h1']
  simp at e3
  simp [e3]
end Fb
namespace Mm
open PySem L2
theorem forM {α β σ : Type} {g : MG} {b : MS} {S : Sto} (φ : β → D) (E : α → σ → Envr) (f : α → β → α) (P : α → Prop) : ∀ (xs : List β),
    (∀ a s x, x ∈ xs → P a → ∃ e1, g (φ x) (E a s) = some e1 ∧ ∃ s2, b e1 S = .nx (E (f a x) s2) S ∧ P (f a x)) →
    ∀ a s, P a → ∃ s2, forL g b (xs.map φ) (E a s) S = .nx (E (xs.foldl f a) s2) S ∧ P (xs.foldl f a)
  | [], _, a, s, h => ⟨s, rfl, h⟩
  | x :: xs, step, a, s, h => by
    obtain ⟨e1, h1, s2, h2, h3⟩ := step a s x List.mem_cons_self h
    obtain ⟨s3, h4, h5⟩ := forM φ E f P xs (fun a s y hy => step a s y (List.mem_cons_of_mem _ hy)) (f a x) s2 h3
    refine ⟨s3, ?_, h5⟩
    rw [List.map_cons, forL, h1]
    simp only [h2]
    exact h4
@[simp] theorem wipe_nil (env : Envr) : wipeE env [] = env.map hideS := rfl
@[simp] theorem wipe_cons (env : Envr) (v : Nat) (vs : List Nat) : wipeE env (v :: vs) = (wipeE env vs).set v .no := rfl
@[simp] theorem hide_v (d : D) : hideS (.v d) = .v d := rfl
@[simp] theorem hide_o (d : Cell) : hideS (.o d) = .no := rfl
@[simp] theorem hide_no : hideS .no = .no := rfl
end Mm
namespace Fb
open PySem L2 Mm Gf
@[simp] theorem gt_band (a k : Nat) : (0 < Builtin.bitAnd (a : Int) (2 ^ k)) ↔ a.testBit k = true := by
  have h := and_pow_pos a k
  have e : (2 : Int) ^ k = ((2 ^ k : Nat) : Int) := by simp
  rw [e, band_nat]
  rw [← h]
  simp
theorem reduced_ok (S : Sto) (x : Nat) (B : List Nat) (h : ∀ b ∈ B, b ≠ 0 ∧ b.log2 ≤ 1000) : m_reduced [.int x, .lst (nl B)] S = .ok (.val (nd (red x B))) S := by
  obtain ⟨s2, e, _⟩ := forM (S := S) (g := gN 3) (b := sIf (cB (eOp iGt (eOp iAnd (eV 2) (eCall m_top_of [] (aCons (eV 3) aNil))) (eC (.int 0)))) (sAsg (eOp iXor (eV 2) (eV 3)) (gN 2)) sNil)
    nd (fun (l : Nat) (s : Sl) => [.v (nd x), .v (.lst (nl B)), .v (nd l), s]) rst (fun _ => True) B (fun a s b hb _ => by
      refine ⟨[.v (nd x), .v (.lst (nl B)), .v (nd a), .v (nd b)], rfl, .v (nd b), ?_, trivial⟩
      simp [top_ok S (h b hb).1 (h b hb).2]
      unfold rst
      cases a.testBit b.log2 <;> simp) x .no trivial
  simp [m_reduced]
  have e' : forL (gN 3) (sIf (cB (eOp iGt (eOp iAnd (eV 2) (eCall m_top_of [] (aCons (eV 3) aNil))) (eC (.int 0)))) (sAsg (eOp iXor (eV 2) (eV 3)) (gN 2)) sNil) (nl B) [.v (.int x), .v (.lst (nl B)), .v (.int x), .no] S = _ := e
  rw [e']
  rfl
def sel (x : Nat) : Nat → List Nat → List Nat
  | _, [] => []
  | k, r :: rs => if x.testBit k then r :: sel x (k + 1) rs else sel x (k + 1) rs
theorem xor_fold : ∀ (xs : List Nat) (a : Nat), xs.foldl (· ^^^ ·) a = a ^^^ xs.foldl (· ^^^ ·) 0
  | [], a => by simp
  | x :: xs, a => by
    rw [List.foldl_cons, List.foldl_cons, xor_fold xs (a ^^^ x), xor_fold xs (0 ^^^ x), Nat.zero_xor, Nat.xor_assoc]
theorem sel_app (x : Nat) : ∀ (rs : List Nat) (k : Nat), (sel x k rs).foldl (· ^^^ ·) 0 = app rs (x / 2 ^ k)
  | [], _ => rfl
  | r :: rs, k => by
    have e : (x / 2 ^ k).testBit 0 = x.testBit k := by rw [Nat.testBit_div_two_pow]; simp
    have e2 : x / 2 ^ k / 2 = x / 2 ^ (k + 1) := by rw [Nat.div_div_eq_div_mul, Nat.pow_succ]
    rw [app_cons, e, e2, ← sel_app x rs (k + 1), sel]
    split
    · rw [List.foldl_cons, xor_fold, Nat.zero_xor]
    · rw [Nat.zero_xor]
@[simp] theorem bit_and_one (x k : Nat) : (Builtin.bitAnd ((x : Int) >>> k) 1 = 1) ↔ x.testBit k = true := by
  have e : ((x : Int) >>> k) = ((x >>> k : Nat) : Int) := rfl
  have : Builtin.bitAnd (((x >>> k : Nat) : Int)) 1 = ((x >>> k &&& 1 : Nat) : Int) := band_nat (x >>> k) 1
  rw [e, this, Nat.and_one_is_mod, Nat.testBit_eq_decide_div_mod_eq, Nat.shiftRight_eq_div_pow, decide_eq_true_eq]
  omega
theorem picked_ok (S : Sto) (rs : List Nat) (x : Nat) (hl : rs.length ≤ 1000) (a : D) (ha : a = .tup (nl rs) ∨ a = .lst (nl rs)) : m_picked [a, .int x] S = .ok (.val (nd (app rs x))) S := by
  have key : ∀ (ys : List Nat) (k : Nat), lcR (gT (gNC (gN 2) (gNC (gN 3) gN0))) (cB (eOp fEq (eOp iAnd (eOp iShr (eV 1) (eV 2)) (eC (.int 1))) (eC (.int 1)))) (eV 3) [.v a, .v (nd x), .no, .no] (enumD k (nl ys)) S = .ok (nl (sel x k ys)) S := fun ys => by
    induction ys with
    | nil => intro k; rfl
    | cons y ys ih =>
      intro k
      rw [nl_cons, enumD, lcR]
      simp [ih]
      cases z : x.testBit k <;> simp [sel, z, ih]
  have key0 := key rs 0
  have len : ∀ (ys : List Nat) (k : Nat), (sel x k ys).length ≤ ys.length := fun ys => by
    induction ys with
    | nil => intro k; simp [sel]
    | cons y ys ih =>
      intro k
      have := ih (k + 1)
      unfold sel
      split <;> simp <;> omega
  have l0 := len rs 0
  have sz := szB_of (n := (sel x 0 rs).length) (by omega)
  have b := blended_ok S (sel x 0 rs)
  rw [sel_app, Nat.pow_zero, Nat.div_one] at b
  rcases ha with rfl | rfl <;> simp [m_picked, key0, sz, b]
theorem small_log {w b : Nat} (hw : w ≤ 1000) (h0 : b ≠ 0) (h : b < 2 ^ w) : b.log2 ≤ 1000 := by
  have := (Nat.log2_lt h0).mpr h
  omega
def Small (w : Nat) (F : List Nat) : Prop := RR F ∧ ∀ b ∈ F, b < 2 ^ w
theorem Small.bst {w x : Nat} {F : List Nat} (h : Small w F) (hx : x < 2 ^ w) : Small w (bst F x) := by
  refine ⟨h.1.bst x, fun b hb => ?_⟩
  have := (sp_bst h.1).mp (Sp.mem hb)
  exact this.lt fun c hc => by
    rcases List.mem_cons.mp hc with e | hc
    · rw [e]
      exact hx
    · exact h.2 c hc
theorem basis_of_ok (S : Sto) {w : Nat} (xs : List Nat) (hw : w ≤ 1000) (h : ∀ x ∈ xs, x < 2 ^ w) (a : D) (ha : a = .tup (nl xs) ∨ a = .lst (nl xs)) : m_basis_of [a] S = .ok (.own (.lst (nl (nsrt (bas xs))))) S := by
  obtain ⟨s2, e, _⟩ := forM (S := S) (g := gN 2) (b := (sSeq (sAsg (eCall m_reduced [] (aCons (eV 2) (aCons (eV 1) aNil))) (gN 3))
    (sIf (cB (eOp iGt (eV 3) (eC (.int 0)))) (sSeq (sAsg (eCall m_top_of [] (aCons (eV 3) aNil)) (gN 4))
    (sAsg (eOp dAdd (mFrz (fLc (itL (eV 1)) (gN 5) cYes (eIf (cB (eOp iGt (eOp iAnd (eV 5) (eV 4)) (eC (.int 0)))) (eOp iXor (eV 5) (eV 3)) (eV 5)) [5])) (mFrz (fLst (aCons (eV 3) aNil)))) (gN 1))) sNil)))
    nd (fun (F : List Nat) (s : Sl × Sl × Sl) => [.v a, .v (.lst (nl F)), s.1, s.2.1, s.2.2, .no]) bst (Small w) xs (fun F s x hx hF => by
      refine ⟨[.v a, .v (.lst (nl F)), .v (nd x), s.2.1, s.2.2, .no], rfl, ?_⟩
      have r := reduced_ok S x F fun b hb => ⟨hF.1.1 b hb, small_log hw (hF.1.1 b hb) (hF.2 b hb)⟩
      have l := hF.1.len_le hF.2
      have rl : red x F < 2 ^ w := red_lt hF.2 (h x hx)
      by_cases z : red x F = 0
      · refine ⟨(.v (nd x), .v (nd (red x F)), s.2.2), ?_, hF.bst (h x hx)⟩
        have e : bst F x = F := if_pos z
        rw [e]
        simp [r, z]
      · refine ⟨(.v (nd x), .v (nd (red x F)), .v (nd (2 ^ (red x F).log2))), ?_, hF.bst (h x hx)⟩
        have e : bst F x = F.map (cst (red x F)) ++ [red x F] := if_neg z
        have t := top_ok S z (small_log hw z rl)
        have lc := lcR_map (S := S) (g := gN 5) (tt := cYes) (te := eIf (cB (eOp iGt (eOp iAnd (eV 5) (eV 4)) (eC (.int 0)))) (eOp iXor (eV 5) (eV 3)) (eV 5)) (env := [.v a, .v (.lst (nl F)), .v (nd x), .v (nd (red x F)), .v (nd (2 ^ (red x F).log2)), .no]) (fun _ => true) (fun d => match d with
          | .int i => nd (cst (red x F) i.toNat)
          | d => d) (nl F) (fun d hd => by
            obtain ⟨y, hy, rfl⟩ := mem_nl.mp hd
            refine ⟨[.v a, .v (.lst (nl F)), .v (nd x), .v (nd (red x F)), .v (nd (2 ^ (red x F).log2)), .v (nd y)], rfl, rfl, fun _ => ?_⟩
            simp
            unfold cst
            cases y.testBit (red x F).log2 <;> simp)
        rw [List.filter_eq_self.mpr (fun _ _ => rfl), nl_map (g := cst (red x F)) (fun y _ => by simp)] at lc
        have s1 := szB_of (n := F.length) (by omega)
        have s2 := szB_of (n := F.length + 1) (by omega)
        have s3 := szB_of (n := 1) (by omega)
        have pos : 0 < red x F := Nat.pos_of_ne_zero z
        simp [r, t, lc, s1, s2, s3, e, pos]
        exact nl_append _ [_]) [] (.no, .no, .no) ⟨.nil, fun _ h => by simp at h⟩
  have e' := e
  have fl : xs.foldl bst [] = bas xs := rfl
  rw [fl] at e'
  have s0 := szB_of (n := 0) (by omega)
  rcases ha with rfl | rfl <;> (simp [m_basis_of, s0]; erw [e']; simp)
end Fb
namespace Mm
open PySem L2
theorem forR {α β σ : Type} {g : MG} {b : MS} {S : Sto} (φ : β → D) (E : α → σ → Envr) (f : α → β → α) (P : List β → α → Prop) : ∀ (xs : List β),
    (∀ a s x r, P (x :: r) a → ∃ e1, g (φ x) (E a s) = some e1 ∧ ∃ s2, b e1 S = .nx (E (f a x) s2) S ∧ P r (f a x)) →
    ∀ a s, P xs a → ∃ s2, forL g b (xs.map φ) (E a s) S = .nx (E (xs.foldl f a) s2) S ∧ P [] (xs.foldl f a)
  | [], _, a, s, h => ⟨s, rfl, h⟩
  | x :: xs, step, a, s, h => by
    obtain ⟨e1, h1, s2, h2, h3⟩ := step a s x xs h
    obtain ⟨s3, h4, h5⟩ := forR φ E f P xs step (f a x) s2 h3
    refine ⟨s3, ?_, h5⟩
    rw [List.map_cons, forL, h1]
    simp only [h2]
    exact h4
theorem atI_nat {α : Type} (xs : List α) (k : Nat) : atI xs (k : Int) = xs[k]? := by
  unfold atI ixN
  rw [if_pos (Int.natCast_nonneg k)]
  by_cases h : k < xs.length
  · rw [if_pos (by omega)]
    simp
  · rw [if_neg (by omega)]
    simp
    omega
@[simp] theorem atI_0 {α : Type} (x : α) (xs : List α) : atI (x :: xs) 0 = some x := atI_nat (x :: xs) 0
@[simp] theorem atI_1 {α : Type} (x y : α) (xs : List α) : atI (x :: y :: xs) 1 = some y := atI_nat (x :: y :: xs) 1
@[simp] theorem atI_2 {α : Type} (x y z : α) (xs : List α) : atI (x :: y :: z :: xs) 2 = some z := atI_nat (x :: y :: z :: xs) 2
@[simp] theorem atI_3 {α : Type} (x y z u : α) (xs : List α) : atI (x :: y :: z :: u :: xs) 3 = some u := atI_nat (x :: y :: z :: u :: xs) 3
theorem ixN_of {n j : Nat} (hj : j < n) : ixN n (j : Int) = some j := by
  unfold ixN
  rw [if_pos (by omega), if_pos (by omega)]
  simp
end Mm
namespace Gf
def spl (B : List Nat) : List Nat := B.foldl (fun s b => s ++ s.map (· ^^^ b)) [0]
theorem spl_go : ∀ (B s : List Nat) (x : Nat), x ∈ B.foldl (fun s b => s ++ s.map (· ^^^ b)) s ↔ ∃ y ∈ s, Sp B (x ^^^ y)
  | [], s, x => by
    constructor
    · intro h
      exact ⟨x, h, by rw [Nat.xor_self]; exact .zero _⟩
    · rintro ⟨y, hy, h⟩
      rw [xor_eq_zero (Sp.nil.mp h)]
      exact hy
  | b :: B, s, x => by
    rw [List.foldl_cons, spl_go B]
    constructor
    · rintro ⟨y, hy, h⟩
      rcases List.mem_append.mp hy with hy | hy
      · exact ⟨y, hy, h.tail⟩
      · obtain ⟨z, hz, rfl⟩ := List.mem_map.mp hy
        refine ⟨z, hz, Sp.cons.mpr (.inr ?_)⟩
        rw [Nat.xor_assoc]
        exact h
    · rintro ⟨y, hy, h⟩
      rcases Sp.cons.mp h with h | h
      · exact ⟨y, List.mem_append_left _ hy, h⟩
      · refine ⟨y ^^^ b, List.mem_append_right _ (List.mem_map_of_mem hy), ?_⟩
        rw [← Nat.xor_assoc]
        exact h
theorem mem_spl {B : List Nat} {x : Nat} : x ∈ spl B ↔ Sp B x := by
  unfold spl
  rw [spl_go]
  constructor
  · rintro ⟨y, hy, h⟩
    simp at hy
    rwa [hy, Nat.xor_zero] at h
  · intro h
    exact ⟨0, by simp, by rwa [Nat.xor_zero]⟩
end Gf
namespace Fb
open PySem L2 Mm Gf
def pd (p : PP) : D := .tup [nd p.1, nd p.2]
def enumN (k : Nat) : List Nat → List PP
  | [] => []
  | x :: xs => (k, x) :: enumN (k + 1) xs
theorem enumN_eq : ∀ (xs : List Nat) (k : Nat), enumD k (nl xs) = (enumN k xs).map pd
  | [], _ => rfl
  | x :: xs, k => by
    rw [nl_cons, enumD, enumN_eq xs (k + 1)]
    rfl
theorem tgo_fold : ∀ (xs : List Nat) (k : Nat) (st : TS2), tgo xs k st = (enumN k xs).foldl (fun st p => tstep st p.1 p.2) st
  | [], _, _ => rfl
  | x :: xs, k, st => by
    rw [tgo, tgo_fold xs (k + 1)]
    rfl
theorem enumN_len : ∀ (xs : List Nat) (k : Nat), (enumN k xs).length = xs.length
  | [], _ => rfl
  | x :: xs, k => by simp [enumN, enumN_len xs (k + 1)]
theorem enumN_mem : ∀ (xs : List Nat) (k : Nat) (p : PP), p ∈ enumN k xs → k ≤ p.1 ∧ p.1 < k + xs.length ∧ p.2 ∈ xs
  | [], _, p, h => by simp [enumN] at h
  | x :: xs, k, p, h => by
    rcases List.mem_cons.mp h with e | h
    · rw [e]
      simp
    · have := enumN_mem xs (k + 1) p h
      simp
      exact ⟨by omega, by omega, .inr this.2.2⟩
noncomputable def tFor1 : MS := sFor (itL (eV 1)) (gT (gNC (gN 7) (gNC (gN 8) gN0))) (sIf (cB (eOp iGt (eOp iAnd (eV 5) (eCall m_top_of [] (aCons (eV 7) aNil))) (eC (.int 0)))) (sPar 5 6 (aCons (eOp iXor (eV 5) (eV 7)) (aCons (eOp iXor (eV 6) (eV 8)) aNil))) sNil)
theorem tFor1_ok (S : Sto) {F : List PP} (hF : ∀ p ∈ F, p.1 ≠ 0 ∧ p.1.log2 ≤ 1000) (a s2 s3 s4 s7 s8 s9 s10 : Sl) (l m : Nat) : ∃ s7' s8', tFor1 [a, .v (.lst (F.map pd)), s2, s3, s4, .v (nd l), .v (nd m), s7, s8, s9, s10] S =
    .nx [a, .v (.lst (F.map pd)), s2, s3, s4, .v (nd (tred (l, m) F).1), .v (nd (tred (l, m) F).2), s7', s8', s9, s10] S := by
  obtain ⟨q, e, _⟩ := forM (S := S) (g := gT (gNC (gN 7) (gNC (gN 8) gN0))) (b := sIf (cB (eOp iGt (eOp iAnd (eV 5) (eCall m_top_of [] (aCons (eV 7) aNil))) (eC (.int 0)))) (sPar 5 6 (aCons (eOp iXor (eV 5) (eV 7)) (aCons (eOp iXor (eV 6) (eV 8)) aNil))) sNil)
    pd (fun (p : PP) (q : Sl × Sl) => [a, .v (.lst (F.map pd)), s2, s3, s4, .v (nd p.1), .v (nd p.2), q.1, q.2, s9, s10]) tst (fun _ => True) F (fun p q x hx _ => by
      refine ⟨[a, .v (.lst (F.map pd)), s2, s3, s4, .v (nd p.1), .v (nd p.2), .v (nd x.1), .v (nd x.2), s9, s10], rfl, (.v (nd x.1), .v (nd x.2)), ?_, trivial⟩
      simp [top_ok S (hF x hx).1 (hF x hx).2]
      unfold tst
      cases p.1.testBit x.1.log2 <;> simp) (l, m) (s7, s8) trivial
  refine ⟨q.1, q.2, ?_⟩
  have e' := e
  simp [tFor1]
  exact e
noncomputable def tFor2 : MS := sFor (itL (eV 1)) (gT (gNC (gN 7) (gNC (gN 8) gN0))) (sApp 10 (eIf (cB (eOp iGt (eOp iAnd (eV 7) (eV 9)) (eC (.int 0)))) (eTup (aCons (eOp iXor (eV 7) (eV 5)) (aCons (eOp iXor (eV 8) (eV 6)) aNil))) (eTup (aCons (eV 7) (aCons (eV 8) aNil)))))
theorem app_fold (l : PP) : ∀ (F G : List PP), F.foldl (fun G p => G ++ [wst l p]) G = G ++ F.map (wst l)
  | [], G => by simp
  | p :: F, G => by
    rw [List.foldl_cons, app_fold l F]
    simp
theorem tFor2_ok (S : Sto) {F : List PP} (hF : F.length ≤ 1000) (a s2 s3 s4 s7 s8 : Sl) (l : PP) : ∃ s7' s8', tFor2 [a, .v (.lst (F.map pd)), s2, s3, s4, .v (nd l.1), .v (nd l.2), s7, s8, .v (nd (2 ^ l.1.log2)), .o (.lst [pd l])] S =
    .nx [a, .v (.lst (F.map pd)), s2, s3, s4, .v (nd l.1), .v (nd l.2), s7', s8', .v (nd (2 ^ l.1.log2)), .o (.lst ((l :: F.map (wst l)).map pd))] S := by
  obtain ⟨q, e, _⟩ := forR (S := S) (g := gT (gNC (gN 7) (gNC (gN 8) gN0))) (b := sApp 10 (eIf (cB (eOp iGt (eOp iAnd (eV 7) (eV 9)) (eC (.int 0)))) (eTup (aCons (eOp iXor (eV 7) (eV 5)) (aCons (eOp iXor (eV 8) (eV 6)) aNil))) (eTup (aCons (eV 7) (aCons (eV 8) aNil)))))
    pd (fun (G : List PP) (q : Sl × Sl) => [a, .v (.lst (F.map pd)), s2, s3, s4, .v (nd l.1), .v (nd l.2), q.1, q.2, .v (nd (2 ^ l.1.log2)), .o (.lst (G.map pd))]) (fun G p => G ++ [wst l p]) (fun r G => G.length + r.length ≤ 2000) F (fun G q x r h => by
      refine ⟨[a, .v (.lst (F.map pd)), s2, s3, s4, .v (nd l.1), .v (nd l.2), .v (nd x.1), .v (nd x.2), .v (nd (2 ^ l.1.log2)), .o (.lst (G.map pd))], rfl, (.v (nd x.1), .v (nd x.2)), ?_, by simp at h ⊢; omega⟩
      simp at h
      have z1 := szB_of (n := 2) (by omega)
      have z2 := szB_of (n := G.length + 1) (by omega)
      simp [z1, z2]
      unfold wst pd
      cases z : x.1.testBit l.1.log2 <;> simp [z, z1, z2]) [l] (s7, s8) (by simp; omega)
  refine ⟨q.1, q.2, ?_⟩
  rw [app_fold] at e
  simp [tFor2]
  simpa using e
noncomputable def tBody : MS := sSeq (sPar 5 6 (aCons (eV 4) (aCons (eOp iShl (eC (.int 1)) (eV 3)) aNil)))
    (sSeq tFor1
    (sIf (cB (eOp fEq (eV 5) (eC (.int 0)))) (sApp 2 (eV 6)) (sSeq (sAsg (eCall m_top_of [] (aCons (eV 5) aNil)) (gN 9))
    (sSeq (sOwn 10 (fLst (aCons (eTup (aCons (eV 5) (aCons (eV 6) aNil))) aNil)))
    (sSeq tFor2
    (sFrz 10 (sAsg (eV 10) (gN 1))))))))
theorem m_traced_eq : m_traced = mFn 11 (sSeq (sAsg (mFrz (fLst aNil)) (gN 1))
    (sSeq (sOwn 2 (fLst aNil))
    (sSeq (sFor (itES (aCons (eV 0) aNil)) (gT (gNC (gN 3) (gNC (gN 4) gN0))) tBody)
    (sFrz 2 (sRet (eTup (aCons (eV 1) (aCons (eV 2) aNil)))))))) := rfl
theorem tBody_ok (S : Sto) {w : Nat} (hw : w ≤ 1000) {F : List PP} {I : List Nat} (hF : Small w (F.map (·.1))) (hI : I.length ≤ 1000) (a s5 s6 s7 s8 s9 s10 : Sl) {k x : Nat} (hk : k ≤ 1000) (hx : x < 2 ^ w) :
    ∃ s5' s6' s7' s8' s9' s10', tBody [a, .v (.lst (F.map pd)), .o (.lst (nl I)), .v (nd k), .v (nd x), s5, s6, s7, s8, s9, s10] S =
      .nx [a, .v (.lst ((tstep (F, I) k x).1.map pd)), .o (.lst (nl (tstep (F, I) k x).2)), .v (nd k), .v (nd x), s5', s6', s7', s8', s9', s10'] S := by
  have hF1 : ∀ p ∈ F, p.1 ≠ 0 ∧ p.1.log2 ≤ 1000 := fun p hp => by
    have m : p.1 ∈ F.map (·.1) := List.mem_map_of_mem hp
    exact ⟨hF.1.1 _ m, small_log hw (hF.1.1 _ m) (hF.2 _ m)⟩
  have lF : F.length ≤ w := by simpa using hF.1.len_le hF.2
  have pw := powB_of (i := 1) (j := (k : Int)) (by omega) (by omega) (by decide)
  obtain ⟨s7', s8', e1⟩ := tFor1_ok S hF1 a (.o (.lst (nl I))) (.v (nd k)) (.v (nd x)) s7 s8 s9 s10 x (2 ^ k)
  have f1 := tred_fst F (x, 2 ^ k)
  have lt : (tred (x, 2 ^ k) F).1 < 2 ^ w := by
    rw [f1]
    exact red_lt hF.2 hx
  by_cases z : (tred (x, 2 ^ k) F).1 = 0
  · have et : tstep (F, I) k x = (F, I ++ [(tred (x, 2 ^ k) F).2]) := if_pos z
    have z2 := szB_of (n := I.length + 1) (by omega)
    refine ⟨.v (nd (tred (x, 2 ^ k) F).1), .v (nd (tred (x, 2 ^ k) F).2), s7', s8', s9, s10, ?_⟩
    rw [et]
    simp [tBody, pw]
    erw [e1]
    simp [z, z2]
    exact nl_append _ [_]
  · have et : tstep (F, I) k x = (tred (x, 2 ^ k) F :: F.map (wst (tred (x, 2 ^ k) F)), I) := if_neg z
    have t := top_ok S z (small_log hw z lt)
    have z1 := szB_of (n := 1) (by omega)
    have z2 := szB_of (n := 2) (by omega)
    obtain ⟨s7'', s8'', e2⟩ := tFor2_ok S (F := F) (by omega) a (.o (.lst (nl I))) (.v (nd k)) (.v (nd x)) s7' s8' (tred (x, 2 ^ k) F)
    refine ⟨.v (nd (tred (x, 2 ^ k) F).1), .v (nd (tred (x, 2 ^ k) F).2), s7'', s8'', .v (nd (2 ^ (tred (x, 2 ^ k) F).1.log2)), .v (.lst ((tred (x, 2 ^ k) F :: F.map (wst (tred (x, 2 ^ k) F))).map pd)), ?_⟩
    rw [et]
    simp [tBody, pw]
    erw [e1]
    simp [z, z1, z2, t]
    erw [e2]
    simp
theorem Small.tstep {w k x : Nat} {F : List PP} {I : List Nat} (h : Small w (F.map (·.1))) (hx : x < 2 ^ w) : Small w ((tstep (F, I) k x).1.map (·.1)) := by
  unfold Gf.tstep
  split
  · exact h
  · rename_i z
    have e : ((tred (x, 2 ^ k) F :: F.map (wst (tred (x, 2 ^ k) F))).map (·.1)).Perm (Gf.bst (F.map (·.1)) x) := by
      have f1 := tred_fst F (x, 2 ^ k)
      have z' : red x (F.map (·.1)) ≠ 0 := by
        rw [← f1]
        exact z
      have mp : (F.map (wst (tred (x, 2 ^ k) F))).map (·.1) = (F.map (·.1)).map (cst (tred (x, 2 ^ k) F).1) := by
        rw [List.map_map, List.map_map]
        apply List.map_congr_left
        intro p _
        show (wst _ p).1 = cst _ p.1
        unfold wst cst
        split <;> rfl
      have eb : Gf.bst (F.map (·.1)) x = (F.map (·.1)).map (cst (red x (F.map (·.1)))) ++ [red x (F.map (·.1))] := if_neg z'
      rw [eb, List.map_cons, mp, f1]
      exact (List.perm_append_comm (l₁ := [red x (F.map (·.1))]) (l₂ := (F.map (·.1)).map (cst (red x (F.map (·.1))))))
    exact ⟨(h.bst hx).1.perm e.symm, fun b hb => (h.bst hx).2 b (e.mem_iff.mp hb)⟩
theorem traced_ok (S : Sto) {w : Nat} (hw : w ≤ 1000) (rs : List Nat) (hr : ∀ r ∈ rs, r < 2 ^ w) (hl : rs.length ≤ 900) (a : D) (ha : a = .tup (nl rs) ∨ a = .lst (nl rs)) :
    m_traced [a] S = .ok (.val (.tup [.lst ((tra rs).1.map pd), .lst (nl (tra rs).2)])) S := by
  obtain ⟨q, e, _⟩ := forR (S := S) (g := gT (gNC (gN 3) (gNC (gN 4) gN0))) (b := tBody) pd
    (fun (st : TS2) (q : Sl × Sl × Sl × Sl × Sl × Sl × Sl × Sl) => [.v a, .v (.lst (st.1.map pd)), .o (.lst (nl st.2)), q.1, q.2.1, q.2.2.1, q.2.2.2.1, q.2.2.2.2.1, q.2.2.2.2.2.1, q.2.2.2.2.2.2.1, q.2.2.2.2.2.2.2])
    (fun st p => tstep st p.1 p.2) (fun r st => Small w (st.1.map (·.1)) ∧ st.2.length + r.length ≤ 900 ∧ ∀ p ∈ r, p.1 ≤ 1000 ∧ p.2 < 2 ^ w) (enumN 0 rs) (fun st q x r h => by
      obtain ⟨h1, h2, h3⟩ := h
      have hx := h3 x List.mem_cons_self
      simp at h2
      obtain ⟨s5, s6, s7, s8, s9, s10, eb⟩ := tBody_ok S hw (F := st.1) (I := st.2) h1 (by omega) (.v a) q.2.2.1 q.2.2.2.1 q.2.2.2.2.1 q.2.2.2.2.2.1 q.2.2.2.2.2.2.1 q.2.2.2.2.2.2.2 hx.1 hx.2
      refine ⟨[.v a, .v (.lst (st.1.map pd)), .o (.lst (nl st.2)), .v (nd x.1), .v (nd x.2), q.2.2.1, q.2.2.2.1, q.2.2.2.2.1, q.2.2.2.2.2.1, q.2.2.2.2.2.2.1, q.2.2.2.2.2.2.2], rfl, (.v (nd x.1), .v (nd x.2), s5, s6, s7, s8, s9, s10), eb, h1.tstep hx.2, ?_, fun p hp => h3 p (List.mem_cons_of_mem _ hp)⟩
      unfold tstep
      split <;> simp <;> omega) ([], []) (.no, .no, .no, .no, .no, .no, .no, .no) ⟨⟨.nil, fun _ h => by simp at h⟩, by simpa [enumN_len] using hl, fun p hp => by
        have := enumN_mem rs 0 p hp
        exact ⟨by omega, hr _ this.2.2⟩⟩
  rw [← tgo_fold, ← enumN_eq] at e
  have s0 := szB_of (n := 0) (by omega)
  have s2 := szB_of (n := 2) (by omega)
  have e' : forL (gT (gNC (gN 3) (gNC (gN 4) gN0))) tBody (enumD 0 (nl rs)) [.v a, .v (.lst []), .o (.lst []), .no, .no, .no, .no, .no, .no, .no, .no] S = _ := e
  rw [m_traced_eq]
  rcases ha with rfl | rfl <;> (simp [s0]; rw [e']; simp [s2]; exact ⟨rfl, rfl⟩)
theorem trail_ok (S : Sto) {w : Nat} (hw : w ≤ 1000) (rs : List Nat) (hr : ∀ r ∈ rs, r < 2 ^ w) (hl : rs.length ≤ 900) (a : D) (ha : a = .tup (nl rs) ∨ a = .lst (nl rs)) (x : Nat) :
    m_trail_to [a, .int x] S = .ok (.val (match trail rs x with
      | some m => nd m
      | none => .non)) S := by
  have T := traced_ok S hw rs hr hl a ha
  have ok := tra_ok rs
  have hF : ∀ p ∈ (tra rs).1, p.1 ≠ 0 ∧ p.1.log2 ≤ 1000 := fun p hp => by
    have m : p.1 ∈ (tra rs).1.map (·.1) := List.mem_map_of_mem hp
    have lt : p.1 < 2 ^ w := ((tra_sp rs p.1).mp (.mem m)).lt hr
    exact ⟨ok.rr.1 _ m, small_log hw (ok.rr.1 _ m) lt⟩
  obtain ⟨q, e, _⟩ := forM (S := S) (g := gT (gNC (gN 4) (gNC (gN 5) gN0))) (b := sIf (cB (eOp iGt (eOp iAnd (eV 2) (eCall m_top_of [] (aCons (eV 4) aNil))) (eC (.int 0)))) (sPar 2 3 (aCons (eOp iXor (eV 2) (eV 4)) (aCons (eOp iXor (eV 3) (eV 5)) aNil))) sNil)
    pd (fun (p : PP) (q : Sl × Sl) => [.v a, .v (nd x), .v (nd p.1), .v (nd p.2), q.1, q.2]) tst (fun _ => True) (tra rs).1 (fun p q y hy _ => by
      refine ⟨[.v a, .v (nd x), .v (nd p.1), .v (nd p.2), .v (nd y.1), .v (nd y.2)], rfl, (.v (nd y.1), .v (nd y.2)), ?_, trivial⟩
      simp [top_ok S (hF y hy).1 (hF y hy).2]
      unfold tst
      cases p.1.testBit y.1.log2 <;> simp) (x, 0) (.no, .no) trivial
  have e' : forL (gT (gNC (gN 4) (gNC (gN 5) gN0))) (sIf (cB (eOp iGt (eOp iAnd (eV 2) (eCall m_top_of [] (aCons (eV 4) aNil))) (eC (.int 0)))) (sPar 2 3 (aCons (eOp iXor (eV 2) (eV 4)) (aCons (eOp iXor (eV 3) (eV 5)) aNil))) sNil) ((tra rs).1.map pd) [.v a, .v (.int x), .v (.int x), .v (.int 0), .no, .no] S =
    .nx [.v a, .v (nd x), .v (nd (tred (x, 0) (tra rs).1).1), .v (nd (tred (x, 0) (tra rs).1).2), q.1, q.2] S := e
  simp [m_trail_to, T, e']
  unfold trail
  by_cases z : (tred (x, 0) (tra rs).1).1 = 0 <;> simp [z]
def ffs (rs : List Nat) (w : Nat) : List (Str × D) := [("lines", .tup (nl rs)), ("wide", nd w)]
def fold (rs : List Nat) (w : Nat) : D := .ins "Fold" (ffs rs w)
@[simp] theorem fold_ins (S : Sto) (rs : List Nat) (w : Nat) : insOf "Fold" S (fold rs w) = some (ffs rs w) := by
  unfold fold
  simp
@[simp] theorem ffs_lines (rs : List Nat) (w : Nat) : (ffs rs w).lookup ("lines" : Str) = some (D.tup (nl rs)) := rfl
@[simp] theorem ffs_wide (rs : List Nat) (w : Nat) : (ffs rs w).lookup ("wide" : Str) = some (nd w) := rfl
@[simp] theorem ffs_to (rs : List Nat) (w : Nat) : (ffs rs w).lookup ("to" : Str) = none := rfl
@[simp] theorem ffs_many (rs : List Nat) (w : Nat) : (ffs rs w).lookup ("many" : Str) = none := rfl
@[simp] theorem ffs_size (rs : List Nat) (w : Nat) : (ffs rs w).lookup ("size" : Str) = none := rfl
@[simp] theorem ffs_then (rs : List Nat) (w : Nat) : (ffs rs w).lookup ("then" : Str) = none := rfl
@[simp] theorem ffs_kernel (rs : List Nat) (w : Nat) : (ffs rs w).lookup ("kernel" : Str) = none := rfl
@[simp] theorem ffs_onto (rs : List Nat) (w : Nat) : (ffs rs w).lookup ("onto" : Str) = none := rfl
@[simp] theorem ffs_single (rs : List Nat) (w : Nat) : (ffs rs w).lookup ("single" : Str) = none := rfl
@[simp] theorem ffs_back (rs : List Nat) (w : Nat) : (ffs rs w).lookup ("back" : Str) = none := rfl
@[simp] theorem ffs_least (rs : List Nat) (w : Nat) : (ffs rs w).lookup ("least" : Str) = none := rfl
@[simp] theorem ffs_rows (rs : List Nat) (w : Nat) : (ffs rs w).lookup ("rows" : Str) = none := rfl
@[simp] theorem ffs_part (rs : List Nat) (w : Nat) : (ffs rs w).lookup ("part" : Str) = none := rfl
@[simp] theorem ffs_beside (rs : List Nat) (w : Nat) : (ffs rs w).lookup ("beside" : Str) = none := rfl
structure FOk (rs : List Nat) (w : Nat) : Prop where
  len : rs.length ≤ 12
  wide : w ≤ 12
  lt : ∀ r ∈ rs, r < 2 ^ w
theorem shr_pos {x k : Nat} : decide ((0 : Int) < ((x >>> k : Nat) : Int)) = decide (2 ^ k ≤ x) := by
  rw [Nat.shiftRight_eq_div_pow]
  apply decide_eq_decide.mpr
  constructor
  · intro h
    have h' : 0 < x / 2 ^ k := by omega
    exact Nat.le_of_not_lt fun l => by
      rw [Nat.div_eq_of_lt l] at h'
      omega
  · intro h
    have := Nat.div_pos h (Nat.two_pow_pos k)
    omega
theorem many_ok (S : Sto) (rs : List Nat) (w : Nat) : m_Fold_many [fold rs w] S = .ok (.val (nd rs.length)) S := by
  simp [m_Fold_many]
theorem size_ok (S : Sto) (rs : List Nat) (w : Nat) : m_Fold_size [fold rs w] S = .ok (.val (nd w)) S := by
  simp [m_Fold_size]
end Fb
namespace Mm
open PySem L2
theorem set_last {α : Type} (S : List α) (x y : α) : (S ++ [x]).set S.length y = S ++ [y] := by
  rw [List.set_append_right _ _ (Nat.le_refl _)]
  simp
theorem under_nl (n : Nat) (xs : List Nat) : underL n (nl xs) := by
  rw [nl_eq]
  exact under_ints n _
end Mm
namespace Fb
open PySem L2 Mm Gf
theorem new_ok (S : Sto) {rs : List Nat} {w : Nat} (h : FOk rs w) (a : D) (ha : a = .tup (nl rs) ∨ a = .lst (nl rs)) : popI "Fold" S (m_FoldU_initU [.ref S.length, a, .int w] (S ++ [.ins "Fold" []])) = .ok (fold rs w) S := by
  obtain ⟨s2, e, _⟩ := forM (S := S ++ [.ins "Fold" []]) (g := gN 3) (b := sIf (cOr (cB (eOp iLt (eV 3) (eC (.int 0)))) (cB (eOp iGt (eOp iShr (eV 3) (eV 2)) (eC (.int 0))))) (sRaise "BadFold") sNil)
    nd (fun (_ : Unit) (s : Sl) => [.v (.ref S.length), .v a, .v (nd w), s]) (fun _ _ => ()) (fun _ => True) rs (fun _ s r hr _ => by
      refine ⟨[.v (.ref S.length), .v a, .v (nd w), .v (nd r)], rfl, .v (nd r), ?_, trivial⟩
      have q := shr_pos (x := r) (k := w)
      have : ¬ 2 ^ w ≤ r := Nat.not_le.mpr (h.lt r hr)
      have n0 : ¬ ((r : Int) < 0) := by omega
      have e : ((r : Int) >>> w) = ((r >>> w : Nat) : Int) := rfl
      have e2 : (r : Int) >>> w = 0 := by
        rw [e, Nat.shiftRight_eq_div_pow, Nat.div_eq_of_lt (h.lt r hr)]
        rfl
      simp [n0, e2]) () .no trivial
  have e' : forL (gN 3) (sIf (cOr (cB (eOp iLt (eV 3) (eC (.int 0)))) (cB (eOp iGt (eOp iShr (eV 3) (eV 2)) (eC (.int 0))))) (sRaise "BadFold") sNil) (nl rs) [.v (.ref S.length), .v a, .v (.int w), .no] (S ++ [.ins "Fold" []]) = .nx [.v (.ref S.length), .v a, .v (nd w), s2] (S ++ [.ins "Fold" []]) := e
  have h1 := h.len
  have h2 := h.wide
  have n1 : ¬ ((w : Int) < 0) := by omega
  have n2 : ¬ ((12 : Int) < w) := by omega
  have n3 : ¬ ((12 : Int) < rs.length) := by omega
  have run : m_FoldU_initU [.ref S.length, a, .int w] (S ++ [.ins "Fold" []]) = .ok (.val .non) (S ++ [.ins "Fold" [("lines", .tup (nl rs)), ("wide", nd w)]]) := by
    rcases ha with rfl | rfl <;> (simp [m_FoldU_initU, n1, n2, n3]; rw [e']; simp [set_last, putFD, show ¬ ("lines" : Str) = "wide" by decide])
  rw [run]
  have u : underF S.length [("lines", .tup (nl rs)), ("wide", nd w)] := by
    refine ⟨?_, ?_, trivial⟩
    · unfold D.under
      exact under_nl _ _
    · unfold D.under
      trivial
  unfold popI
  simp only [List.getLast?_append, List.getLast?_singleton, Option.some_or]
  rw [if_pos ⟨rfl, rfl, u⟩]
  rfl
theorem to_ok (S : Sto) {rs : List Nat} {w x : Nat} (h : FOk rs w) (hx : x < 2 ^ rs.length) : m_Fold_to [fold rs w, .int x] S = .ok (.val (nd (app rs x))) S := by
  have p := picked_ok S rs x (by have := h.len; omega) (.tup (nl rs)) (.inl rfl)
  have n0 : ¬ ((x : Int) < 0) := by omega
  have n1 : ¬ (0 < (x : Int) >>> rs.length) := by
    have e : ((x : Int) >>> rs.length) = ((x >>> rs.length : Nat) : Int) := rfl
    rw [e, Nat.shiftRight_eq_div_pow, Nat.div_eq_of_lt hx]
    simp
  simp [m_Fold_to, n0, n1, p]
end Fb
namespace Gf
open Mm
def kerL (rs : List Nat) : List Nat := nsrt (bas (tra rs).2)
theorem kerL_rr (rs : List Nat) : RR (kerL rs) := (bas_rr _).perm (nsrt_perm _).symm
theorem kerL_sp {rs : List Nat} {x : Nat} (hx : x < 2 ^ rs.length) : Sp (kerL rs) x ↔ app rs x = 0 := by
  rw [← tra_ker rs hx]
  exact (Sp.perm (nsrt_perm _)).trans (bas_sp _ x)
theorem kerL_lt (rs : List Nat) : ∀ b ∈ kerL rs, b < 2 ^ rs.length := fun b hb => by
  have := (nsrt_perm _).mem_iff.mp hb
  exact ((bas_sp _ b).mp (Sp.mem this)).lt (tra_lt rs)
theorem kerL_len (rs : List Nat) : (kerL rs).length ≤ rs.length := (kerL_rr rs).len_le (kerL_lt rs)
def lst (rs : List Nat) (x : Nat) : Option Nat := (trail rs x).map fun m => red m (kerL rs)
theorem lst_some {rs : List Nat} {x m : Nat} (h : lst rs x = some m) : app rs m = x ∧ m < 2 ^ rs.length ∧ ∀ y, y < 2 ^ rs.length → app rs y = x → m ≤ y := by
  unfold lst at h
  cases q : trail rs x with
  | none =>
    rw [q] at h
    cases h
  | some t =>
    rw [q] at h
    have e : red t (kerL rs) = m := Option.some.inj h
    obtain ⟨h1, h2⟩ := trail_some q
    have lt : m < 2 ^ rs.length := by
      rw [← e]
      exact red_lt (kerL_lt rs) h2
    have s := red_sp (kerL rs) t
    rw [e] at s
    have z := (kerL_sp (Nat.xor_lt_two_pow h2 lt)).mp s
    rw [app_xor, h1] at z
    refine ⟨(xor_eq_zero z).symm, lt, fun y hy ey => ?_⟩
    rw [← e]
    refine red_least (kerL_rr rs) ((kerL_sp (Nat.xor_lt_two_pow h2 hy)).mpr ?_)
    rw [app_xor, h1, ey, Nat.xor_self]
theorem lst_of {rs : List Nat} {x : Nat} (h : Sp rs x) : ∃ m, lst rs x = some m := by
  unfold lst
  cases q : trail rs x with
  | none => exact absurd h (trail_none.mp q)
  | some t => exact ⟨_, rfl⟩
def bk (rs : List Nat) (x : Nat) : Nat := (lst rs x).getD 0
def backL (rs : List Nat) (w : Nat) : List Nat := (List.range w).map fun i => bk rs (2 ^ i)
theorem bk_app {rs : List Nat} {x : Nat} (h : Sp rs x) : app rs (bk rs x) = x ∧ bk rs x < 2 ^ rs.length := by
  obtain ⟨m, e⟩ := lst_of h
  unfold bk
  rw [e]
  have := lst_some e
  exact ⟨this.1, this.2.1⟩
theorem backL_len (rs : List Nat) (w : Nat) : (backL rs w).length = w := by simp [backL]
theorem backL_lt {rs : List Nat} {w : Nat} (a : All w rs) : ∀ r ∈ backL rs w, r < 2 ^ rs.length := fun r hr => by
  obtain ⟨i, hi, rfl⟩ := List.mem_map.mp hr
  exact (bk_app (a _ (Nat.pow_lt_pow_right (by decide) (List.mem_range.mp hi)))).2
theorem backL_app {rs : List Nat} {w : Nat} (a : All w rs) {x : Nat} (hx : x < 2 ^ w) : app rs (app (backL rs w) x) = x := by
  rw [← app_app]
  have : (backL rs w).map (app rs) = plain w := by
    unfold backL plain
    rw [List.map_map]
    apply List.map_congr_left
    intro i hi
    exact (bk_app (a _ (Nat.pow_lt_pow_right (by decide) (List.mem_range.mp hi)))).1
  rw [this]
  exact app_plain w x hx
theorem onto_iff {rs : List Nat} {w : Nat} (lt : ∀ r ∈ rs, r < 2 ^ w) : (bas rs).length = w ↔ All w rs := by
  have blt : ∀ b ∈ bas rs, b < 2 ^ w := fun b hb => ((bas_sp rs b).mp (.mem hb)).lt lt
  constructor
  · intro h x hx
    exact (bas_sp rs x).mp ((bas_rr rs).all blt (by omega) x hx)
  · intro a
    exact (bas_rr rs).full blt fun x hx => (bas_sp rs x).mpr (a x hx)
end Gf
namespace Fb
open PySem L2 Mm Gf
theorem rng0 (n : Nat) : rngD 0 n = nl (List.range n) := by
  unfold rngD nl
  apply List.map_congr_left
  intro i _
  show D.int (0 + (i : Int)) = nd i
  rw [Int.zero_add]
theorem rgB_nat {n : Nat} (h : n ≤ 100000) : rgB (n : Int) = true := by
  exact bBnd_iff.mpr (by omega)
theorem kernel_ok (S : Sto) {rs : List Nat} {w : Nat} (h : FOk rs w) : m_Fold_kernel [fold rs w] S = .ok (.own (.lst (nl (kerL rs)))) S := by
  have hl := h.len
  have hw := h.wide
  have T := traced_ok S (w := w) (by omega) rs h.lt (by omega) (.tup (nl rs)) (.inl rfl)
  have B := basis_of_ok S (w := rs.length) (tra rs).2 (by omega) (tra_lt rs) (.lst (nl (tra rs).2)) (.inr rfl)
  simp [m_Fold_kernel, T, B]
  rfl
theorem onto_ok (S : Sto) {rs : List Nat} {w : Nat} (h : FOk rs w) : m_Fold_onto [fold rs w] S = .ok (.val (.bl (decide ((bas rs).length = w)))) S := by
  have hw := h.wide
  have B := basis_of_ok S (w := w) rs (by omega) h.lt (.tup (nl rs)) (.inl rfl)
  simp [m_Fold_onto, B]
  omega
theorem onto_yes (S : Sto) {rs : List Nat} {w : Nat} (h : FOk rs w) (a : All w rs) : m_Fold_onto [fold rs w] S = .ok (.val (.bl true)) S := by
  rw [onto_ok S h, decide_eq_true ((onto_iff h.lt).mpr a)]
def od : Option Nat → D
  | some m => nd m
  | none => .non
theorem least_ok (S : Sto) {rs : List Nat} {w : Nat} (h : FOk rs w) (x : Nat) : m_Fold_least [fold rs w, .int x] S = .ok (.val (od (lst rs x))) S := by
  have hl := h.len
  have hw := h.wide
  have T := trail_ok S (w := w) (by omega) rs h.lt (by omega) (.tup (nl rs)) (.inl rfl) x
  have K := kernel_ok S h
  have kl := kerL_len rs
  cases q : trail rs x with
  | none =>
    rw [q] at T
    simp [m_Fold_least, T, lst, q, od]
  | some m =>
    rw [q] at T
    have R := reduced_ok S m (kerL rs) fun b hb => ⟨(kerL_rr rs).1 b hb, small_log (w := rs.length) (by omega) ((kerL_rr rs).1 b hb) (kerL_lt rs b hb)⟩
    simp [m_Fold_least, T, K, R, lst, q, od]
theorem least_pow (S : Sto) {rs : List Nat} {w i : Nat} (h : FOk rs w) (a : All w rs) (hi : i < w) : eMeth "Fold" "least" m_Fold_least [] (eV 0) (aCons (eOp iShl (eC (.int 1)) (eV 1)) aNil) [.v (fold rs w), .v (nd i)] S = .ok (nd (bk rs (2 ^ i))) S := by
  have hw := h.wide
  have pw := powB_of (i := 1) (j := (i : Int)) (by omega) (by omega) (by decide)
  have L := least_ok S h (2 ^ i)
  obtain ⟨m, e⟩ := lst_of (a (2 ^ i) (Nat.pow_lt_pow_right (by decide) hi))
  rw [e] at L
  have L' : m_Fold_least [fold rs w, .int (2 ^ i)] S = .ok (.val (nd m)) S := by
    have e5 : (2 : Int) ^ i = ((2 ^ i : Nat) : Int) := by simp
    rw [e5]
    exact L
  simp [pw, L', bk, e]
theorem back_lc (S : Sto) {rs : List Nat} {w : Nat} (h : FOk rs w) (a : All w rs) : lcR (gN 1) cYes (eMeth "Fold" "least" m_Fold_least [] (eV 0) (aCons (eOp iShl (eC (.int 1)) (eV 1)) aNil)) [.v (fold rs w), .no] (nl (List.range w)) S = .ok (nl (backL rs w)) S := by
  have lc := lcR_map (S := S) (g := gN 1) (tt := cYes) (te := eMeth "Fold" "least" m_Fold_least [] (eV 0) (aCons (eOp iShl (eC (.int 1)) (eV 1)) aNil)) (env := [.v (fold rs w), .no]) (fun _ => true) (fun d => match d with
    | .int i => nd (bk rs (2 ^ i.toNat))
    | d => d) (nl (List.range w)) (fun d hd => by
      obtain ⟨i, hi, rfl⟩ := mem_nl.mp hd
      exact ⟨[.v (fold rs w), .v (nd i)], rfl, rfl, fun _ => least_pow S h a (List.mem_range.mp hi)⟩)
  rw [List.filter_eq_self.mpr (fun _ _ => rfl), nl_map (g := fun i => bk rs (2 ^ i)) (fun y _ => by simp)] at lc
  exact lc
theorem back_ok (S : Sto) {rs : List Nat} {w : Nat} (h : FOk rs w) (a : All w rs) : m_Fold_back [fold rs w] S = .ok (.val (fold (backL rs w) rs.length)) S := by
  have hl := h.len
  have hw := h.wide
  have O := onto_yes S h a
  have lc := back_lc S h a
  have F : FOk (backL rs w) rs.length := ⟨by rw [backL_len]; exact hw, hl, backL_lt a⟩
  have sz := szB_of (n := w) (by omega)
  have N := new_ok S F (.lst (nl (backL rs w))) (.inr rfl)
  have rg := rgB_nat (n := w) (by omega)
  simp [m_Fold_back, O, rg, rng0, lc, backL_len, sz, N]
end Fb
namespace Fb
open PySem L2 Mm Gf
def bx (xs : List Int) (i : Nat) (t s : Int) : Cell := .lst [.lst (xs.map D.int), .int i, .int t, .int s]
def Bx (b : Cell) : Prop := ∃ (xs : List Int) (i : Nat) (t s : Int), b = bx xs i t s ∧ s.natAbs < 2147483549
theorem divB_of {i : Int} {k : Nat} (h0 : 0 < k) (h1 : k < 1073741824) : divB i (k : Int) = true := by
  unfold divB
  rw [decide_eq_true (show (k : Int) ≠ 0 by omega), decide_eq_true (show (k : Int).natAbs < 1073741824 by omega)]
  rfl
theorem fmod_nat (i : Int) {k : Nat} (h : 0 < k) : ∃ r : Nat, i.fmod (k : Int) = (r : Int) ∧ r < k := by
  have h1 : 0 ≤ i.fmod (k : Int) := Int.fmod_nonneg_of_pos i (by omega)
  have h2 : i.fmod (k : Int) < k := Int.fmod_lt_of_pos i (by omega)
  exact ⟨(i.fmod (k : Int)).toNat, by omega, by omega⟩
theorem mulB_l {i j : Int} (h : i.natAbs ≤ 18446744073709551615) : mulB i j = true := by
  unfold mulB
  rw [bBnd_iff.mpr h, Bool.true_or]
theorem powB_nat {i : Int} (h : i.natAbs ≤ 18446744073709551615) (j : Nat) (hj : j ≤ 1000000) : powB i (j : Int) = true := powB_of (by omega) (by omega) (by omega)
@[simp] theorem ixN41 : ixN 4 1 = some 1 := rfl
@[simp] theorem ixN42 : ixN 4 2 = some 2 := rfl
@[simp] theorem ixN43 : ixN 4 3 = some 3 := rfl
noncomputable def takeTail : MS := sSeq (sIf (cB (eOp iGe (eV 3) (eOp iPow (eC (.int 10)) (eC (.int 18))))) (sSeq (sPut 0 (eC (.int 2)) (eOp iDiv (eV 3) (eV 1)))
    (sRet (eOp iMod (eV 3) (eV 1)))) sNil)
    (sSeq (sAsg (eOp fIx (eV 0) (eC (.int 3))) (gN 4))
    (sSeq (sPut 0 (eC (.int 3)) (eOp iMod (eOp dAdd (eOp dAdd (eOp dAdd (eOp iPow (eV 4) (eC (.int 3))) (eOp iMul (eC (.int 69621)) (eV 4))) (eOp iMul (eC (.int 40693)) (eOp iMod (eV 3) (eC (.int 2147483549))))) (eC (.int 17))) (eC (.int 2147483549))))
    (sRet (eOp iMod (eOp iDiv (eOp fIx (eV 0) (eC (.int 3))) (eC (.int 64))) (eV 1)))))
theorem m_take_eq : m__law_take = mFn 5 (sSeq (sIf (cB (eOp iGt (eOp fIx (eV 0) (eC (.int 2))) (eC (.int 0)))) (sSeq (sAsg (eOp fIx (eV 0) (eC (.int 2))) (gN 2))
    (sSeq (sPut 0 (eC (.int 2)) (eOp iDiv (eV 2) (eV 1)))
    (sRet (eOp iMod (eV 2) (eV 1))))) sNil)
    (sSeq (sAsg (eC (.int 0)) (gN 3))
    (sSeq (sIf (cB (eOp iLt (eOp fIx (eV 0) (eC (.int 1))) (eCB fLen (aCons (eOp fIx (eV 0) (eC (.int 0))) aNil)))) (sSeq (sAsg (eOp fIx (eOp fIx (eV 0) (eC (.int 0))) (eOp fIx (eV 0) (eC (.int 1)))) (gN 3))
    (sAugC (eV 0) (eC (.int 1)) (fun i j => i + j) (eC (.int 1)))) sNil) takeTail))) := rfl
theorem pow1018 : powB 10 18 = true := powB_of (by omega) (by omega) (by decide)
theorem tail_ok {S : Sto} {n : Nat} {xs : List Int} {i : Nat} {t s : Int} (hS : S[n]? = some (bx xs i t s)) (hs : s.natAbs < 2147483549) {k : Nat} (h0 : 0 < k) (h1 : k < 1073741824) (c : Int) :
    ∃ b' r, takeTail [.v (.ref n), .v (.int k), .no, .v (.int c), .no] S = .rt (.val (nd r)) (S.set n b') ∧ Bx b' ∧ r < k := by
  have hn : n < S.length := (List.getElem?_eq_some_iff.mp hS).1
  have kz' : ¬ k = 0 := by omega
  have dv := fun i : Int => divB_of (i := i) h0 h1
  have dv64 := fun i : Int => divB_of (i := i) (k := 64) (by decide) (by decide)
  have p18 := pow1018
  by_cases hc : (10 : Int) ^ 18 ≤ c
  · obtain ⟨r, e1, e2⟩ := fmod_nat c h0
    refine ⟨bx xs i (c.fdiv k) s, r, ?_, ⟨xs, i, _, s, rfl, hs⟩, e2⟩
    have hc' : (1000000000000000000 : Int) ≤ c := hc
    simp [takeTail, hS, bx, p18, hc', dv, kz', e1]
  · have hc' : ¬ (1000000000000000000 : Int) ≤ c := hc
    obtain ⟨q, q1, q2⟩ := fmod_nat c (k := 2147483549) (by decide)
    have pw := powB_nat (i := s) (by omega) 3 (by decide)
    have m1 := mulB_l (i := 69621) (j := s) (by decide)
    have m2 := fun j : Int => mulB_l (i := 40693) (j := j) (by decide)
    obtain ⟨s', s1, s2⟩ := fmod_nat (s ^ 3 + 69621 * s + 40693 * c.fmod 2147483549 + 17) (k := 2147483549) (by decide)
    obtain ⟨r, e1, e2⟩ := fmod_nat ((s' : Int).fdiv 64) h0
    refine ⟨bx xs i t s', r, ?_, ⟨xs, i, t, s', rfl, by omega⟩, e2⟩
    have s1' : (s ^ 3 + 69621 * s + 40693 * c.fmod 2147483549 + 17).fmod 2147483549 = (s' : Int) := s1
    have pw' : powB s 3 = true := pw
    have d64 : ∀ i : Int, divB i 64 = true := dv64
    have gs : ∀ x, (S.set n x)[n]? = some x := fun x => List.getElem?_set_self hn
    simp [takeTail, hS, bx, p18, hc', dv, d64, kz', pw', m1, m2, s1', e1, gs]
theorem take_ok {S : Sto} {n : Nat} {b : Cell} (hS : S[n]? = some b) (hb : Bx b) {k : Nat} (h0 : 0 < k) (h1 : k < 1073741824) : ∃ b' r, m__law_take [.ref n, .int k] S = .ok (.val (nd r)) (S.set n b') ∧ Bx b' ∧ r < k := by
  obtain ⟨xs, i, t, s, rfl, hs⟩ := hb
  have hn : n < S.length := (List.getElem?_eq_some_iff.mp hS).1
  have kz' : ¬ k = 0 := by omega
  have dv := fun i : Int => divB_of (i := i) h0 h1
  rw [m_take_eq]
  by_cases ht : 0 < t
  · obtain ⟨r, e1, e2⟩ := fmod_nat t h0
    refine ⟨bx xs i (t.fdiv k) s, r, ?_, ⟨xs, i, _, s, rfl, hs⟩, e2⟩
    simp [hS, bx, ht, dv, kz', e1]
  · by_cases hi : i < xs.length
    · have e : atI (xs.map D.int) (i : Int) = some (.int (xs[i])) := by
        rw [Mm.atI_nat]
        simp [hi]
      obtain ⟨b', r, h3, h4, h5⟩ := tail_ok (S := S.set n (bx xs (i + 1) t s)) (n := n) (List.getElem?_set_self hn) hs h0 h1 xs[i]
      refine ⟨b', r, ?_, h4, h5⟩
      rw [List.set_set] at h3
      have h3' : takeTail [.v (.ref n), .v (.int k), .no, .v (.int xs[i]), .no] (S.set n (.lst [.lst (xs.map D.int), .int ((i : Int) + 1), .int t, .int s])) = _ := h3
      simp [hS, bx, hi, e, ht]
      rw [h3']
    · obtain ⟨b', r, h3, h4, h5⟩ := tail_ok hS hs h0 h1 0
      refine ⟨b', r, ?_, h4, h5⟩
      simp [hS, bx, hi, ht]
      rw [h3]
theorem cut_map (ns : List Int) (lo hi : Option Int) : ∃ xs : List Int, cutD (ns.map D.int) lo hi = xs.map D.int := by
  unfold cutD
  exact ⟨(ns.drop (HT.sIx (ns.map D.int).length 0 lo)).take (HT.sIx (ns.map D.int).length (ns.map D.int).length hi - HT.sIx (ns.map D.int).length 0 lo), by rw [List.map_take, List.map_drop]⟩
theorem box_ok (ns : List Int) (S : Sto) : ∃ b, m__law_box [.scr ns] S = .ok (.own b) S ∧ Bx b := by
  have s4 := szB_of (n := 4) (by omega)
  obtain ⟨xs, e⟩ := cut_map ns none (some 63)
  refine ⟨bx xs 0 0 41, ?_, ⟨_, 0, 0, 41, rfl, by decide⟩⟩
  simp [m__law_box, s4, bx, e]
theorem insert_perm (xs : List Nat) (k x : Nat) : (xs.take k ++ [x] ++ xs.drop k).Perm (x :: xs) := by
  rw [List.append_assoc]
  have := List.perm_middle (l₁ := xs.take k) (l₂ := xs.drop k) (a := x)
  simpa using this
end Fb
namespace Gf
theorem all_row {w n : Nat} {ls : List Nat} {o j : Nat} (hl : ls.length = n) (ho : o < n) (hj : j < n) (ne : o ≠ j) (a : All w ls) : All w (ls.set o (ls.getD o 0 ^^^ ls.getD j 0)) := fun x hx => by
  refine .sub (fun b hb => ?_) (a x hx)
  obtain ⟨i, hi⟩ := List.getElem?_of_mem hb
  have lo : o < ls.length := by omega
  have lj : j < ls.length := by omega
  have mj : Sp (ls.set o (ls.getD o 0 ^^^ ls.getD j 0)) (ls.getD j 0) := .mem (List.mem_of_getElem? (i := j) (by
    rw [List.getElem?_set_ne ne]
    simp [List.getD_eq_getElem?_getD, lj]))
  by_cases e : o = i
  · subst e
    have mo : Sp (ls.set o (ls.getD o 0 ^^^ ls.getD j 0)) (ls.getD o 0 ^^^ ls.getD j 0) := .mem (List.mem_of_getElem? (i := o) (List.getElem?_set_self lo))
    have := mo.xor mj
    have eb : ls.getD o 0 = b := by rw [List.getD_eq_getElem?_getD, hi]; rfl
    rw [xor_cancel_right] at this
    rw [← eb]
    exact this
  · exact .mem (List.mem_of_getElem? (i := i) (by rw [List.getElem?_set_ne e]; exact hi))
def phi (o f l : Nat) : Nat := l ^^^ if l.testBit o then 2 ^ f else 0
theorem phi_bit (o f l i : Nat) : (phi o f l).testBit i = (l.testBit i ^^ (l.testBit o && decide (f = i))) := by
  unfold phi
  rw [Nat.testBit_xor]
  congr 1
  split
  · rename_i z
    rw [z, Nat.testBit_two_pow]
    simp
  · rename_i z
    simp at z
    simp [z]
theorem phi_zero (o f : Nat) : phi o f 0 = 0 := by simp [phi]
theorem phi_xor (o f x y : Nat) : phi o f (x ^^^ y) = phi o f x ^^^ phi o f y := Nat.eq_of_testBit_eq fun i => by
  simp only [phi_bit, Nat.testBit_xor]
  cases x.testBit i <;> cases y.testBit i <;> cases x.testBit o <;> cases y.testBit o <;> cases decide (f = i) <;> rfl
theorem phi_phi {o f : Nat} (h : f ≠ o) (x : Nat) : phi o f (phi o f x) = x := Nat.eq_of_testBit_eq fun i => by
  simp only [phi_bit]
  simp [h]
theorem phi_lt {o f w l : Nat} (hl : l < 2 ^ w) (hf : f < w) : phi o f l < 2 ^ w := by
  unfold phi
  refine Nat.xor_lt_two_pow hl ?_
  split
  · exact Nat.pow_lt_pow_right (by decide) hf
  · exact Nat.two_pow_pos w
theorem all_col {w : Nat} {ls : List Nat} {o f : Nat} (hf : f < w) (ne : f ≠ o) (a : All w ls) : All w (ls.map (phi o f)) := fun x hx => by
  have := Sp.image (phi o f) (phi_zero o f) (phi_xor o f) (a (phi o f x) (phi_lt hx hf))
  rwa [phi_phi ne] at this
structure Lin (n w : Nat) (ls : List Nat) : Prop where
  len : ls.length = n
  lt : ∀ l ∈ ls, l < 2 ^ w
  all : All w ls
theorem Lin.row {n w : Nat} {ls : List Nat} {o j : Nat} (h : Lin n w ls) (ho : o < n) (hj : j < n) (ne : o ≠ j) : Lin n w (ls.set o (ls.getD o 0 ^^^ ls.getD j 0)) where
  len := by rw [List.length_set]; exact h.len
  lt := fun l hl => by
    rcases List.mem_or_eq_of_mem_set hl with hl | e
    · exact h.lt l hl
    · rw [e]
      have lo : o < ls.length := by have := h.len; omega
      have lj : j < ls.length := by have := h.len; omega
      refine Nat.xor_lt_two_pow (h.lt _ ?_) (h.lt _ ?_)
      · simp [List.getD_eq_getElem?_getD, lo]
      · simp [List.getD_eq_getElem?_getD, lj]
  all := all_row h.len ho hj ne h.all
theorem Lin.col {n w : Nat} {ls : List Nat} {o f : Nat} (h : Lin n w ls) (hf : f < w) (ne : f ≠ o) : Lin n w (ls.map (phi o f)) where
  len := by rw [List.length_map]; exact h.len
  lt := fun l hl => by
    obtain ⟨x, hx, rfl⟩ := List.mem_map.mp hl
    exact phi_lt (h.lt x hx) hf
  all := all_col hf ne h.all
theorem Lin.perm {n w : Nat} {ls ks : List Nat} (p : ks.Perm ls) (h : Lin n w ls) : Lin n w ks where
  len := p.length_eq.trans h.len
  lt := fun l hl => h.lt l (p.mem_iff.mp hl)
  all := fun x hx => (Sp.perm p).mpr (h.all x hx)
theorem Lin.plain {n w : Nat} {ys : List Nat} (hl : ys.length = n - w) (hw : w ≤ n) (lt : ∀ y ∈ ys, y < 2 ^ w) : Lin n w (plain w ++ ys) where
  len := by rw [List.length_append, plain_len]; omega
  lt := fun l h => by
    rcases List.mem_append.mp h with h | h
    · exact plain_lt l h
    · exact lt l h
  all := fun x hx => (plain_all w x hx).mono fun b hb => List.mem_append_left _ hb
end Gf
namespace Fb
open PySem L2 Mm Gf
theorem mod_ne {o r n : Nat} (ho : o < n) (hr : r < n - 1) : (o + 1 + r) % n < n ∧ o ≠ (o + 1 + r) % n := by
  refine ⟨Nat.mod_lt _ (by omega), ?_⟩
  by_cases h : o + 1 + r < n
  · rw [Nat.mod_eq_of_lt h]
    omega
  · have : (o + 1 + r) % n = o + 1 + r - n := by
      rw [Nat.mod_eq_sub_mod (by omega), Nat.mod_eq_of_lt (by omega)]
    omega
theorem fmod_natnat (a b : Nat) : (a : Int).fmod (b : Int) = ((a % b : Nat) : Int) := by
  rw [Int.fmod_eq_emod_of_nonneg _ (by omega)]
  rfl
theorem nl_get {xs : List Nat} {i : Nat} (h : i < xs.length) : atI (nl xs) (i : Int) = some (nd (xs.getD i 0)) := by
  rw [Mm.atI_nat]
  simp [nl, h]
theorem nl_set (xs : List Nat) (i x : Nat) : (nl xs).set i (nd x) = nl (xs.set i x) := by simp [nl, List.map_set]
noncomputable def lBody1 : MS := sSeq (sAsg (eCall m__law_take [] (aCons (eV 0) (aCons (eV 1) aNil))) (gN 5))
    (sSeq (sAsg (eOp dAdd (eOp dAdd (eV 5) (eC (.int 1))) (eCall m__law_take [] (aCons (eV 0) (aCons (eOp iSub (eV 1) (eC (.int 1))) aNil)))) (gN 6))
    (sPut 3 (eV 5) (eOp iXor (eIxA 3 (eV 5)) (eIxA 3 (eOp iMod (eV 6) (eV 1))))))
noncomputable def lBody2 : MS := sSeq (sAsg (eCall m__law_take [] (aCons (eV 0) (aCons (eV 2) aNil))) (gN 5))
    (sSeq (sAsg (eOp iMod (eOp dAdd (eOp dAdd (eV 5) (eC (.int 1))) (eCall m__law_take [] (aCons (eV 0) (aCons (eOp iSub (eV 2) (eC (.int 1))) aNil)))) (eV 2)) (gN 6))
    (sFrz 3 (sOwn 3 (fLc (itL (eV 3)) (gN 8) cYes (eOp iXor (eV 8) (eOp iShl (eOp iAnd (eOp iShr (eV 8) (eV 5)) (eC (.int 1))) (eV 6))) [8]))))
theorem phi_int (l o f : Nat) : ((l : Int) >>> o).toNat &&& 1 = if l.testBit o then 1 else 0 := by
  have e : ((l : Int) >>> o) = ((l >>> o : Nat) : Int) := rfl
  rw [e, Int.toNat_natCast, Nat.and_one_is_mod, Nat.testBit_eq_decide_div_mod_eq, Nat.shiftRight_eq_div_pow]
  simp
  split <;> omega
theorem band_one (l o : Nat) : Builtin.bitAnd ((l : Int) >>> o) 1 = ((if l.testBit o then 1 else 0 : Nat) : Int) := by
  have e : ((l : Int) >>> o) = ((l >>> o : Nat) : Int) := rfl
  have : Builtin.bitAnd (((l >>> o : Nat) : Int)) 1 = ((l >>> o &&& 1 : Nat) : Int) := band_nat (l >>> o) 1
  rw [e, this, ← phi_int l o 0, e, Int.toNat_natCast]
theorem phi_xorI (l o f : Nat) : Builtin.bitXor (l : Int) (((if l.testBit o then 1 else 0 : Nat) : Int) * 2 ^ f) = ((phi o f l : Nat) : Int) := by
  unfold phi
  split
  · have : ((1 : Nat) : Int) * 2 ^ f = ((2 ^ f : Nat) : Int) := by simp
    rw [this, bxor_nat]
  · have : ((0 : Nat) : Int) * 2 ^ f = ((0 : Nat) : Int) := by simp
    rw [this, bxor_nat]
end Fb
namespace Fb
open PySem L2 Mm Gf
theorem m_lines_eq : m__law_lines = mFn 9 (sSeq (sOwn 3 (fLc (itR1 (aCons (eV 2) aNil)) (gN 7) cYes (eOp iShl (eC (.int 1)) (eV 7)) [7]))
    (sFrz 3 (sSeq (sOwn 3 (fCall m__law_shuffled [] (aCons (eV 0) (aCons (eOp dAdd (eV 3) (eCall m__law_numbers [] (aCons (eV 0) (aCons (eOp iSub (eV 1) (eV 2)) (aCons (eV 2) aNil))))) aNil))))
    (sSeq (sFor (itR1 (aCons (eOp iMul (eCall m__law_take [] (aCons (eV 0) (aCons (eC (.int 7)) aNil))) (eCB fInt (aCons (eOp iGt (eV 1) (eC (.int 1))) aNil))) aNil)) (gN 4) lBody1)
    (sSeq (sFor (itR1 (aCons (eOp iMul (eCall m__law_take [] (aCons (eV 0) (aCons (eC (.int 4)) aNil))) (eCB fInt (aCons (eOp iGt (eV 2) (eC (.int 1))) aNil))) aNil)) (gN 4) lBody2)
    (sFrz 3 (sRet (eCB fTupOf (aCons (eV 3) aNil))))))))) := rfl
abbrev lEnv (n w : Nat) (ls : List Nat) (s4 s5 s6 : Sl) : Envr := [.v (.ref 0), .v (nd n), .v (nd w), .o (.lst (nl ls)), s4, s5, s6, .no, .no]
theorem cnt (r x : Nat) : (r : Int) * (if decide ((1 : Int) < (x : Int)) = true then 1 else 0) = ((r * (if 1 < x then 1 else 0) : Nat) : Int) := by
  by_cases h : 1 < x
  · have : (1 : Int) < (x : Int) := by omega
    simp [h, this]
  · have : ¬ (1 : Int) < (x : Int) := by omega
    simp [h, this]
theorem plain_lc (S : Sto) (n w : Nat) (hw : w ≤ 1000) : lcR (gN 7) cYes (eOp iShl (eC (.int 1)) (eV 7)) [.v (.ref 0), .v (nd n), .v (nd w), .no, .no, .no, .no, .no, .no] (nl (List.range w)) S = .ok (nl (plain w)) S := by
  have lc := lcR_map (S := S) (g := gN 7) (tt := cYes) (te := eOp iShl (eC (.int 1)) (eV 7)) (env := [.v (.ref 0), .v (nd n), .v (nd w), .no, .no, .no, .no, .no, .no]) (fun _ => true) (fun d => match d with
    | .int i => nd (2 ^ i.toNat)
    | d => d) (nl (List.range w)) (fun d hd => by
      obtain ⟨i, hi, rfl⟩ := mem_nl.mp hd
      have hi := List.mem_range.mp hi
      have pw := powB_nat (i := 1) (by decide) i (by omega)
      refine ⟨[.v (.ref 0), .v (nd n), .v (nd w), .no, .no, .no, .no, .v (nd i), .no], rfl, rfl, fun _ => ?_⟩
      simp [pw])
  rw [List.filter_eq_self.mpr (fun _ _ => rfl), nl_map (g := (2 ^ ·)) (fun y _ => by simp)] at lc
  exact lc
end Fb
namespace Mm
open PySem L2
@[simp] theorem eIsT_eq (me : ME) (m : MA) (env : Envr) (S : Sto) : eIsT me m env S = (me env S).bind fun d S1 => (m env S1).bind fun ds S2 => match d.tyN, tysOf ds with
  | some t, some ns => if szB ds.length then opt ((kitL t ns).map D.bl) S2 else .stuck
  | _, _ => .stuck := rfl
@[simp] theorem itZA_eq (m : MA) (env : Envr) (S : Sto) : itZA m env S = (m env S).bind fun ds S1 => match ds with
  | [.lst xs, .lst ys] => .ok (zipD xs ys) S1
  | [.tup xs, .tup ys] => .ok (zipD xs ys) S1
  | _ => .stuck := rfl
@[simp] theorem eChain_eq (f g : Sto → D → D → Option D) (ma mb mc : ME) (env : Envr) (S : Sto) : eChain f g ma mb mc env S = (ma env S).bind fun x S1 => (mb env S1).bind fun y S2 => match f S2 x y with
  | some (.bl true) => (mc env S2).bind fun z S3 => opt (g S3 y z) S3
  | some (.bl false) => .ok (.bl false) S2
  | _ => .stuck := rfl
@[simp] theorem fMin2_eq (S : Sto) (i j : Int) : fMin2 S [.int i, .int j] = some (.int (if j < i then j else i)) := rfl
@[simp] theorem cLend_eq (is : List Nat) (m : MT) (env : Envr) (S : Sto) : cLend is m env S = (match m (lendE is env) [] with
  | .ok b _ => .ok b S
  | _ => .stuck) := rfl
@[simp] theorem tyN_non : D.tyN .non = some "NoneType" := rfl
@[simp] theorem tyN_bl (b : Bool) : D.tyN (.bl b) = some "bool" := rfl
@[simp] theorem tyN_int (b : Int) : D.tyN (.int b) = some "int" := rfl
@[simp] theorem tyN_str (b : Str) : D.tyN (.str b) = some "str" := rfl
@[simp] theorem tyN_lst (b : List D) : D.tyN (.lst b) = some "list" := rfl
@[simp] theorem tyN_tup (b : List D) : D.tyN (.tup b) = some "tuple" := rfl
end Mm
namespace Fb
open PySem L2 Mm Gf
noncomputable def m__law_same : Nat → MFn
  | 0 => fun _ _ => .stuck
  | n + 1 => mFn 4 (sSeq (sIf (cB (eIsT (eV 1) (aCons (eC (.ty "list")) (aCons (eC (.ty "tuple")) aNil)))) (sSeq (sIf (cOr (cB (eOp fNe (eCB fIsi (aCons (eV 0) (aCons (eC (.ty "list")) aNil))) (eCB fIsi (aCons (eV 1) (aCons (eC (.ty "list")) aNil))))) (cB (eOp fNe (eCB fIsi (aCons (eV 0) (aCons (eC (.ty "tuple")) aNil))) (eCB fIsi (aCons (eV 1) (aCons (eC (.ty "tuple")) aNil)))))) (sRet (eC (.bl false))) sNil)
    (sRet (eAnd (eOp fEq (eCB fLen (aCons (eV 0) aNil)) (eCB fLen (aCons (eV 1) aNil))) (eCB fAll (aCons (mFrz (fLc (itZA (aCons (eV 0) (aCons (eV 1) aNil))) (gT (gNC (gN 2) (gNC (gN 3) gN0))) cYes (eCall (m__law_same n) [] (aCons (eV 2) (aCons (eV 3) aNil))) [2, 3])) aNil))))) sNil)
    (sSeq (sIf (cOr (cB (eOp fNe (eOp fIs (eV 0) (eC .non)) (eOp fIs (eV 1) (eC .non)))) (cB (eOp fNe (eCB fIsi (aCons (eV 0) (aCons (eC (.ty "bool")) aNil))) (eCB fIsi (aCons (eV 1) (aCons (eC (.ty "bool")) aNil)))))) (sRet (eC (.bl false))) sNil)
    (sSeq (sIf (cB (eOp fNe (eCB fIsi (aCons (eV 0) (aCons (eC (.ty "int")) aNil))) (eCB fIsi (aCons (eV 1) (aCons (eC (.ty "int")) aNil))))) (sRet (eC (.bl false))) sNil)
    (sRet (eAnd (eOp fEq (eCB fIsi (aCons (eV 0) (aCons (eC (.ty "str")) aNil))) (eCB fIsi (aCons (eV 1) (aCons (eC (.ty "str")) aNil)))) (eOp fEq (eV 0) (eV 1)))))))
noncomputable def m__law_images : MFn := mFn 4 (sSeq (sAsg (mFrz (fLst (aCons (eC (.int 0)) aNil))) (gN 1))
    (sSeq (sFor (itL (eV 0)) (gN 2) (sAsg (eOp dAdd (eV 1) (mFrz (fLc (itL (eV 1)) (gN 3) cYes (eOp iXor (eV 3) (eV 2)) [3]))) (gN 1)))
    (sRet (eV 1))))
noncomputable def m__law_blend : MFn := mFn 3 (sSeq (sAsg (eC (.int 0)) (gN 1))
    (sSeq (sFor (itL (eV 0)) (gN 2) (sAsg (eOp iXor (eV 1) (eV 2)) (gN 1)))
    (sRet (eV 1))))
noncomputable def m__law_to : MFn := mFn 4 (sRet (eCall m__law_blend [] (aCons (mFrz (fLc (itES (aCons (eV 0) aNil)) (gT (gNC (gN 2) (gNC (gN 3) gN0))) (cB (eOp fEq (eOp iAnd (eOp iShr (eV 1) (eV 2)) (eC (.int 1))) (eC (.int 1)))) (eV 3) [2, 3])) aNil)))
noncomputable def m__law_of : MFn := mFn 2 (sRet (eOp fIx (eV 1) (eCall m__law_take [] (aCons (eV 0) (aCons (eCB fLen (aCons (eV 1) aNil)) aNil)))))
end Fb
namespace Mm
open PySem L2
theorem lc_gen {β : Type} {g : MG} {tt : MT} {te : ME} {env : Envr} {S : Sto} (ψ : β → D) (p : β → Bool) (φ : β → D) : ∀ (xs : List β), (∀ y ∈ xs, ∃ e1, g (ψ y) env = some e1 ∧ tt e1 S = .ok (p y) S ∧ (p y = true → te e1 S = .ok (φ y) S)) → lcR g tt te env (xs.map ψ) S = .ok ((xs.filter p).map φ) S
  | [], _ => rfl
  | y :: xs, h => by
    obtain ⟨e1, h1, h2, h3⟩ := h y List.mem_cons_self
    have ih := lc_gen (g := g) (tt := tt) (te := te) (env := env) (S := S) ψ p φ xs fun z hz => h z (List.mem_cons_of_mem _ hz)
    rw [List.map_cons, lcR, h1]
    simp only [h2]
    cases hp : p y with
    | true =>
      simp only [h3 hp, ih, bind_ok']
      rw [List.filter_cons_of_pos hp, List.map_cons]
    | false =>
      simp only [ih]
      rw [List.filter_cons_of_neg (by simp [hp])]
theorem lc_all {β : Type} {g : MG} {te : ME} {env : Envr} {S : Sto} (ψ φ : β → D) (xs : List β) (h : ∀ y ∈ xs, ∃ e1, g (ψ y) env = some e1 ∧ te e1 S = .ok (φ y) S) : lcR g cYes te env (xs.map ψ) S = .ok (xs.map φ) S := by
  have := lc_gen (g := g) (tt := cYes) (te := te) (env := env) (S := S) ψ (fun _ => true) φ xs fun y hy => by
    obtain ⟨e1, h1, h2⟩ := h y hy
    exact ⟨e1, h1, rfl, fun _ => h2⟩
  rwa [List.filter_eq_self.mpr (fun _ _ => rfl)] at this
end Mm
namespace Fb
open PySem L2 Mm Gf
theorem lc_nl {te : ME} {k : Nat} {env : Envr} {S : Sto} (f : Nat → Nat) (xs : List Nat) (h : ∀ y ∈ xs, te (env.set k (.v (nd y))) S = .ok (nd (f y)) S) : lcR (gN k) cYes te env (nl xs) S = .ok (nl (xs.map f)) S := by
  have := lc_all (g := gN k) (te := te) (env := env) (S := S) nd (fun y => nd (f y)) xs fun y hy => ⟨_, rfl, h y hy⟩
  unfold nl
  rw [this, List.map_map]
  rfl
@[simp] theorem kl_int : kitL "int" ["list", "tuple"] = some false := by decide +kernel
@[simp] theorem kl_bool : kitL "bool" ["list", "tuple"] = some false := by decide +kernel
@[simp] theorem kl_str : kitL "str" ["list", "tuple"] = some false := by decide +kernel
@[simp] theorem kl_non : kitL "NoneType" ["list", "tuple"] = some false := by decide +kernel
@[simp] theorem kl_list : kitL "list" ["list", "tuple"] = some true := by decide +kernel
@[simp] theorem kl_tuple : kitL "tuple" ["list", "tuple"] = some true := by decide +kernel
@[simp] theorem isi_non_list (S : Sto) : fIsi S [.non, .ty "list"] = some (.bl false) := congrArg (Option.map D.bl) (by decide +kernel : kitB "NoneType" "list" = some false)
@[simp] theorem isi_non_tuple (S : Sto) : fIsi S [.non, .ty "tuple"] = some (.bl false) := congrArg (Option.map D.bl) (by decide +kernel : kitB "NoneType" "tuple" = some false)
@[simp] theorem isi_non_bool (S : Sto) : fIsi S [.non, .ty "bool"] = some (.bl false) := congrArg (Option.map D.bl) (by decide +kernel : kitB "NoneType" "bool" = some false)
@[simp] theorem isi_non_int (S : Sto) : fIsi S [.non, .ty "int"] = some (.bl false) := congrArg (Option.map D.bl) (by decide +kernel : kitB "NoneType" "int" = some false)
@[simp] theorem isi_non_str (S : Sto) : fIsi S [.non, .ty "str"] = some (.bl false) := congrArg (Option.map D.bl) (by decide +kernel : kitB "NoneType" "str" = some false)
@[simp] theorem isi_bl_list (S : Sto) (b : Bool) : fIsi S [(.bl b), .ty "list"] = some (.bl false) := congrArg (Option.map D.bl) (by decide +kernel : kitB "bool" "list" = some false)
@[simp] theorem isi_bl_tuple (S : Sto) (b : Bool) : fIsi S [(.bl b), .ty "tuple"] = some (.bl false) := congrArg (Option.map D.bl) (by decide +kernel : kitB "bool" "tuple" = some false)
@[simp] theorem isi_bl_bool (S : Sto) (b : Bool) : fIsi S [(.bl b), .ty "bool"] = some (.bl true) := congrArg (Option.map D.bl) (by decide +kernel : kitB "bool" "bool" = some true)
@[simp] theorem isi_bl_int (S : Sto) (b : Bool) : fIsi S [(.bl b), .ty "int"] = some (.bl true) := congrArg (Option.map D.bl) (by decide +kernel : kitB "bool" "int" = some true)
@[simp] theorem isi_bl_str (S : Sto) (b : Bool) : fIsi S [(.bl b), .ty "str"] = some (.bl false) := congrArg (Option.map D.bl) (by decide +kernel : kitB "bool" "str" = some false)
@[simp] theorem isi_int_list (S : Sto) (b : Int) : fIsi S [(.int b), .ty "list"] = some (.bl false) := congrArg (Option.map D.bl) (by decide +kernel : kitB "int" "list" = some false)
@[simp] theorem isi_int_tuple (S : Sto) (b : Int) : fIsi S [(.int b), .ty "tuple"] = some (.bl false) := congrArg (Option.map D.bl) (by decide +kernel : kitB "int" "tuple" = some false)
@[simp] theorem isi_int_bool (S : Sto) (b : Int) : fIsi S [(.int b), .ty "bool"] = some (.bl false) := congrArg (Option.map D.bl) (by decide +kernel : kitB "int" "bool" = some false)
@[simp] theorem isi_int_int (S : Sto) (b : Int) : fIsi S [(.int b), .ty "int"] = some (.bl true) := congrArg (Option.map D.bl) (by decide +kernel : kitB "int" "int" = some true)
@[simp] theorem isi_int_str (S : Sto) (b : Int) : fIsi S [(.int b), .ty "str"] = some (.bl false) := congrArg (Option.map D.bl) (by decide +kernel : kitB "int" "str" = some false)
@[simp] theorem isi_str_list (S : Sto) (b : Str) : fIsi S [(.str b), .ty "list"] = some (.bl false) := congrArg (Option.map D.bl) (by decide +kernel : kitB "str" "list" = some false)
@[simp] theorem isi_str_tuple (S : Sto) (b : Str) : fIsi S [(.str b), .ty "tuple"] = some (.bl false) := congrArg (Option.map D.bl) (by decide +kernel : kitB "str" "tuple" = some false)
@[simp] theorem isi_str_bool (S : Sto) (b : Str) : fIsi S [(.str b), .ty "bool"] = some (.bl false) := congrArg (Option.map D.bl) (by decide +kernel : kitB "str" "bool" = some false)
@[simp] theorem isi_str_int (S : Sto) (b : Str) : fIsi S [(.str b), .ty "int"] = some (.bl false) := congrArg (Option.map D.bl) (by decide +kernel : kitB "str" "int" = some false)
@[simp] theorem isi_str_str (S : Sto) (b : Str) : fIsi S [(.str b), .ty "str"] = some (.bl true) := congrArg (Option.map D.bl) (by decide +kernel : kitB "str" "str" = some true)
@[simp] theorem isi_lst_list (S : Sto) (b : List D) : fIsi S [(.lst b), .ty "list"] = some (.bl true) := congrArg (Option.map D.bl) (by decide +kernel : kitB "list" "list" = some true)
@[simp] theorem isi_lst_tuple (S : Sto) (b : List D) : fIsi S [(.lst b), .ty "tuple"] = some (.bl false) := congrArg (Option.map D.bl) (by decide +kernel : kitB "list" "tuple" = some false)
@[simp] theorem isi_tup_list (S : Sto) (b : List D) : fIsi S [(.tup b), .ty "list"] = some (.bl false) := congrArg (Option.map D.bl) (by decide +kernel : kitB "tuple" "list" = some false)
@[simp] theorem isi_tup_tuple (S : Sto) (b : List D) : fIsi S [(.tup b), .ty "tuple"] = some (.bl true) := congrArg (Option.map D.bl) (by decide +kernel : kitB "tuple" "tuple" = some true)
@[simp] theorem tysOf_lt : tysOf [.ty "list", .ty "tuple"] = some ["list", "tuple"] := rfl
@[simp] theorem fAll_eq (S : Sto) (bs : List Bool) : fAll S [.lst (bs.map D.bl)] = some (.bl (bs.all id)) := by
  show Option.map _ (blsOf (bs.map D.bl)) = _
  rw [blsOf_map]
  rfl
@[simp] theorem isN_bl (b : Bool) : D.isN (.bl b) = false := rfl
@[simp] theorem isN_str (b : Str) : D.isN (.str b) = false := rfl
@[simp] theorem isN_lst (b : List D) : D.isN (.lst b) = false := rfl
@[simp] theorem isN_tup (b : List D) : D.isN (.tup b) = false := rfl
@[simp] theorem isN_ins (c : Str) (b : List (Str × D)) : D.isN (.ins c b) = false := rfl
theorem same_int (n : Nat) (x y : Int) (S : Sto) : m__law_same (n + 1) [.int x, .int y] S = .ok (.val (.bl (decide (x = y)))) S := by
  simp [m__law_same, szB]
theorem same_bl (n : Nat) (x y : Bool) (S : Sto) : m__law_same (n + 1) [.bl x, .bl y] S = .ok (.val (.bl (decide (x = y)))) S := by
  simp [m__law_same, szB]
  cases x <;> cases y <;> rfl
theorem images_ok (S : Sto) (B : List Nat) (hl : B.length ≤ 16) (a : D) (ha : a = .tup (nl B) ∨ a = .lst (nl B)) : m__law_images [a] S = .ok (.val (.lst (nl (spl B)))) S := by
  obtain ⟨s2, e, _⟩ := forR (S := S) (g := gN 2) (b := sAsg (eOp dAdd (eV 1) (mFrz (fLc (itL (eV 1)) (gN 3) cYes (eOp iXor (eV 3) (eV 2)) [3]))) (gN 1))
    nd (fun (s : List Nat) (q : Sl) => [.v a, .v (.lst (nl s)), q, .no]) (fun s b => s ++ s.map (· ^^^ b)) (fun r s => s.length * 2 ^ r.length ≤ 65536) B (fun s q b r h => by
      refine ⟨[.v a, .v (.lst (nl s)), .v (nd b), .no], rfl, .v (nd b), ?_, ?_⟩
      · have lc := lc_nl (te := eOp iXor (eV 3) (eV 2)) (k := 3) (env := [.v a, .v (.lst (nl s)), .v (nd b), .no]) (S := S) (· ^^^ b) s fun y _ => by simp
        rw [List.length_cons, Nat.pow_succ] at h
        have h1 : s.length * 2 ≤ s.length * (2 ^ r.length * 2) := Nat.mul_le_mul_left _ (by have := Nat.two_pow_pos r.length; omega)
        have z1 := szB_of (n := s.length) (by omega)
        have z2 := szB_of (n := s.length + s.length) (by omega)
        simp [lc, z1, z2]
      · rw [List.length_cons, Nat.pow_succ] at h
        rw [List.length_append, List.length_map]
        have : (s.length + s.length) * 2 ^ r.length = s.length * (2 ^ r.length * 2) := by
          rw [← Nat.mul_two, Nat.mul_assoc, Nat.mul_comm 2]
        omega) [0] .no (by
          have : 2 ^ B.length ≤ 2 ^ 16 := Nat.pow_le_pow_right (by decide) hl
          simp
          omega)
  have e' : forL (gN 2) (sAsg (eOp dAdd (eV 1) (mFrz (fLc (itL (eV 1)) (gN 3) cYes (eOp iXor (eV 3) (eV 2)) [3]))) (gN 1)) (nl B) [.v a, .v (.lst [.int 0]), .no, .no] S = .nx [.v a, .v (.lst (nl (spl B))), s2, .no] S := e
  have s0 := szB_of (n := 1) (by omega)
  rcases ha with rfl | rfl <;> simp [m__law_images, s0, e']
end Fb
namespace Gf
theorem spl_app_go : ∀ (B : List Nat) (f : Nat → Nat) (n : Nat), B.foldl (fun s b => s ++ s.map (· ^^^ b)) ((List.range (2 ^ n)).map f) = (List.range (2 ^ (n + B.length))).map fun x => f (x % 2 ^ n) ^^^ app B (x / 2 ^ n)
  | [], f, n => by
    simp only [List.foldl_nil, List.length_nil, Nat.add_zero, app_nil, Nat.xor_zero]
    refine List.map_congr_left fun x hx => ?_
    rw [Nat.mod_eq_of_lt (List.mem_range.mp hx)]
  | b :: B, f, n => by
    have e : (List.range (2 ^ n)).map f ++ ((List.range (2 ^ n)).map f).map (· ^^^ b) = (List.range (2 ^ (n + 1))).map fun x => f (x % 2 ^ n) ^^^ if x.testBit n then b else 0 := by
      rw [Nat.pow_succ, Nat.mul_two, List.range_add, List.map_append, List.map_map, List.map_map]
      congr 1
      · refine List.map_congr_left fun x hx => ?_
        have hx := List.mem_range.mp hx
        rw [Nat.mod_eq_of_lt hx, Nat.testBit_lt_two_pow hx]
        simp
      · refine List.map_congr_left fun x hx => ?_
        have hx := List.mem_range.mp hx
        have h1 : (2 ^ n + x) % 2 ^ n = x := by rw [Nat.add_mod_left, Nat.mod_eq_of_lt hx]
        have h2 : (2 ^ n + x).testBit n = true := by
          rw [Nat.testBit_two_pow_add_eq, Nat.testBit_lt_two_pow hx]
          rfl
        simp only [Function.comp, h1, h2, if_true]
    rw [List.foldl_cons, e, spl_app_go B _ (n + 1), List.length_cons, Nat.add_right_comm, ← Nat.add_assoc]
    refine List.map_congr_left fun x _ => ?_
    have h1 : x % 2 ^ (n + 1) % 2 ^ n = x % 2 ^ n := Nat.mod_mod_of_dvd _ ⟨2, Nat.pow_succ ..⟩
    have h2 : (x % 2 ^ (n + 1)).testBit n = x.testBit n := by rw [Nat.testBit_mod_two_pow]; simp
    have h3 : (x / 2 ^ n).testBit 0 = x.testBit n := by rw [Nat.testBit_div_two_pow]; simp
    have h4 : x / 2 ^ n / 2 = x / 2 ^ (n + 1) := by rw [Nat.div_div_eq_div_mul, Nat.pow_succ]
    rw [h1, h2, app_cons, h3, h4, Nat.xor_assoc]
theorem spl_app (B : List Nat) : spl B = (List.range (2 ^ B.length)).map (app B) := by
  have := spl_app_go B (fun _ => 0) 0
  simp at this
  unfold spl
  rw [this]
end Gf
namespace Fb
open PySem L2 Mm Gf
theorem shaped_str {x : Str} (h : PyData.strOk x = true) : SeqAt.shaped (.str x) = true := by simp [SeqAt.shaped, PyData.canLay0, PyData.depth, h]
theorem fEq_str (S : Sto) {x y : Str} (hx : PyData.strOk x = true) (hy : PyData.strOk y = true) : fEq S (.str x) (.str y) = some (.bl (decide (x = y))) := by
  simp [fEq, D.py, shaped_str hx, shaped_str hy, PyData.eqv]
  rfl
theorem fNe_str (S : Sto) {x y : Str} (hx : PyData.strOk x = true) (hy : PyData.strOk y = true) : fNe S (.str x) (.str y) = some (.bl (!decide (x = y))) := by
  simp [fNe, D.py, shaped_str hx, shaped_str hy, PyData.eqv]
  rfl
theorem flc_of {β : Type} {mi : MI} {te : ME} {k : Nat} {vs : List Nat} {env : Envr} {S : Sto} (ψ φ : β → D) (xs : List β) (h1 : mi env S = .ok (xs.map ψ) S) (hz : xs.length ≤ 100000) (h2 : ∀ y ∈ xs, te ((wipeE env vs).set k (.v (ψ y))) S = .ok (φ y) S) : fLc mi (gN k) cYes te vs env S = .ok (.lst (xs.map φ)) S := by
  have lc := lc_all (g := gN k) (te := te) (env := wipeE env vs) (S := S) ψ φ xs fun y hy => ⟨_, rfl, h2 y hy⟩
  rw [fLc_eq, h1, bind_ok', lc, bind_ok', fin_eq, if_pos (szB_of (by simpa using hz))]
theorem itR1_nat {m : MA} {env : Envr} {S : Sto} {n : Nat} (h : m env S = .ok [.int n] S) (hn : n ≤ 100000) : itR1 m env S = .ok (nl (List.range n)) S := by
  rw [itR1_eq, h]
  simp [rgB_nat hn, rng0]
end Fb
namespace Gf
open Fb Mm
def up (k x : Nat) : Nat := x * 2 ^ k
end Gf
namespace Fb
open PySem L2 Mm Gf
theorem same_each (n : Nat) (S : Sto) : ∀ (xs ys : List D) (a b : D), (∀ p ∈ xs.zip ys, m__law_same n [p.1, p.2] S = .ok (.val (.bl true)) S) →
    lcR (gT (gNC (gN 2) (gNC (gN 3) gN0))) cYes (eCall (m__law_same n) [] (aCons (eV 2) (aCons (eV 3) aNil))) [.v a, .v b, .no, .no] (zipD xs ys) S = .ok ((xs.zip ys).map fun _ => D.bl true) S
  | [], _, _, _, _ => rfl
  | _ :: _, [], _, _, _ => rfl
  | x :: xs, y :: ys, a, b, h => by
    have h1 : m__law_same n [x, y] S = _ := h (x, y) List.mem_cons_self
    have h2 := same_each n S xs ys a b fun p hp => h p (List.mem_cons_of_mem _ hp)
    rw [zipD, lcR]
    simp [h1, h2]
theorem same_listsT (n : Nat) (S : Sto) (xs ys : List D) (hl : xs.length = ys.length) (hz : xs.length ≤ 100000) (h : ∀ p ∈ xs.zip ys, m__law_same n [p.1, p.2] S = .ok (.val (.bl true)) S) : m__law_same (n + 1) [.lst xs, .lst ys] S = .ok (.val (.bl true)) S := by
  have lc := same_each n S xs ys (.lst xs) (.lst ys) h
  have sz := szB_of (n := min xs.length ys.length) (by omega)
  have two := szB_of (n := 2) (by decide)
  have fa : fAll S [.lst ((xs.zip ys).map fun _ => D.bl true)] = some (.bl true) := by
    have := fAll_eq S ((xs.zip ys).map fun _ => true)
    rw [List.map_map] at this
    have this : fAll S [.lst ((xs.zip ys).map fun _ => D.bl true)] = _ := this
    rw [this]
    simp
  have e : (itZA (aCons (eV 0) (aCons (eV 1) aNil))) [.v (.lst xs), .v (.lst ys), .no, .no] S = .ok (zipD xs ys) S := rfl
  have body : (fLc (itZA (aCons (eV 0) (aCons (eV 1) aNil))) (gT (gNC (gN 2) (gNC (gN 3) gN0))) cYes (eCall (m__law_same n) [] (aCons (eV 2) (aCons (eV 3) aNil))) [2, 3]) [.v (.lst xs), .v (.lst ys), .no, .no] S = .ok (.lst ((xs.zip ys).map fun _ => D.bl true)) S := by
    rw [fLc_eq, e, bind_ok']
    erw [lc]
    rw [bind_ok', fin_eq, if_pos (by simpa using sz)]
  unfold m__law_same
  simp [-fLc_eq, two, hl, body, fa]
@[simp] theorem lendV_no : lendV .no = .no := rfl
@[simp] theorem lendV_ref (n : Nat) : lendV (.v (.ref n)) = .no := rfl
@[simp] theorem lendV_scr (n : List Int) : lendV (.v (.scr n)) = .v (.scr n) := rfl
@[simp] theorem lendV_int (n : Int) : lendV (.v (.int n)) = .v (.int n) := rfl
end Fb
namespace Fb
open PySem L2 Mm Gf
theorem rows_ok (S : Sto) (rs : List Nat) (w : Nat) : m_Fold_rows [fold rs w] S = .ok (.val (.tup (nl rs))) S := by
  simp [m_Fold_rows]
theorem fAny_eq (S : Sto) (bs : List Bool) : fAny S [.lst (bs.map D.bl)] = some (.bl (bs.any id)) := by
  show (blsOf (bs.map D.bl)).map _ = _
  rw [blsOf_map]
  rfl
end Fb
namespace Mm
open PySem PySem.Spec PyProof.Rows L2 PpSet
def ddp (l : List Int) : List Int := l.foldl (fun xs i => if i ∈ xs then xs else xs ++ [i]) []
theorem ddp_go (l : List Int) : ∀ xs : List Int, xs.Nodup → (l.foldl (fun xs i => if i ∈ xs then xs else xs ++ [i]) xs).Nodup ∧ (∀ i, i ∈ l.foldl (fun xs i => if i ∈ xs then xs else xs ++ [i]) xs ↔ i ∈ xs ∨ i ∈ l) ∧ (l.foldl (fun xs i => if i ∈ xs then xs else xs ++ [i]) xs).length ≤ xs.length + l.length := by
  induction l with
  | nil => exact fun xs h => ⟨h, fun i => by simp, by simp⟩
  | cons c l ih =>
    intro xs h
    rw [List.foldl_cons]
    by_cases hc : c ∈ xs
    · rw [if_pos hc]
      obtain ⟨a, b, d⟩ := ih xs h
      refine ⟨a, fun i => ?_, by simp; omega⟩
      rw [b i, List.mem_cons]
      constructor
      · rintro (z | z)
        · exact .inl z
        · exact .inr (.inr z)
      · rintro (z | z | z)
        · exact .inl z
        · exact .inl (z ▸ hc)
        · exact .inr z
    · rw [if_neg hc]
      obtain ⟨a, b, d⟩ := ih (xs ++ [c]) (by
        rw [List.nodup_append]
        exact ⟨h, by simp, fun x hx y hy e => hc (by simp at hy; rw [← hy, ← e]; exact hx)⟩)
      refine ⟨a, fun i => ?_, by simp at d ⊢; omega⟩
      rw [b i, List.mem_cons, List.mem_append, List.mem_singleton, or_assoc]
theorem ddp_nodup (l : List Int) : (ddp l).Nodup := (ddp_go l [] List.nodup_nil).1
theorem mem_ddp {l : List Int} {i : Int} : i ∈ ddp l ↔ i ∈ l := ((ddp_go l [] List.nodup_nil).2.1 i).trans (by simp)
theorem ddp_len (l : List Int) : (ddp l).length ≤ l.length := by
  have := (ddp_go l [] List.nodup_nil).2.2
  unfold ddp
  simpa using this
section
variable {X : Cx} {Y : Gam} {W : WX} {e a b c tg iter elt : Expr} {es rest ifs : List Expr} {ta tb te : TE} {tt tu : TT} {ma mb me : ME} {mt mu : MT} {mf : MF} {t : TA} {m : MA} {pos : Pos} {wi : TI} {mi : MI} {scope : Scope} {own : List (Str × Nat)} {is : List Nat} {g : TG} {mg : MG}
theorem any_freeze {g : Gam} {w0 w : Wd} {H0 H : Hp} {σ : L2.St} {env : Envr} {S : Sto} {O : List (Option Addr)} {p : Addr} {o : HO} (st : StR g w0 H0 w H σ env S O) (ho : H p = some o) (nt : ∀ ps, o ≠ .tbl ps) (n0 : H0 p = none) (ng : w.G p = none) (nr : p ∉ w.rho) (no : ∀ i : Nat, O[i]? ≠ some (some p)) :
    StR g w0 H0 ⟨w.rho, upd w.G p o⟩ H σ env S O ∧ w.le ⟨w.rho, upd w.G p o⟩ := by
  have le : w.le ⟨w.rho, upd w.G p o⟩ := ⟨⟨[], by simp⟩, same_upd ng⟩
  refine ⟨⟨⟨fun b x e => ?_, ⟨st.ok.cells.nd, st.ok.cells.len, fun m b c e1 e2 => ?_⟩, st.ok.tabs, fun b ps e => ?_⟩, ⟨st.fr.le.trans le, st.fr.keep, fun b e => ?_, st.fr.rho, st.fr.dom, st.fr.tb, st.fr.fz⟩, st.l1, st.l2, fun i s x q e1 e2 e3 => ?_, st.inj, st.fresh⟩, le⟩
  · by_cases hb : b = p
    · have e2 : upd w.G p o b = some x := e
      rw [hb, upd_same] at e2
      rw [hb, ho, e2]
    · have e2 : upd w.G p o b = some x := e
      rw [upd_ne hb] at e2
      exact st.ok.ex b x e2
  · obtain ⟨q1, q2⟩ := st.ok.cells.at_ m b c e1 e2
    have ne : b ≠ p := fun z => nr (by rw [← z]; exact List.mem_of_getElem? e1)
    exact ⟨(upd_ne ne).trans q1, q2.move le rfl⟩
  · by_cases hb : b = p
    · have e2 : upd w.G p o b = some (.tbl ps) := e
      rw [hb, upd_same] at e2
      exact nt ps (Option.some.inj e2)
    · have e2 : upd w.G p o b = some (.tbl ps) := e
      rw [upd_ne hb] at e2
      exact st.ok.notab b ps e2
  · have ne : b ≠ p := fun z => e (by rw [z]; exact n0)
    exact (upd_ne ne).trans (st.fr.newG b e)
  · have q' := st.sl i s x q e1 e2 e3
    cases s with
    | no => exact q'
    | v d =>
      obtain ⟨z1, v, z2, z3⟩ := q'
      exact ⟨z1, v, z2, z3.mono le⟩
    | o c' =>
      obtain ⟨p', z1, z2, z3, z4⟩ := q'
      have ne : p' ≠ p := fun z => no i (by rw [e3, z1, z])
      exact ⟨p', z1, z2, (upd_ne ne).trans z3, z4.move le rfl⟩
end
end Mm
namespace Gf
def tops (xs : List Nat) : List Nat := (bas xs).map Nat.log2
end Gf
namespace Gf
open Mm
def can (xs : List Nat) : List Nat := nsrt (bas xs)
theorem plain_sorted (k : Nat) : (plain k).Pairwise (· ≤ ·) := by
  unfold plain
  rw [List.pairwise_map]
  exact List.pairwise_lt_range.imp fun h => Nat.pow_le_pow_right (by decide) (Nat.le_of_lt h)
end Gf
namespace Mm
open PySem L2
def NX (o : Out) (Q : Envr → Sto → Prop) : Prop := match o with
  | .nx e S => Q e S
  | _ => False
@[simp] theorem NX_nx (e : Envr) (S : Sto) (Q : Envr → Sto → Prop) : NX (.nx e S) Q = Q e S := rfl
theorem NX_seq {a b : MS} {env : Envr} {S : Sto} {Q : Envr → Sto → Prop} (h : NX (a env S) fun e S1 => NX (b e S1) Q) : NX (sSeq a b env S) Q := by
  rw [sSeq_eq]
  cases q : a env S with
  | nx e S1 => rw [q] at h; exact h
  | _ => rw [q] at h; exact False.elim h
theorem NX_iff {o : Out} {Q : Envr → Sto → Prop} : NX o Q ↔ ∃ e S, o = .nx e S ∧ Q e S := by
  constructor
  · intro h
    cases o with
    | nx e S => exact ⟨e, S, rfl, h⟩
    | _ => exact False.elim h
  · rintro ⟨e, S, rfl, h⟩
    exact h
theorem NX_for {g : MG} {b : MS} {ds : List D} {env : Envr} {S : Sto} {Q : Envr → Sto → Prop} (I : List D → Envr → Sto → Prop) (h0 : I ds env S)
    (step : ∀ d ds env S, I (d :: ds) env S → ∃ e1, g d env = some e1 ∧ NX (b e1 S) fun e2 S2 => I ds e2 S2) (fin : ∀ e S, I [] e S → Q e S) : NX (forL g b ds env S) Q := by
  obtain ⟨e', S', h1, h2⟩ := forL_inv (I := I) (fun d ds env S h => by
    obtain ⟨e1, h1, h2⟩ := step d ds env S h
    obtain ⟨e2, S2, h3, h4⟩ := NX_iff.mp h2
    exact ⟨e1, h1, e2, S2, .inl h3, h4⟩) ds env S h0
  rw [h1]
  exact fin e' S' h2
def RX {α : Type} (o : R α) (Q : α → Sto → Prop) : Prop := match o with
  | .ok r S => Q r S
  | _ => False
@[simp] theorem RX_ok {α : Type} (e : α) (S : Sto) (Q : α → Sto → Prop) : RX (.ok e S) Q = Q e S := rfl
theorem RX_iff {α : Type} {o : R α} {Q : α → Sto → Prop} : RX o Q ↔ ∃ e S, o = .ok e S ∧ Q e S := by
  constructor
  · intro h
    cases o with
    | ok e S => exact ⟨e, S, rfl, h⟩
    | _ => exact False.elim h
  · rintro ⟨e, S, rfl, h⟩
    exact h
def EX (o : Out) (Q : Ret → Sto → Prop) : Prop := match o with
  | .nx _ S => Q (.val .non) S
  | .rt r S => Q r S
  | _ => False
@[simp] theorem EX_nx (e : Envr) (S : Sto) (Q : Ret → Sto → Prop) : EX (.nx e S) Q = Q (.val .non) S := rfl
@[simp] theorem EX_rt (r : Ret) (S : Sto) (Q : Ret → Sto → Prop) : EX (.rt r S) Q = Q r S := rfl
theorem EX_fn {n : Nat} {m : MS} {ds : List D} {S : Sto} {Q : Ret → Sto → Prop} (h : EX (m (startE n ds) S) Q) : RX (mFn n m ds S) Q := by
  unfold mFn
  cases q : m (startE n ds) S with
  | nx e S1 => rw [q] at h; exact h
  | rt r S1 => rw [q] at h; exact h
  | _ => rw [q] at h; exact False.elim h
theorem EX_seq {a b : MS} {env : Envr} {S : Sto} {Q : Ret → Sto → Prop} (h : NX (a env S) fun e S1 => EX (b e S1) Q) : EX (sSeq a b env S) Q := by
  rw [sSeq_eq]
  cases q : a env S with
  | nx e S1 => rw [q] at h; exact h
  | _ => rw [q] at h; exact False.elim h
end Mm
namespace Mm
open PySem PySem.Spec PyProof.Rows L2
section
variable {P : Program} {w : World} {A : Around} {E : Value → Shared → Prop} {s : Shared}
set_option maxRecDepth 100000 in
set_option maxHeartbeats 3200000 in
theorem call_set_lstI {l : Addr} {items : Array Value} (ns : List Int) {Q : Value → Shared → Prop} (hh : A.handled = none) (hl : s.heap.IsList l items) (hit : IntsAre items.toList ns) (hb : ns.length + 1 < scanBound)
    (h : ∀ (h' : Heap) (tk c : Nat), SetR w h' s.heap.objs.size (fun j => decide (j ∈ ns)) c → c ≤ ns.length → (∀ b o, s.heap.get? b = some o → h'.get? b = some o) → Q (.ref s.heap.objs.size) { s with heap := h', toks := tk }) :
    wpAny (model P w) A (call (.type "set") [.ref l]) Q E s := by
  have hisz : items.size = ns.length := by
    have q := IntsAre.length hit
    rw [Array.length_toList] at q
    exact q
  obtain ⟨c, tl, hmro⟩ := F.called_set.mro
  have hmade := F.called_set.made
  have hsub := F.called_set.sub
  refine wpAny_call (codeAny_of_tree ?_)
  show wpAny _ _ (callAny (.type "set") _) _ _ _
  refine wpAny_pure ⟨Code.quiet_builtin _ (by decide +kernel), codeAny_builtin F.entry_type_call ?_⟩
  rw [Around.under_plain (weight_type_call_type "set" [.ref l] []) rfl]
  have h1 := F.called_set.notType
  have h2 := F.called_set.canCreate
  have hct := F.typeCall_set_1 (.ref l)
  repeat (any_goals (first | assumption | wp_step))
  refine codeAny_mono (code_set_led1 (.ref l) (E := E) (Q₁ := fun obj s₁ => obj = .ref s.heap.objs.size ∧ s₁ = { s with heap := s.heap.push { cls := .type "set", dict := none, data := .set #[] 0 (.fresh 0 0 (!w.params.followText "set-order")) } }) ⟨rfl, rfl⟩) fun r s₁ hr => ?_
  cases r with
  | error e => exact hr
  | ok fl =>
    cases fl with
    | ret obj =>
      obtain ⟨rfl, rfl⟩ := hr
      have hS : (s.heap.push { cls := .type "set", dict := none, data := .set #[] 0 (.fresh 0 0 (!w.params.followText "set-order")) }).get? s.heap.objs.size = some { cls := .type "set", dict := none, data := .set #[] 0 (.fresh 0 0 (!w.params.followText "set-order")) } := Heap.get?_push_size _ rfl
      have hT : Shared.TypeIs { s with heap := s.heap.push { cls := .type "set", dict := none, data := .set #[] 0 (.fresh 0 0 (!w.params.followText "set-order")) } } (.ref s.heap.objs.size) "set" := ⟨_, hS, rfl⟩
      have hli := F.called_set.init.lookup
      have hbi := F.called_set.init.bind (.ref s.heap.objs.size)
      repeat (any_goals (first | assumption | wp_step))
      refine codeAny_mono (codeAny_call_builtin (R := wants (fun r s₂ => r = .none ∧ ∃ h' tk c, s₂ = { s with heap := h', toks := tk } ∧ SetR w h' s.heap.objs.size (fun j => decide (j ∈ ns)) c ∧ c ≤ ns.length ∧
          (∀ b o, s.heap.get? b = some o → h'.get? b = some o)) E) F.called_set.init.plain F.entry_set_init (check_set_init_1 hT ?_)) fun r₂ s₂ hr₂ => ?_
      · obtain ⟨ol, hol, hcl, nl, hdl⟩ := hl
        obtain ⟨ocls, odict, odata, oslots⟩ := ol
        simp only at hcl hdl
        subst hcl; subst hdl
        have hol' : (s.heap.push { cls := .type "set", dict := none, data := .set #[] 0 (.fresh 0 0 (!w.params.followText "set-order")) }).get? l = some { cls := .type "list", dict := odict, data := .seq items nl, slots := oslots } := Heap.get?_push_of_some _ hol
        have hsls := F.sub_list_set
        have hslf := F.sub_list_frozenset
        have hne : (Value.type "list" == Value.type "dict") = false := by decide
        have hl1 : (s.heap.push { cls := .type "set", dict := none, data := .set #[] 0 (.fresh 0 0 (!w.params.followText "set-order")) }).IsList l items := ⟨_, hol', rfl, nl, rfl⟩
        unfold Builtin.«set.__init__» noKeywords Builtin.Frozenset.updateFrom
        generalize hPI : pyIter = PI
        wp_walk
        subst hPI
        refine wpAny_pyIter_list hl1 ?_
        refine wpAny_bind (wpAny_runValue ?_)
        have hlS : l < s.heap.objs.size := Heap.lt_size hol
        have hh3 : A.in1.in1.in1.handled = none := by simp [hh]
        have hz1 : (s.heap.push { cls := .type "set", dict := none, data := .set #[] 0 (.fresh 0 0 (!w.params.followText "set-order")) }).objs.size = s.heap.objs.size + 1 := Heap.size_push ..
        have hneI : l ≠ (s.heap.push { cls := .type "set", dict := none, data := .set #[] 0 (.fresh 0 0 (!w.params.followText "set-order")) }).objs.size := by
          rw [Heap.size_push]; exact Nat.ne_of_lt (Nat.lt_succ_of_lt hlS)
        have hSf : s.heap.objs.size ∉ [(s.heap.push { cls := .type "set", dict := none, data := .set #[] 0 (.fresh 0 0 (!w.params.followText "set-order")) }).objs.size, l] := by
          rw [Heap.size_push]; simp only [List.mem_cons, List.mem_singleton, List.not_mem_nil, or_false, not_or]
          exact ⟨Nat.ne_of_lt (Nat.lt_succ_self _), Nat.ne_of_gt hlS⟩
        have hval : ∀ (i : Nat) (v : Value), items[i]? = some v → ∃ k t, ns[i]? = some k ∧ v = .int k t := fun i v hv => by
          have hi : i < ns.length := by rw [← hisz]; exact (Array.getElem?_eq_some_iff.mp hv).1
          obtain ⟨t, e⟩ := PyProof.Rows.IntsAre.int_at hit i v (by rw [Array.getElem?_toList]; exact hv)
          refine ⟨ns[i], t, List.getElem?_eq_getElem hi, ?_⟩
          rw [e, List.getD_eq_getElem?_getD, List.getElem?_eq_getElem hi] <;> rfl
        refine set_update_ints ((Walks.list hh3 _ l hneI items).toS) s.heap.objs.size
          hSf ns hisz hb hval (items.size - 0) 0 _ (by omega) (Nat.zero_le _)
          ⟨⟨_, Heap.get?_push_size _ rfl, rfl, rfl⟩, (hl1.push _)⟩ ?hS0 ?hR
        case hS0 =>
          have hget : ((s.heap.push { cls := .type "set", dict := none, data := .set #[] 0 (.fresh 0 0 (!w.params.followText "set-order")) }).push { cls := .type "list_iterator", data := .fields #[.ref l, .int 0 0] }).get? s.heap.objs.size
              = some { cls := .type "set", dict := none, data := .set #[] 0 (.fresh 0 0 (!w.params.followText "set-order")) } := Heap.get?_push_of_some _ hS
          exact ⟨0, Nat.le_refl 0, setR_new_at hget⟩
        case hR =>
          intro s' c' hm hc' hS'
          obtain ⟨h', g2, d', tk', os'⟩ := s'
          have eg : g2 = s.gens := hm.gens
          have ed : d' = s.drawn := hm.drawn
          have eo : os' = s.os := hm.os
          subst eg; subst ed; subst eo
          show wpAny _ _ _ _ _ _
          refine wpAny_pure ?_
          show wpAny _ _ (ret Value.none) _ _ _
          rw [hisz] at hc'
          refine wpAny_pure ⟨rfl, h', tk', c', rfl, hS', hc', fun b o e => ?_⟩
          have hb0 : b < s.heap.objs.size := Heap.lt_size e
          have hb1 : b ≠ s.heap.objs.size := Nat.ne_of_lt hb0
          have hb2 : b ≠ (s.heap.push { cls := .type "set", dict := none, data := .set #[] 0 (.fresh 0 0 (!w.params.followText "set-order")) }).objs.size := by
            rw [Heap.size_push]; exact Nat.ne_of_lt (Nat.lt_succ_of_lt hb0)
          exact hm.heap b o (by simp only [List.mem_cons, List.mem_singleton, List.not_mem_nil, or_false, not_or]; exact ⟨hb1, hb2⟩) (Heap.get?_push_of_some _ (Heap.get?_push_of_some _ e))
      · cases r₂ with
        | error e => exact hr₂
        | ok fl₂ =>
          cases fl₂ with
          | ret r =>
            obtain ⟨rfl, h', tk, c', rfl, hS', hc', hk'⟩ := hr₂
            repeat (any_goals (first | assumption | wp_step))
            exact h _ _ _ hS' hc' hk'
          | _ => exact hr₂.elim
    | _ => exact hr.elim
end
section
variable {P : Program} {w : World} {A : Around} {E : Value → Shared → Prop} {s : Shared}
theorem sorted_setN {a : Addr} {S : Int → Bool} {n : Nat} {Q : Value → Shared → Prop} (R : SetR w s.heap a S n) (hh : A.handled = none)
    (hQ : ∀ s' p (out : Array Value) (c : Nat) (ns : List Int), (∀ b o, s.heap.get? b = some o → s'.heap.get? b = some o) → s'.gens = s.gens → s'.os = s.os → s.heap.objs.size ≤ p →
      s'.heap.get? p = some (seqObj "list" out c) → IntsAre out.toList ns → ns.Pairwise (· < ·) → (∀ k, k ∈ ns ↔ S k = true) → ns.length = n → Q (.ref p) s') :
    wpAny (model P w) A (call (.builtin "sorted") [.ref a]) Q E s := by
  obtain ⟨o, es, ep, t, ho, hex, hd, g, nd, hm, hb, hf, hn, hr, hl⟩ := R
  refine Calls.call_function_entry kind_sorted plain_sorted entry_sorted (args_sorted1 _) ?_
  unfold Builtin.«sorted»
  refine wpAny_bind (m := checkCount "sorted" 1 1 _) (wpAny_pure ?_)
  refine wpAny_bind (collect_set (A := A.in1) hh ⟨o, ho, hex.1, hd⟩ hf hb hr hl fun s1 vs k1 hz g1 o1 pm => ?_)
  have hvl : vs.length = n := by rw [pm.length_eq, List.length_map, Array.length_toList]; exact hn
  have hvz : vs.length ≤ sizeLine := by rw [hvl, ← hn]; exact fits_of_scanBound hb
  have hI : IntsAre vs (vs.map Builtin.Re.reRawOf) := ints_of vs fun v hv => by
    obtain ⟨e, he, q⟩ := List.mem_map.mp (pm.mem_iff.mp hv)
    obtain ⟨k, tk, h1, _⟩ := g e he
    exact ⟨k, tk, by rw [← q]; exact h1⟩
  have pk : (vs.map Builtin.Re.reRawOf).Perm (es.toList.map keyOf) := by
    have q := pm.map Builtin.Re.reRawOf
    rw [List.map_map] at q
    exact q
  refine wpAny_bind (wpAny_newList ?_ hvz)
  have hoL : (s1.heap.push (seqObj "list" vs.toArray 0)).get? s1.heap.objs.size = some (seqObj "list" vs.toArray 0) := Heap.get?_push_size _ rfl
  refine wpAny_bind (wpAny_holding (wpAny_call_entry slot_list_sort ⟨_, hoL, rfl⟩ entry_list_sort (SrtO.list_sort_ord SrtO.swo_int hoL hvz (fun h2 => SrtO.ints_sortable hI h2) fun out hs hb => ⟨_, rfl, ?_⟩) (args_list_sort _)))
  obtain ⟨a1, a2, a3⟩ := SrtO.ints_out hI hs hb
  obtain ⟨c, hc⟩ := sortedHeap_at (vs := vs) (out := out.toArray) hoL
  have pn : (out.map SrtO.iv).Perm (es.toList.map keyOf) := a2.trans pk
  refine wpAny_pure ⟨_, rfl, hQ _ s1.heap.objs.size out.toArray c (out.map SrtO.iv) (fun b u e => ?_) g1 o1 hz hc a1 (lt_of_le_nodup _ a3 (pn.nodup_iff.mpr nd)) (fun k => by rw [pn.mem_iff, ← hm k]) ?_⟩
  · have q := k1 b u e
    have hlt := Heap.lt_size q
    show (sortedHeap (s1.heap.push (seqObj "list" vs.toArray 0)) s1.heap.objs.size vs out.toArray).get? b = some u
    rw [sortedHeap_old (Nat.ne_of_lt hlt) (by rw [size_push']; exact Nat.lt_succ_of_lt hlt)]
    exact Heap.get?_push_of_some _ q
  · rw [pn.length_eq, List.length_map, Array.length_toList]; exact hn
theorem setR_count {h : Heap} {a : Addr} {ns : List Int} {c : Nat} (R : SetR w h a (fun j => decide (j ∈ ns)) c) : c = (ddp ns).length := by
  obtain ⟨o, es, ep, t, ho, hex, hd, g, nd, hm, hb, hf, hn, hr, hl⟩ := R
  have p : (es.toList.map keyOf).Perm (ddp ns) := (List.perm_ext_iff_of_nodup nd (ddp_nodup ns)).mpr fun k => by
    rw [← hm k, mem_ddp]
    simp
  rw [← p.length_eq, List.length_map, Array.length_toList, hn]
end
section
variable {X : Cx}
def rSetI (w : World) (K : PySem.W.Frag) : List V → Hp → VK → Prop := fun vs H Q => ∃ (a : Addr) (ns : List Int), vs = [V.ref a] ∧ SqL K H a (ns.map V.int) ∧ ns.length + 1 < scanBound ∧
  ∀ p, H p = none → Q (.ref p) (upd H p (SetO w p (fun j => decide (j ∈ ns)) (ddp ns).length))
theorem cr_setI (hc : X.calm = true) : CallR X (.type "set") (rSetI X.w X.K) := by
  intro pins s σ H vs us Q I r h
  obtain ⟨a, ns, rfl, hs, hb, q⟩ := h
  rw [Vals.ref1 r]
  obtain ⟨its, rv, hl, _⟩ := I.list hs
  refine call_set_lstI ns (I.ok.hd hc) hl.isList rv.ints hb fun h' tk c R hc2 hk => ?_
  have ec := setR_count R
  subst ec
  exact ⟨.ref _, _, I.laid (t' := tk) hk (Nat.le_refl _) (setO_new R), rfl, q _ (I.hok.fresh (Nat.le_refl _))⟩
def rSortedS (w : World) : List V → Hp → VK → Prop := fun vs H Q => ∃ (a : Addr) (S : Int → Bool) (n : Nat), vs = [V.ref a] ∧ H a = some (SetO w a S n) ∧ n ≤ 100000 ∧
  ∀ (ns : List Int) (p : Addr), ns.Pairwise (· < ·) → (∀ k : Int, k ∈ ns ↔ S k = true) → ns.length = n → H p = none → Q (.ref p) (upd H p (.lst (ns.map V.int)))
theorem cr_sortedS (hc : X.calm = true) : CallR X (.builtin "sorted") (rSortedS X.w) := by
  intro pins s σ H vs us Q I r h
  obtain ⟨a, S, n, rfl, ha, h64, q⟩ := h
  have R := setO_get I ha
  rw [Vals.ref1 r]
  refine sorted_setN R (I.ok.hd hc) fun s' p out c ns k g o hp hg hi hs hm hl => ?_
  have hlen : (ns.map V.int).length ≤ sizeLine := by rw [List.length_map, hl, sizeLine_eq]; omega
  have hn : H p = none := I.hok.fresh hp
  have J : Inv X pins σ (upd H p (.lst (ns.map V.int))) { s with heap := s'.heap, gens := s'.gens, drawn := s'.drawn, toks := s'.toks } :=
    I.call (ch := []) (Un.laid k hp hn) (I.hok.laid k hp ⟨hlen, out.toList, c, vals_of_ints hi, hg⟩) (by rw [g]; exact I.bare) (fun _ z => nomatch z)
  have e : s' = { s with heap := s'.heap, gens := s'.gens, drawn := s'.drawn, toks := s'.toks } := by
    cases s'
    cases s
    cases o
    rfl
  rw [e]
  exact ⟨.ref p, _, J, rfl, q ns p hs hm hl hn⟩
end
end Mm
namespace Mm
open PySem L2
theorem nt_setO {w : World} {a : Addr} {S : Int → Bool} {n : Nat} : ∀ ps, SetO w a S n ≠ .tbl ps := fun _ z => by unfold SetO at z; cases z
def fSet (m : ME) : Envr → Sto → R (List Int) := fun env S => (m env S).bind fun d S1 => match d with
  | .lst ds => (match intsOf ds with
    | some ns => if decide (ns.length ≤ 4000) then .ok ns S1 else .stuck
    | none => .stuck)
  | _ => .stuck
theorem sim_set {g : Gam} {W : WX} {wo : World} {te : TE} {me : ME} (h : SimE g W te me) {w0 w : Wd} {H0 H : Hp} {σ : L2.St} {env : Envr} {S : Sto} {O : List (Option Addr)} {Q : VK} (st : StR g w0 H0 w H σ env S O)
    (p : PostX g W w0 H0 w σ env O (fSet me env S) (fun ns _ w' H' => ∀ p, H' p = some (SetO wo p (fun j => decide (j ∈ ns)) (ddp ns).length) → Q (.ref p) H')) : tCB (rSetI wo g.K) (tCons te tNil) σ H Q := by
  refine h w0 H0 w H σ env S O _ st ((PostX.bind p).imp fun d S1 w1 H1 st1 l1 p1 v r => ?_)
  show rSetI wo g.K [v] H1 Q
  cases d with
  | lst ds =>
    obtain ⟨a, vs, e1, e2, e3⟩ := rep_lst r
    simp only [] at p1
    cases y : intsOf ds with
    | none => rw [y] at p1; exact False.elim p1
    | some ns =>
      rw [y] at p1
      simp only [] at p1
      split at p1
      · rename_i hm
        have ev : vs = ns.map V.int := intsOf_rep (g := g) (w := w1) y e3
        have hz := of_decide_eq_true hm
        refine ⟨a, ns, by rw [e1], .inl (.inl ?_), ?_, fun q hq => ?_⟩
        · rw [← ev]
          exact st1.ok.ex _ _ e2
        · unfold scanBound; omega
        · exact p1 w1 _ (st1.lay hq nt_setO) (.refl w1) q upd_same
      · exact False.elim p1
  | _ => exact False.elim p1
def srtS (ns : List Int) : List Int := isrt (ddp ns)
def fSortedSet (m : ME) : MF := fun env S => (fSet m env S).bind fun ns S1 => .ok (.lst ((srtS ns).map D.int)) S1
theorem srtS_of {ns ms : List Int} (h1 : ms.Pairwise (· < ·)) (h2 : ∀ k, k ∈ ms ↔ k ∈ ns) : ms = srtS ns := by
  have nd : ms.Nodup := h1.imp fun h => Int.ne_of_lt h
  have p : ms.Perm (ddp ns) := (List.perm_ext_iff_of_nodup nd (ddp_nodup ns)).mpr fun k => by rw [h2, mem_ddp]
  exact sorted_unique (p.trans (isrt_perm _).symm) (h1.imp Int.le_of_lt) (isrt_sorted _)
section
variable {X : Cx} {Y : Gam} {W : WX} {e : Expr} {te : TE} {me : ME} {p p2 pos pos2 : Pos}
theorem pe_set (hc : X.calm = true) (hm : X.mg "set" = none) (he : PE X e te) (hv : bootBuiltins "set" = some (.type "set")) (hg : Gl X "set") (h1 : starEach [e] X.env = (false, eval e X.env) :: starEach [] X.env) (h2 : (backTo pos (starEach [] X.env)).any (·.1) = false) :
    PE X (.Call (.Name "set" p) [e] [] pos) (tCB (rSetI X.w X.K) (tCons te tNil)) := pe_callTy (cr_setI hc) hg hm hv (pa_cons he pa_nil h1) (by decide) (by decide) h1 h2
theorem f_srtSet (hm : X.mg "set" = none) (hms : X.mg "sorted" = none) (he : SE X Y W e te me) (hv : bootBuiltins "set" = some (.type "set")) (hvs : bootBuiltins "sorted" = some (.builtin "sorted")) (hc : X.calm = true := by rfl) (hK : X.K = Y.K := by rfl) (hg : Gl X "set" := by rfl) (hgs : Gl X "sorted" := by rfl)
    (h1 : starEach [e] X.env = (false, eval e X.env) :: starEach [] X.env := by rfl) (h2 : (backTo pos2 (starEach [] X.env)).any (·.1) = false := by rfl)
    (h3 : starEach [.Call (.Name "set" p2) [e] [] pos2] X.env = (false, eval (.Call (.Name "set" p2) [e] [] pos2) X.env) :: starEach [] X.env := by rfl) (h4 : (backTo pos (starEach [] X.env)).any (·.1) = false := by rfl) :
    SF X Y W (.Call (.Name "sorted" p) [.Call (.Name "set" p2) [e] [] pos2] [] pos) (tCB (rSortedS X.w) (tCons (tCB (rSetI X.w Y.K) (tCons te tNil)) tNil)) (fSortedSet me) := by
  refine ⟨pe_callB (cr_sortedS hc) hgs hms hvs (pa_cons (hK ▸ pe_set hc hm he.pe hv hg h1 h2) pa_nil h3) (by decide) (by decide) h3 h4, fun w0 H0 w H σ env S O Q st pp => ?_⟩
  show tCB (rSetI X.w Y.K) (tCons te tNil) σ H (fun v H1 => rSortedS X.w [v] H1 Q)
  refine sim_set he.sim st ?_
  have pp2 := PostX.bind pp
  cases q : fSet me env S with
  | stuck => rw [q] at pp2; exact pp2
  | exc c x S1 => rw [q] at pp2; exact pp2
  | ok ns S1 =>
    rw [q] at pp2
    intro w1 H1 st1 l1 a ha
    have k := pp2 w1 H1 st1 l1
    have hz : ns.length ≤ 4000 := by
      unfold fSet at q
      cases z : me env S with
      | stuck => rw [z] at q; cases q
      | exc c x S1 => rw [z] at q; cases q
      | ok d S2 =>
        rw [z] at q
        simp only [R.bind] at q
        split at q
        · split at q
          · split at q
            · rename_i hd
              cases q
              exact of_decide_eq_true hd
            · cases q
          · cases q
        · cases q
    refine ⟨a, _, _, rfl, ha, Nat.le_trans (ddp_len ns) (by omega), fun ms b m1 m2 m3 hb => ?_⟩
    have e := srtS_of (ns := ns) m1 (fun k => by rw [m2 k]; simp)
    subst e
    exact k w1 _ (st1.lay hb nt_lst) (.refl w1) b (st1.own_new hb ⟨_, upd_same, RepL.ints _⟩)
end
end Mm
namespace Mm
open PySem PySem.Spec PyProof.Rows L2
def aCat (m mk : MA) : MA := fun env S => (m env S).bind fun ds S1 => (mk env S1).bind fun es S2 => .ok (ds ++ es) S2
structure SK (X : Cx) (Y : Gam) (W : WX) (kws : List Keyword) (t : TA) (m : MA) : Prop where
  pk : PK X kws t
  sim : SimA Y W t m
  len : ∀ env S ds S1, m env S = .ok ds S1 → ds.length = kws.length
section
variable {X : Cx} {Y : Gam} {W : WX} {e : Expr} {es : List Expr} {te : TE} {me : ME} {p pos kpos : Pos} {kws : List Keyword} {t tk : TA} {m mk : MA} {nm : Str} {x : Str} {k n nk : Nat} {mf : MFn} {ks : List Str}
theorem k_nil : SK X Y W [] tNil aNil := ⟨pk_nil, fun w0 H0 w H σ env S O Q st p => p w H st (.refl w) [] RepL.nil_, fun env S ds S1 e => by cases e; rfl⟩
theorem k_cons (he : SE X Y W e te me) (hr : SK X Y W kws t m) : SK X Y W (⟨some nm, e, kpos⟩ :: kws) (tCons te t) (aCons me m) := ⟨pk_cons he.pe hr.pk, fun w0 H0 w H σ env S O Q st p =>
  he.sim w0 H0 w H σ env S O _ st ((PostX.bind p).imp fun d S1 w1 H1 st1 l1 p1 v r => hr.sim w0 H0 w1 H1 σ env S1 O _ st1 ((PostX.bind p1).imp fun ds S2 w2 H2 st2 l2 p2 vs rs => p2 w2 H2 st2 (.refl w2) (v :: vs) (RepL.cons_ (r.mono l2) rs))), fun env S ds S1 h => by
  unfold aCons at h
  cases e1 : me env S with
  | stuck => rw [e1] at h; cases h
  | exc c q s => rw [e1] at h; cases h
  | ok d s =>
    rw [e1] at h
    have h : ((m env s).bind fun ds S2 => R.ok (d :: ds) S2) = .ok ds S1 := h
    cases e2 : m env s with
    | stuck => rw [e2] at h; cases h
    | exc c q s => rw [e2] at h; cases h
    | ok d2 s2 =>
      rw [e2] at h
      have h : R.ok (d :: d2) s2 = .ok ds S1 := h
      cases h
      rw [List.length_cons, List.length_cons, hr.len _ _ _ _ e2]⟩
end
theorem kbn_of {K : PySem.W.Frag} {x qual : Str} {params : Arguments} {body : List Stmt} {scope : Scope} {kws : List (Str × V)} {f : Addr} {fd : FuncData} {ps : List Str} (F : FunD K x qual params body scope [] kws f fd) (n : Nat) (ks : List Str)
    (h : ∀ (kV doc pm : Value) (an : Option Addr) (cdv ct : Value) (us ws : List Value), us.length = n → ws.length = ks.length → bindArgs (PySem.W.fnOf x qual params body scope .none kV doc pm an cdv ct) ⟨us, ks.zip ws⟩ = pure (ps.zip (us ++ ws))) : KBn K fd ps n ks (fun us ws => us ++ ws ++ []) (fun vs zs => vs ++ zs ++ []) := by
  obtain ⟨oc, od, dV, kV, doc, pm, an, cdv, ct, osl, rfl, lk, hcd, hD, hK⟩ := F.ex
  rcases hD with ⟨_, rfl⟩ | ⟨e, _⟩
  · refine ⟨fun s us ws X l1 l2 => ?_, fun {vs us zs ws} r1 r2 => ?_⟩
    · rw [List.append_nil]
      exact .of_eq (h kV doc pm an cdv ct us ws l1 l2)
    · rw [List.append_nil, List.append_nil]
      exact r1.append r2
  · exact absurd rfl e
end Mm
namespace Mm
open PySem L2
def keyD : D → Option Key
  | .int i => some (.inl i)
  | .str x => some (.inr x)
  | _ => none
theorem rep_key {g : Gam} {w : Wd} {d : D} {v : V} {k : Key} (r : Rep g w d v) (h : keyD d = some k) : v = kV k := by
  cases d with
  | int i => cases h; exact rep_int r
  | str x => cases h; exact rep_str r
  | _ => cases h
def lookK (ks : List (Key × D)) (k : Key) : Option D := (ks.find? fun kv => decide (kv.1 = k)).map (·.2)
def putD (ks : List (Key × D)) (k : Key) (d : D) : List (Key × D) := if (ks.any fun kv => decide (kv.1 = k)) then ks.map fun kv => if kv.1 = k then (kv.1, d) else kv else ks ++ [(k, d)]
theorem RepK.nil_ {g : Gam} {w : Wd} : RepK g w [] [] := by unfold RepK; rfl
theorem RepK.cons_ {g : Gam} {w : Wd} {k : Key} {d : D} {ds : List (Key × D)} {v : V} {vs : List (Key × V)} (a : Rep g w d v) (b : RepK g w ds vs) : RepK g w ((k, d) :: ds) ((k, v) :: vs) := by
  unfold RepK
  exact ⟨v, vs, rfl, a, b⟩
theorem RepK.inv {g : Gam} {w : Wd} {k : Key} {d : D} {ds : List (Key × D)} {vs : List (Key × V)} (h : RepK g w ((k, d) :: ds) vs) : ∃ v r, vs = (k, v) :: r ∧ Rep g w d v ∧ RepK g w ds r := by
  unfold RepK at h
  exact h
theorem RepK.look {g : Gam} {w : Wd} (k : Key) : ∀ {ds : List (Key × D)} {vs : List (Key × V)}, RepK g w ds vs → (match lookK ds k with
    | some d => ∃ v, valV vs k = some v ∧ Rep g w d v
    | none => valV vs k = none)
  | [], vs, h => by
    unfold RepK at h
    subst h
    rfl
  | (k', d) :: ds, vs, h => by
    obtain ⟨v, r, rfl, a, b⟩ := h.inv
    have ih := RepK.look k b
    by_cases e : k' = k
    · have e1 : lookK ((k', d) :: ds) k = some d := by simp [lookK, e]
      rw [e1]
      exact ⟨v, valV_pos e, a⟩
    · have e1 : lookK ((k', d) :: ds) k = lookK ds k := by simp [lookK, e]
      rw [e1, valV_neg e]
      exact ih
theorem RepK.any_ {g : Gam} {w : Wd} (k : Key) : ∀ {ds : List (Key × D)} {vs : List (Key × V)}, RepK g w ds vs → (ds.any fun kv => decide (kv.1 = k)) = (vs.any fun kv => decide (kv.1 = k))
  | [], vs, h => by
    unfold RepK at h
    subst h
    rfl
  | (k', d) :: ds, vs, h => by
    obtain ⟨v, r, rfl, a, b⟩ := h.inv
    rw [List.any_cons, List.any_cons, RepK.any_ k b]
theorem RepK.app_ {g : Gam} {w : Wd} : ∀ {ds es : List (Key × D)} {vs us : List (Key × V)}, RepK g w ds vs → RepK g w es us → RepK g w (ds ++ es) (vs ++ us)
  | [], es, vs, us, h, k => by
    unfold RepK at h
    subst h
    exact k
  | (k', d) :: ds, es, vs, us, h, k => by
    obtain ⟨v, r, rfl, a, b⟩ := h.inv
    exact RepK.cons_ a (RepK.app_ b k)
theorem RepK.map_ {g : Gam} {w : Wd} {k : Key} {d : D} {v : V} (q : Rep g w d v) : ∀ {ds : List (Key × D)} {vs : List (Key × V)}, RepK g w ds vs → RepK g w (ds.map fun kv => if kv.1 = k then (kv.1, d) else kv) (vs.map fun kv => if kv.1 = k then (kv.1, v) else kv)
  | [], vs, h => by
    unfold RepK at h
    subst h
    exact RepK.nil_
  | (k', e) :: ds, vs, h => by
    obtain ⟨u, r, rfl, a, b⟩ := h.inv
    have ih := RepK.map_ (k := k) q b
    by_cases z : k' = k
    · simp only [List.map_cons, z, if_true]
      exact RepK.cons_ q ih
    · simp only [List.map_cons, z, if_false]
      exact RepK.cons_ a ih
theorem RepK.put_ {g : Gam} {w : Wd} {k : Key} {d : D} {v : V} (q : Rep g w d v) {ds : List (Key × D)} {vs : List (Key × V)} (h : RepK g w ds vs) : RepK g w (putD ds k d) (putK vs k v) := by
  unfold putD putK
  rw [h.any_ k]
  split
  · exact RepK.map_ q h
  · exact h.app_ (RepK.cons_ q RepK.nil_)
theorem RepK.len {g : Gam} {w : Wd} : ∀ {ds : List (Key × D)} {vs : List (Key × V)}, RepK g w ds vs → ds.length = vs.length
  | [], vs, h => by
    unfold RepK at h
    subst h
    rfl
  | (k', d) :: ds, vs, h => by
    obtain ⟨v, r, rfl, a, b⟩ := h.inv
    rw [List.length_cons, List.length_cons, RepK.len b]
theorem rep_dic {g : Gam} {w : Wd} {ks : List (Key × D)} {v : V} (h : Rep g w (.dic ks) v) : ∃ a vs, v = .ref a ∧ Rd w.G a (.dK vs) ∧ RepK g w ks vs := by
  unfold Rep at h
  exact h
def dicOf (S : Sto) : D → Option (List (Key × D))
  | .dic ks => some ks
  | .ref n => (match S[n]? with
    | some (.dic ks) => some ks
    | some (.lck ks) => some ks
    | _ => none)
  | _ => none
theorem dicOf_rep {g : Gam} {w : Wd} {H : Hp} {S : Sto} {d : D} {v : V} {ks : List (Key × D)} (k : Ok g w H S) (r : Rep g w d v) (h : dicOf S d = some ks) : ∃ a vs, v = .ref a ∧ Rd H a (.dK vs) ∧ RepK g w ks vs := by
  cases d with
  | dic ks' =>
    cases h
    obtain ⟨a, vs, e1, e2, e3⟩ := rep_dic r
    exact ⟨a, vs, e1, same_rd k.ex e2, e3⟩
  | ref n =>
    have h : (match S[n]? with
      | some (.dic ks) => some ks
      | some (.lck ks) => some ks
      | _ => none) = some ks := h
    cases q : S[n]? with
    | none => rw [q] at h; cases h
    | some c =>
      rw [q] at h
      cases c with
      | dic ks' =>
        cases h
        obtain ⟨a, e1, e2⟩ := rep_ref r
        obtain ⟨_, vs, e3, e4⟩ := k.cells.at_ n a _ e1 q
        exact ⟨a, vs, e2, .inl e3, e4⟩
      | lck ks' =>
        cases h
        obtain ⟨a, e1, e2⟩ := rep_ref r
        obtain ⟨_, o, vs, e3, e4⟩ := k.cells.at_ n a _ e1 q
        exact ⟨a, vs, e2, .inr ⟨o, e3⟩, e4⟩
      | _ => cases h
  | _ => cases h
def dicA (env : Envr) (S : Sto) (i : Nat) : Option (List (Key × D)) := match env[i]? with
  | some (.o (.dic ks)) => some ks
  | some (.v d) => dicOf S d
  | _ => none
def hasA (env : Envr) (i : Nat) : Bool := match env[i]? with
  | some (.o (.dic _)) => true
  | some (.v _) => true
  | _ => false
section
variable {g : Gam} {w0 w w1 : Wd} {H0 H H1 : Hp} {σ : L2.St} {env : Envr} {S S1 : Sto} {O : List (Option Addr)}
theorem hasA_at {i : Nat} (st : StR g w0 H0 w H σ env S O) (h : hasA env i = true) : ∃ v, σ[i]? = some (some v) := by
  unfold hasA at h
  split at h
  · rename_i ks e
    obtain ⟨q, e1, _⟩ := st.own_at e
    exact ⟨_, e1⟩
  · rename_i d e
    have hi : i < σ.length := by
      rw [← st.l1]
      exact (List.getElem?_eq_some_iff.mp e).1
    have hO : i < O.length := by
      rw [st.l2]
      exact hi
    obtain ⟨_, v, e1, r⟩ := st.sl i (.v d) σ[i] O[i] e (List.getElem?_eq_getElem hi) (List.getElem?_eq_getElem hO)
    exact ⟨v, by rw [List.getElem?_eq_getElem hi, e1]⟩
  · cases h
theorem dicA_at {i : Nat} {ks : List (Key × D)} {v : V} (st : StR g w0 H0 w H σ env S O) (hv : σ[i]? = some (some v)) (h : dicA env S i = some ks) : ∃ a vs, v = .ref a ∧ Rd H a (.dK vs) ∧ RepK g w ks vs := by
  unfold dicA at h
  split at h
  · rename_i ks' e
    cases h
    obtain ⟨q, e1, e2, e3, ⟨vs, e4, e5⟩, _⟩ := st.own_at e
    rw [hv] at e1
    have e1 := Option.some.inj (Option.some.inj e1)
    exact ⟨q, vs, e1, .inl e4, e5⟩
  · rename_i d e
    have hi : i < σ.length := by
      rw [← st.l1]
      exact (List.getElem?_eq_some_iff.mp e).1
    have hO : i < O.length := by
      rw [st.l2]
      exact hi
    obtain ⟨_, u, e1, r⟩ := st.sl i (.v d) σ[i] O[i] e (List.getElem?_eq_getElem hi) (List.getElem?_eq_getElem hO)
    rw [List.getElem?_eq_getElem hi, e1] at hv
    have hv := Option.some.inj (Option.some.inj hv)
    subst hv
    exact dicOf_rep st.ok r h
  · cases h
theorem dicA_has {i : Nat} {ks : List (Key × D)} (h : dicA env S i = some ks) : hasA env i = true := by
  unfold dicA at h
  unfold hasA
  cases q : env[i]? with
  | none => rw [q] at h; cases h
  | some s =>
    cases s with
    | no => rw [q] at h; cases h
    | v d => rfl
    | o c =>
      cases c with
      | dic ks => rfl
      | lst ds => rw [q] at h; cases h
      | ins c fs => rw [q] at h; cases h
      | tdc ks => rw [q] at h; cases h
      | lck ks => rw [q] at h; cases h
      | mem ks => rw [q] at h; cases h
      | lkl ks => rw [q] at h; cases h
end
def eDGetA (i : Nat) (mk : ME) : ME := fun env S => if hasA env i then (mk env S).bind fun k S1 => (match keyD k, dicA env S1 i with
  | some k, some ks => opt (lookK ks k) S1
  | _, _ => .stuck) else .stuck
def eDGet (md mk : ME) : ME := fun env S => (md env S).bind fun d S1 => (mk env S1).bind fun k S2 => match keyD k, dicOf S2 d with
  | some k, some ks => opt (lookK ks k) S2
  | _, _ => .stuck
def eDIn (neg : Bool) (mk md : ME) : ME := fun env S => (mk env S).bind fun k S1 => (md env S1).bind fun d S2 => match keyD k, dicOf S2 d with
  | some k, some ks => .ok (.bl (if neg then !(lookK ks k).isSome else (lookK ks k).isSome)) S2
  | _, _ => .stuck
def eDGet2A (i : Nat) (mk mx : ME) : ME := fun env S => (match dicA env S i with
  | some _ => (mk env S).bind fun k S1 => (mx env S1).bind fun x S2 => (match keyD k, dicA env S2 i with
    | some k, some ks => .ok ((lookK ks k).getD x) S2
    | _, _ => .stuck)
  | none => .stuck)
def sDPutA (i : Nat) (mk me : ME) : MS := fun env S => (me env S).out env fun d S1 => if hasA env i then (mk env S1).out env fun k S2 => (match keyD k, env[i]? with
    | some k, some (.o (.dic ks)) => if szB (ks.length + 1) then .nx (env.set i (.o (.dic (putD ks k d)))) S2 else .stuck
    | some k, some (.v (.ref n)) => (match S2[n]? with
      | some (.dic ks) => if szB (ks.length + 1) then .nx env (S2.set n (.dic (putD ks k d))) else .stuck
      | _ => .stuck)
    | _, _ => .stuck) else .stuck
def sDPut (md mk me : ME) : MS := fun env S => (me env S).out env fun d S1 => (md env S1).out env fun o S2 => (mk env S2).out env fun k S3 => (match keyD k, o with
    | some k, .ref n => (match S3[n]? with
      | some (.dic ks) => if szB (ks.length + 1) then .nx env (S3.set n (.dic (putD ks k d))) else .stuck
      | _ => .stuck)
    | _, _ => .stuck)
def fDic0 : MF := fun _ S => .ok (.dic []) S
def eCellOf (mf : MF) : ME := fun env S => (mf env S).bind fun c S1 => .ok (.ref S1.length) (S1 ++ [c])
section
variable {X : Cx} {Y : Gam} {W : WX} {e o k f : Expr} {te td tk tx : TE} {me md mk mx : ME} {mf : MF} {pos pos' p1 apos cpos : Pos}
theorem dget_rd {H : Hp} {a : Addr} {kvs : List (Key × V)} {k : Key} (e : Rd H a (.dK kvs)) : DGet H a (kV k) (valV kvs k) := .inl ⟨kvs, k, e, rfl, rfl⟩
theorem look_get {g : Gam} {w : Wd} {H : Hp} {a : Addr} {vs : List (Key × V)} {ks : List (Key × D)} {k : Key} {d : D} (e : Rd H a (.dK vs)) (r : RepK g w ks vs) (h : lookK ks k = some d) : ∃ v, DGet H a (kV k) (some v) ∧ Rep g w d v := by
  have q := r.look k
  rw [h] at q
  obtain ⟨v, e1, e2⟩ := q
  exact ⟨v, e1 ▸ dget_rd e, e2⟩
theorem nt_dK {vs : List (Key × V)} : ∀ ps, HO.dK vs ≠ .tbl ps := fun _ z => by cases z
theorem s_dgetA (i : Nat) {x : Str} (hu : X.A.units + 64 < cLine) (hk : SE X Y W k tk mk) (hs : NoSl k) (hN : X.N[i]? = some x := by rfl) (hv : Vis X.env.scope x := by first | exact Or.inl rfl | exact Or.inr (Or.inl rfl) | exact Or.inr (Or.inr rfl)) (hd : (x == ("__debug__" : Str)) = false := by decide)
    (hcd : (x == ("__classdict__" : Str)) = false := by decide) : SE X Y W (.Subscript (.Name x p1) k pos) (tDGet (tVar i) tk) (eDGetA i mk) := ⟨pe_dget (by omega) (pv i hN hv hd hcd) hk.pe hs, fun w0 H0 w H σ env S O Q st p => by
  unfold eDGetA at p
  split at p
  · rename_i ha
    obtain ⟨v, e1⟩ := hasA_at st ha
    refine ⟨v, e1, hk.sim w0 H0 w H σ env S O _ st ((PostX.bind p).imp fun kd S1 w1 H1 st1 l1 p1 kv kr => ?_)⟩
    split at p1
    · rename_i kk ks h1 h2
      obtain ⟨a, vs, f1, f2, f3⟩ := dicA_at st1 e1 h2
      obtain ⟨d, f4, f5⟩ := PostX.opt_ p1 st1
      obtain ⟨u, f6, f7⟩ := look_get (k := kk) f2 f3 f4
      rw [rep_key kr h1]
      exact ⟨a, u, f1, f6, f5 w1 H1 st1 (.refl w1) u f7⟩
    · exact False.elim p1
  · exact False.elim p⟩
theorem s_dget (hu : X.A.units + 64 < cLine) (ho : SE X Y W o td md) (hk : SE X Y W k tk mk) (hs : NoSl k) : SE X Y W (.Subscript o k pos) (tDGet td tk) (eDGet md mk) := ⟨pe_dget (by omega) ho.pe hk.pe hs, fun w0 H0 w H σ env S O Q st p =>
  ho.sim w0 H0 w H σ env S O _ st ((PostX.bind p).imp fun dd S1 w1 H1 st1 l1 p1 v r => hk.sim w0 H0 w1 H1 σ env S1 O _ st1 ((PostX.bind p1).imp fun kd S2 w2 H2 st2 l2 p2 kv kr => by
    split at p2
    · rename_i kk ks h1 h2
      obtain ⟨a, vs, f1, f2, f3⟩ := dicOf_rep st2.ok (r.mono l2) h2
      obtain ⟨d, f4, f5⟩ := PostX.opt_ p2 st2
      obtain ⟨u, f6, f7⟩ := look_get (k := kk) f2 f3 f4
      rw [rep_key kr h1]
      exact ⟨a, u, f1, f6, f5 w2 H2 st2 (.refl w2) u f7⟩
    · exact False.elim p2))⟩
theorem look_in {g : Gam} {w : Wd} {H : Hp} {a : Addr} {vs : List (Key × V)} {ks : List (Key × D)} (k : Key) (e : Rd H a (.dK vs)) (r : RepK g w ks vs) : ∃ o, DGet H a (kV k) o ∧ o.isSome = (lookK ks k).isSome := by
  have q := r.look k
  refine ⟨valV vs k, dget_rd e, ?_⟩
  cases z : lookK ks k with
  | none => rw [z] at q; rw [q]; rfl
  | some d =>
    rw [z] at q
    obtain ⟨v, e1, _⟩ := q
    rw [e1]
    rfl
theorem sim_din {neg : Bool} (hk : SimE Y W tk mk) (ho : SimE Y W td md) {w0 w : Wd} {H0 H : Hp} {σ : L2.St} {env : Envr} {S : Sto} {O : List (Option Addr)} {Q : VK} (st : StR Y w0 H0 w H σ env S O)
    (p : PostX Y W w0 H0 w σ env O (eDIn neg mk md env S) (fun d _ w' H' => ∀ v, Rep Y w' d v → Q v H')) : tk σ H fun y H1 => td σ H1 fun v H2 => ∃ a o, v = .ref a ∧ DGet H2 a y o ∧ Q (.bl (if neg then !o.isSome else o.isSome)) H2 :=
  hk w0 H0 w H σ env S O _ st ((PostX.bind p).imp fun kd S1 w1 H1 st1 l1 p1 kv kr => ho w0 H0 w1 H1 σ env S1 O _ st1 ((PostX.bind p1).imp fun dd S2 w2 H2 st2 l2 p2 v r => by
    split at p2
    · rename_i kk ks h1 h2
      obtain ⟨a, vs, f1, f2, f3⟩ := dicOf_rep st2.ok r h2
      obtain ⟨oo, f4, f5⟩ := look_in kk f2 f3
      rw [rep_key kr h1]
      refine ⟨a, oo, f1, f4, ?_⟩
      rw [f5]
      exact p2 w2 H2 st2 (.refl w2) _ rep_bl'
    · exact False.elim p2))
theorem s_din (hu : X.A.units + 64 < cLine) (hk : SE X Y W k tk mk) (ho : SE X Y W o td md) (hm : behindInMarks .In o = false := by rfl) : SE X Y W (.Compare k [.In] [o] pos) (tDIn tk td) (eDIn false mk md) :=
  ⟨pe_cmp (pc_din (by omega) hk.pe ho.pe) hm, fun w0 H0 w H σ env S O Q st p => sim_din (neg := false) hk.sim ho.sim st p⟩
theorem s_dnin (hu : X.A.units + 64 < cLine) (hk : SE X Y W k tk mk) (ho : SE X Y W o td md) (hm : behindInMarks .NotIn o = false := by rfl) : SE X Y W (.Compare k [.NotIn] [o] pos) (tDNotIn tk td) (eDIn true mk md) :=
  ⟨pe_cmp (pc_dnotin (by omega) hk.pe ho.pe) hm, fun w0 H0 w H σ env S O Q st p => sim_din (neg := true) hk.sim ho.sim st p⟩
theorem c_din (hu : X.A.units + 64 < cLine) (hk : SE X Y W k tk mk) (ho : SE X Y W o td md) (hm : behindInMarks .In o = false := by rfl) : SC X Y W (.Compare k [.In] [o] pos) (tB (tDIn tk td)) (cB (eDIn false mk md)) :=
  ⟨pt_cmp (pc_din (by omega) hk.pe ho.pe) hm, sim_test (te := tDIn tk td) (s_din (pos := pos) hu hk ho hm).sim⟩
theorem c_dnin (hu : X.A.units + 64 < cLine) (hk : SE X Y W k tk mk) (ho : SE X Y W o td md) (hm : behindInMarks .NotIn o = false := by rfl) : SC X Y W (.Compare k [.NotIn] [o] pos) (tB (tDNotIn tk td)) (cB (eDIn true mk md)) :=
  ⟨pt_cmp (pc_dnotin (by omega) hk.pe ho.pe) hm, sim_test (te := tDNotIn tk td) (s_dnin (pos := pos) hu hk ho hm).sim⟩
theorem s_dget2A (i : Nat) {x : Str} (hu : X.A.units + 64 < cLine) (hk : SE X Y W k tk mk) (hx : SE X Y W f tx mx) (hN : X.N[i]? = some x := by rfl) (hv : Vis X.env.scope x := by first | exact Or.inl rfl | exact Or.inr (Or.inl rfl) | exact Or.inr (Or.inr rfl)) (hd : (x == ("__debug__" : Str)) = false := by decide)
    (hcd : (x == ("__classdict__" : Str)) = false := by decide) (m : M2 X (.Name x p1) "get" apos k f cpos := by exact ⟨rfl, rfl, rfl, rfl⟩) : SE X Y W (.Call (.Attribute (.Name x p1) "get" apos) [k, f] [] cpos) (tDGet2 (tVar i) tk tx) (eDGet2A i mk mx) :=
  ⟨pe_dget2 (by omega) (pv i hN hv hd hcd) hk.pe hx.pe m, fun w0 H0 w H σ env S O Q st p => by
  unfold eDGet2A at p
  split at p
  · rename_i ks0 h0
    obtain ⟨v, e1⟩ := hasA_at st (dicA_has h0)
    obtain ⟨a, vs, f1, f2, f3⟩ := dicA_at st e1 h0
    refine ⟨v, e1, a, f1, .inl ⟨vs, f2⟩, hk.sim w0 H0 w H σ env S O _ st ((PostX.bind p).imp fun kd S1 w1 H1 st1 l1 p1 kv kr => hx.sim w0 H0 w1 H1 σ env S1 O _ st1 ((PostX.bind p1).imp fun xd S2 w2 H2 st2 l2 p2 xv xr => ?_))⟩
    split at p2
    · rename_i kk ks h1 h2
      obtain ⟨a', vs', g1, g2, g3⟩ := dicA_at st2 e1 h2
      rw [f1] at g1
      cases g1
      rw [rep_key kr h1]
      refine ⟨valV vs' kk, dget_rd g2, ?_⟩
      have q := g3.look kk
      refine p2 w2 H2 st2 (.refl w2) _ ?_
      cases z : lookK ks kk with
      | none => rw [z] at q; rw [q]; exact xr
      | some d =>
        rw [z] at q
        obtain ⟨u, e2, e3⟩ := q
        rw [e2]
        exact e3
    · exact False.elim p2
  · exact False.elim p⟩
theorem t_dputA (i : Nat) {x : Str} (hu : X.A.units + 64 < cLine) (hk : SE X Y W k tk mk) (he : SE X Y W e te me) (hN : X.N[i]? = some x := by rfl) (hv : Vis X.env.scope x := by first | exact Or.inl rfl | exact Or.inr (Or.inl rfl) | exact Or.inr (Or.inr rfl)) (hd : (x == ("__debug__" : Str)) = false := by decide)
    (hcd : (x == ("__classdict__" : Str)) = false := by decide) (hs : swapsWith e (some (.Subscript (.Name x p1) k pos')) pos.line X.env = pure false := by rfl) :
    SS X Y W (.Assign [.Subscript (.Name x p1) k pos'] e pos) (L2.sDPut (tVar i) tk te) (sDPutA i mk me) := ⟨ps_dput (by omega) (pv i hN hv hd hcd) hk.pe he.pe hs, fun w0 H0 w H σ env S O Dn st p => by
  refine he.sim w0 H0 w H σ env S O _ st ((PostS.out p).imp fun d S1 w1 H1 st1 l1 p1 v r => ?_)
  split at p1
  · rename_i ha
    obtain ⟨u, e1⟩ := hasA_at st1 ha
    refine ⟨u, e1, hk.sim w0 H0 w1 H1 σ env S1 O _ st1 ((PostS.out p1).imp fun kd S2 w2 H2 st2 l2 p2 kv kr => ?_)⟩
    split at p2
    · rename_i kk ks h1 h2
      split at p2
      · rename_i hz
        obtain ⟨q, f1, f2, f3, ⟨us, f4, f4'⟩, f5, f6, _⟩ := st2.own_at h2
        rw [e1] at f1
        have f1 := Option.some.inj (Option.some.inj f1)
        have hz2 : us.length < sizeLine := Nat.lt_of_lt_of_le (by rw [← f4'.len]; exact Nat.lt_succ_self _) (szB_le hz)
        rw [rep_key kr h1]
        refine ⟨q, _, f1, DPut.k f4 hz2, ?_⟩
        exact p2 w2 _ σ O (st2.mut h2 f2 ⟨_, upd_same, f4'.put_ (r.mono l2)⟩ nt_dK) (.refl w2)
      · exact False.elim p2
    · rename_i kk n h1 h2
      split at p2
      · rename_i ks hS
        split at p2
        · rename_i hz
          have hi : i < σ.length := by
            rw [← st2.l1]
            exact (List.getElem?_eq_some_iff.mp h2).1
          have hO : i < O.length := by
            rw [st2.l2]
            exact hi
          obtain ⟨_, y, ey, ry⟩ := st2.sl i (.v (.ref n)) σ[i] O[i] h2 (List.getElem?_eq_getElem hi) (List.getElem?_eq_getElem hO)
          rw [List.getElem?_eq_getElem hi, ey] at e1
          have e1 := Option.some.inj (Option.some.inj e1)
          obtain ⟨a, q1, q2⟩ := rep_ref ry
          obtain ⟨_, us, f4, f4'⟩ := st2.ok.cells.at_ n a _ q1 hS
          have hz2 : us.length < sizeLine := Nat.lt_of_lt_of_le (by rw [← f4'.len]; exact Nat.lt_succ_self _) (szB_le hz)
          rw [rep_key kr h1]
          refine ⟨a, _, by rw [← e1]; exact q2, DPut.k f4 hz2, ?_⟩
          obtain ⟨k3, f3⟩ := ok_cell (c' := .dic (putD ks kk d)) st2.ok q1 hS (o := .dK (putK us kk v)) ⟨_, upd_same, f4'.put_ (r.mono l2)⟩ nt_dK
          exact p2 w2 _ σ O (st2.after f3 k3) (.refl w2)
        · exact False.elim p2
      · exact False.elim p2
    · exact False.elim p2
  · exact False.elim p1⟩
theorem t_dput (hu : X.A.units + 64 < cLine) (ho : SE X Y W o td md) (hk : SE X Y W k tk mk) (he : SE X Y W e te me) (hs : swapsWith e (some (.Subscript o k pos')) pos.line X.env = pure false := by rfl) :
    SS X Y W (.Assign [.Subscript o k pos'] e pos) (L2.sDPut td tk te) (sDPut md mk me) := ⟨ps_dput (by omega) ho.pe hk.pe he.pe hs, fun w0 H0 w H σ env S O Dn st p => by
  refine he.sim w0 H0 w H σ env S O _ st ((PostS.out p).imp fun d S1 w1 H1 st1 l1 p1 v r => ?_)
  refine ho.sim w0 H0 w1 H1 σ env S1 O _ st1 ((PostS.out p1).imp fun od S2 w2 H2 st2 l2 p2 ov ro => ?_)
  refine hk.sim w0 H0 w2 H2 σ env S2 O _ st2 ((PostS.out p2).imp fun kd S3 w3 H3 st3 l3 p3 kv kr => ?_)
  split at p3
  · rename_i kk n h1
    split at p3
    · rename_i ks hS
      split at p3
      · rename_i hz
        obtain ⟨a, q1, q2⟩ := rep_ref (ro.mono l3)
        obtain ⟨_, us, f4, f4'⟩ := st3.ok.cells.at_ n a _ q1 hS
        have hz2 : us.length < sizeLine := Nat.lt_of_lt_of_le (by rw [← f4'.len]; exact Nat.lt_succ_self _) (szB_le hz)
        rw [rep_key kr h1]
        refine ⟨a, _, q2, DPut.k f4 hz2, ?_⟩
        obtain ⟨k3, f3⟩ := ok_cell (c' := .dic (putD ks kk d)) st3.ok q1 hS (o := .dK (putK us kk v)) ⟨_, upd_same, f4'.put_ ((r.mono l2).mono l3)⟩ nt_dK
        exact p3 w3 _ σ O (st3.after f3 k3) (.refl w3)
      · exact False.elim p3
    · exact False.elim p3
  · exact False.elim p3⟩
theorem f_dic0 : SF X Y W (.Dict [] [] pos) tDNewK fDic0 := ⟨pe_dnewK, fun w0 H0 w H σ env S O Q st p q hq => p w _ (st.lay hq nt_dK) (.refl w) q (st.own_new hq ⟨[], upd_same, RepK.nil_⟩)⟩
end
end Mm
namespace Mm
open PySem L2
def sClr (i : Nat) : MS := fun env S => match env[i]? with
  | some (.o (.lst _)) => .nx (env.set i (.o (.lst []))) S
  | _ => .stuck
section
variable {X : Cx} {Y : Gam} {W : WX} {e : Expr} {te : TE} {me : ME} {pos : Pos}
theorem t_clr (i : Nat) {x : Str} {p1 apos cpos : Pos} (hK : X.K = Y.K := by rfl) (hN : X.N[i]? = some x := by rfl) (hv : Vis X.env.scope x := by first | exact Or.inl rfl | exact Or.inr (Or.inl rfl) | exact Or.inr (Or.inr rfl)) (hd : (x == ("__debug__" : Str)) = false := by decide)
    (hcd : (x == ("__classdict__" : Str)) = false := by decide) (hbase : attributeBase (.Name x p1) "clear" X.env (eval (.Name x p1) X.env) = eval (.Name x p1) X.env := by rfl)
    (hline : (apos.endLine == cpos.line) = true := by rfl)
    (hsw : swapsWith (.Call (.Attribute (.Name x p1) "clear" apos) [] [] cpos) none pos.line X.env = pure false := by rfl) :
    SS X Y W (.Expr (.Call (.Attribute (.Name x p1) "clear" apos) [] [] cpos) pos) (tDrop (tBM0 Y.K "list" rClear (tVar i))) (sClr i) :=
  ⟨hK ▸ ps_expr (pe_bm0 PySem.F.plainAttrs_list PySem.F.slot_list_clear PySem.F.type_list_clear mt_clear (pv i hN hv hd hcd) hbase hline) hsw, fun w0 H0 w H σ env S O Dn st p => by
    unfold sClr at p
    split at p
    · rename_i ds hs
      obtain ⟨q, e1, e2, e3, ⟨vs, e4, e4'⟩, e5, e6, hi⟩ := st.own_at hs
      refine ⟨.ref q, e1, tyV_lst e4, q, vs, rfl, rfl, e4, ?_⟩
      exact p w _ σ O (st.mut hs e2 ⟨_, upd_same, RepL.nil_⟩ nt_lst) (.refl w)
    · exact p.elim⟩
end
end Mm
namespace Mm
open PySem L2
@[simp] theorem fSortedSet_eq (m : ME) (env : Envr) (S : Sto) : fSortedSet m env S = (fSet m env S).bind fun ns S1 => .ok (.lst ((srtS ns).map D.int)) S1 := rfl
@[simp] theorem aCat_eq (m mk : MA) (env : Envr) (S : Sto) : aCat m mk env S = (m env S).bind fun ds S1 => (mk env S1).bind fun es S2 => .ok (ds ++ es) S2 := rfl
@[simp] theorem sClr_eq (i : Nat) (env : Envr) (S : Sto) : sClr i env S = (match env[i]? with
  | some (.o (.lst _)) => .nx (env.set i (.o (.lst []))) S
  | _ => .stuck) := rfl
@[simp] theorem fDic0_eq (env : Envr) (S : Sto) : fDic0 env S = .ok (.dic []) S := rfl
@[simp] theorem d_dic (ks : List (Key × D)) : (Cell.dic ks).d = .dic ks := rfl
@[simp] theorem keyD_int (i : Int) : keyD (.int i) = some (.inl i) := rfl
@[simp] theorem keyD_str (x : Str) : keyD (.str x) = some (.inr x) := rfl
@[simp] theorem dicOf_dic (S : Sto) (ks : List (Key × D)) : dicOf S (.dic ks) = some ks := rfl
@[simp] theorem eDGetA_eq (i : Nat) (mk : ME) (env : Envr) (S : Sto) : eDGetA i mk env S = if hasA env i then (mk env S).bind fun k S1 => (match keyD k, dicA env S1 i with
  | some k, some ks => opt (lookK ks k) S1
  | _, _ => .stuck) else .stuck := rfl
@[simp] theorem eDGet_eq (md mk : ME) (env : Envr) (S : Sto) : eDGet md mk env S = (md env S).bind fun d S1 => (mk env S1).bind fun k S2 => match keyD k, dicOf S2 d with
  | some k, some ks => opt (lookK ks k) S2
  | _, _ => .stuck := rfl
@[simp] theorem eDIn_eq (neg : Bool) (mk md : ME) (env : Envr) (S : Sto) : eDIn neg mk md env S = (mk env S).bind fun k S1 => (md env S1).bind fun d S2 => match keyD k, dicOf S2 d with
  | some k, some ks => .ok (.bl (if neg then !(lookK ks k).isSome else (lookK ks k).isSome)) S2
  | _, _ => .stuck := rfl
@[simp] theorem eDGet2A_eq (i : Nat) (mk mx : ME) (env : Envr) (S : Sto) : eDGet2A i mk mx env S = (match dicA env S i with
  | some _ => (mk env S).bind fun k S1 => (mx env S1).bind fun x S2 => (match keyD k, dicA env S2 i with
    | some k, some ks => .ok ((lookK ks k).getD x) S2
    | _, _ => .stuck)
  | none => .stuck) := rfl
@[simp] theorem sDPutA_eq (i : Nat) (mk me : ME) (env : Envr) (S : Sto) : sDPutA i mk me env S = (me env S).out env fun d S1 => if hasA env i then (mk env S1).out env fun k S2 => (match keyD k, env[i]? with
    | some k, some (.o (.dic ks)) => if szB (ks.length + 1) then .nx (env.set i (.o (.dic (putD ks k d)))) S2 else .stuck
    | some k, some (.v (.ref n)) => (match S2[n]? with
      | some (.dic ks) => if szB (ks.length + 1) then .nx env (S2.set n (.dic (putD ks k d))) else .stuck
      | _ => .stuck)
    | _, _ => .stuck) else .stuck := rfl
@[simp] theorem dicA_eq (env : Envr) (S : Sto) (i : Nat) : dicA env S i = (match env[i]? with
  | some (.o (.dic ks)) => some ks
  | some (.v d) => dicOf S d
  | _ => none) := rfl
@[simp] theorem hasA_eq (env : Envr) (i : Nat) : hasA env i = (match env[i]? with
  | some (.o (.dic _)) => true
  | some (.v _) => true
  | _ => false) := rfl
end Mm
namespace Fb
open PySem L2 Mm Gf
theorem enum_range (n : Nat) (f : Nat → Nat) : enumD 0 (nl ((List.range n).map f)) = (List.range n).map fun x => .tup [nd x, nd (f x)] := by
  have go : ∀ (xs : List Nat) (k : Nat), enumN k (xs.map f) = (xs.zip (List.range' k xs.length)).map fun p => (p.2, f p.1) := by
    intro xs
    induction xs with
    | nil => intro k; rfl
    | cons x xs ih =>
      intro k
      rw [List.map_cons, List.length_cons, List.range'_succ, List.zip_cons_cons, List.map_cons, ← ih]
      rfl
  have e := enumN_eq ((List.range n).map f) 0
  have e2 : enumD 0 (nl ((List.range n).map f)) = (enumN 0 ((List.range n).map f)).map pd := e
  rw [e2, go, List.length_range, List.range_eq_range', List.map_map]
  apply List.ext_getElem
  · simp
  · intro i h1 h2
    simp [pd]
theorem enum_spl (A : List Nat) : enumD 0 (nl (spl A)) = (List.range (2 ^ A.length)).map fun x => .tup [nd x, nd (app A x)] := by rw [spl_app, enum_range]
theorem pow_le {d n : Nat} (h : d ≤ n) : 2 ^ d ≤ 2 ^ n := Nat.pow_le_pow_right (by decide) h
end Fb
namespace Mm
open PySem L2 Fb
abbrev LE (ns : List Int) (ss : List Sl) (c : Nat) : Envr := .v (.scr ns) :: .v (.ref 0) :: (ss ++ List.replicate c .no)
theorem law_run {N k c : Nat} {kR : MS} (ns : List Int) (hN : N = 2 + k + c) (h : ∀ b, Bx b → EX (kR (LE ns (List.replicate k .no) c) [b]) fun r _ => r = .val (.bl true)) :
    ∃ S, mFn N (sSeq (sCell 1 (fCall m__law_box [] (aCons (eV 0) aNil))) kR) [.scr ns] [] = .ok (.val (.bl true)) S := by
  obtain ⟨b, e1, hb0⟩ := box_ok ns []
  have st : startE N [D.scr ns] = .v (.scr ns) :: List.replicate (1 + k + c) .no := by
    have : N - 1 = 1 + k + c := by omega
    simp [this]
  have c0 : sCell 1 (fCall m__law_box [] (aCons (eV 0) aNil)) (.v (.scr ns) :: List.replicate (1 + k + c) .no) [] = .nx (LE ns (List.replicate k .no) c) [b] := by
    have e2 : List.replicate (1 + k + c) Sl.no = .no :: (List.replicate k .no ++ List.replicate c .no) := by
      rw [Nat.add_assoc, Nat.add_comm 1, List.replicate_succ, List.replicate_append_replicate]
    rw [e2]
    simp [e1]
  have q := RX_iff.mp (EX_fn (n := N) (m := sSeq (sCell 1 (fCall m__law_box [] (aCons (eV 0) aNil))) kR) (ds := [.scr ns]) (S := []) (Q := fun r _ => r = .val (.bl true)) (by
    refine EX_seq ?_
    rw [st, c0]
    exact h b hb0))
  obtain ⟨r, S, e, rfl⟩ := q
  exact ⟨S, e⟩
end Mm
namespace Gf
open Fb Mm
def fstL (A B : List Nat) (v : Nat) : List Nat := B.map (app (backL A v))
def swL (A : List Nat) (m : Nat) : List Nat := (kerL A).map (· >>> m)
def frL (A : List Nat) (m : Nat) : List Nat := can (swL A m)
end Gf
namespace Fb
open PySem L2 Mm Gf
noncomputable def m__law_homes : MFn := mFn 4 (sSeq (sOwn 1 fDic0)
    (sSeq (sFor (itES (aCons (eCall m__law_images [] (aCons (eV 0) aNil)) aNil)) (gT (gNC (gN 2) (gNC (gN 3) gN0))) (sDPutA 1 (eV 3) (eOp dAdd (eDGet2A 1 (eV 3) (mFrz (fLst aNil))) (mFrz (fLst (aCons (eV 2) aNil))))))
    (sRetO 1)))
noncomputable def m__law_choices : MFn := mFn 8 (sSeq (sAsg (eCall m__law_homes [] (aCons (eV 0) aNil)) (gN 3))
    (sSeq (sOwn 4 (fLst aNil))
    (sSeq (sFor (itES (aCons (eCall m__law_images [] (aCons (eV 1) aNil)) aNil)) (gT (gNC (gN 5) (gNC (gN 6) gN0))) (sApp 4 (mFrz (fSortedSet (mFrz (fLc (itL (eDGetA 3 (eV 6))) (gN 7) cYes (eOp iShr (eOp iXor (eV 5) (eV 7)) (eV 2)) [7]))))))
    (sRetO 4))))
end Fb
namespace Fb
open PySem L2 Mm Gf
def lfs (A B : List Nat) (v m l : Nat) : List (Str × D) := [("low", nd m), ("lanes", nd l), ("first", fold (fstL A B v) (m + l)), ("idle", .lst (nl (kerL A))), ("swings", .lst (nl (swL A m))), ("free", .lst (nl (frL A m)))]
def lead (A B : List Nat) (v m l : Nat) : D := .ins "Lead" (lfs A B v m l)
section
variable (A B : List Nat) (v m l : Nat)
@[simp] theorem lfs_low : (lfs A B v m l).lookup ("low" : Str) = some (nd m) := rfl
@[simp] theorem lfs_lanes : (lfs A B v m l).lookup ("lanes" : Str) = some (nd l) := rfl
@[simp] theorem lfs_first : (lfs A B v m l).lookup ("first" : Str) = some (fold (fstL A B v) (m + l)) := rfl
@[simp] theorem lfs_idle : (lfs A B v m l).lookup ("idle" : Str) = some (.lst (nl (kerL A))) := rfl
@[simp] theorem lfs_swings : (lfs A B v m l).lookup ("swings" : Str) = some (.lst (nl (swL A m))) := rfl
@[simp] theorem lfs_free : (lfs A B v m l).lookup ("free" : Str) = some (.lst (nl (frL A m))) := rfl
@[simp] theorem lfs_swing : (lfs A B v m l).lookup ("swing" : Str) = none := rfl
@[simp] theorem lfs_still : (lfs A B v m l).lookup ("still" : Str) = none := rfl
@[simp] theorem lfs_source : (lfs A B v m l).lookup ("source" : Str) = none := rfl
@[simp] theorem lfs_turnings : (lfs A B v m l).lookup ("turnings" : Str) = none := rfl
@[simp] theorem lfs_all : (lfs A B v m l).lookup ("all_sources" : Str) = none := rfl
end
theorem under_fold (n : Nat) (rs : List Nat) (w : Nat) : (fold rs w).under n := by
  unfold fold D.under ffs
  refine ⟨?_, ?_, trivial⟩
  · unfold D.under
    exact under_nl _ _
  · unfold D.under
    trivial
end Fb
namespace Mm
open PySem L2
theorem lookK_any (k : Key) : ∀ ks : List (Key × D), (ks.any fun kv => decide (kv.1 = k)) = (lookK ks k).isSome
  | [] => rfl
  | kv :: ks => by
    rw [List.any_cons, lookK_any k ks]
    by_cases e : kv.1 = k <;> simp [lookK, e]
theorem lookK_map (k j : Key) (d : D) : ∀ ks : List (Key × D), lookK (ks.map fun kv => if kv.1 = k then (kv.1, d) else kv) j = (lookK ks j).map fun x => if j = k then d else x
  | [] => rfl
  | kv :: ks => by
    have ih := lookK_map k j d ks
    unfold lookK at ih ⊢
    rw [List.map_cons, List.find?_cons, List.find?_cons]
    by_cases e : kv.1 = k
    · simp only [e, if_true]
      by_cases z : k = j
      · simp [z]
      · simp only [z, decide_false]
        exact ih
    · simp only [e, if_false]
      by_cases z : kv.1 = j
      · have : ¬ j = k := fun q => e (z.trans q)
        simp [z, this]
      · simp only [z, decide_false]
        exact ih
theorem lookK_snoc (k j : Key) (d : D) : ∀ ks : List (Key × D), lookK ks k = none → lookK (ks ++ [(k, d)]) j = if j = k then some d else lookK ks j
  | [], _ => by
    by_cases e : j = k
    · simp [lookK, e]
    · have : ¬ k = j := fun z => e z.symm
      simp [lookK, e, this]
  | kv :: ks, h => by
    have h1 : ¬ kv.1 = k := fun e => by simp [lookK, e] at h
    have h2 : lookK ks k = none := by simpa [lookK, h1] using h
    have ih := lookK_snoc k j d ks h2
    unfold lookK at ih ⊢
    rw [List.cons_append, List.find?_cons, List.find?_cons]
    by_cases z : kv.1 = j
    · have : ¬ j = k := fun q => h1 (z.trans q)
      simp [z, this]
    · simp only [z, decide_false]
      exact ih
theorem lookK_put (ks : List (Key × D)) (k j : Key) (d : D) : lookK (putD ks k d) j = if j = k then some d else lookK ks j := by
  unfold putD
  rw [lookK_any]
  cases q : lookK ks k with
  | none =>
    simp only [Option.isSome_none, Bool.false_eq_true, if_false]
    exact lookK_snoc k j d ks q
  | some x =>
    simp only [Option.isSome_some, if_true]
    rw [lookK_map]
    by_cases e : j = k
    · rw [e, q]
      simp
    · simp only [e, if_false]
      cases lookK ks j <;> rfl
theorem putD_len (ks : List (Key × D)) (k : Key) (d : D) : (putD ks k d).length ≤ ks.length + 1 := by
  unfold putD
  split
  · rw [List.length_map]
    omega
  · simp
end Mm
namespace Fb
open PySem L2 Mm Gf
def hmL (A : List Nat) (xs : List Nat) (c : Nat) : List Nat := xs.filter fun y => decide (app A y = c)
def HInv (A : List Nat) (ys : List Nat) (ks : List (Key × D)) : Prop := ks.length ≤ ys.length ∧ ∀ c : Nat, lookK ks (.inl (c : Int)) = if hmL A ys c = [] then none else some (.lst (nl (hmL A ys c)))
theorem hm_snoc (A ys : List Nat) (x c : Nat) : hmL A (ys ++ [x]) c = if app A x = c then hmL A ys c ++ [x] else hmL A ys c := by
  unfold hmL
  rw [List.filter_append]
  by_cases h : app A x = c <;> simp [h]
theorem hm_len (A ys : List Nat) (c : Nat) : (hmL A ys c).length ≤ ys.length := List.length_filter_le _ _
theorem homes_go (A : List Nat) (S : Sto) (s0 : Sl) : ∀ (xs ys : List Nat) (ks : List (Key × D)) (s2 s3 : Sl), HInv A ys ks → ys.length + xs.length ≤ 5000 → ∃ ks' s2' s3',
    forL (gT (gNC (gN 2) (gNC (gN 3) gN0))) (sDPutA 1 (eV 3) (eOp dAdd (eDGet2A 1 (eV 3) (mFrz (fLst aNil))) (mFrz (fLst (aCons (eV 2) aNil))))) (xs.map fun x => .tup [nd x, nd (app A x)]) [s0, .o (.dic ks), s2, s3] S = .nx [s0, .o (.dic ks'), s2', s3'] S ∧ HInv A (ys ++ xs) ks'
  | [], ys, ks, s2, s3, h, _ => ⟨ks, s2, s3, rfl, by rwa [List.append_nil]⟩
  | x :: xs, ys, ks, s2, s3, h, hz => by
    have hz1 : ys.length + xs.length + 1 ≤ 5000 := by simpa [Nat.add_assoc] using hz
    have h2 : HInv A (ys ++ [x]) (putD ks (.inl (app A x : Int)) (.lst (nl (hmL A ys (app A x) ++ [x])))) := by
      refine ⟨?_, fun c => ?_⟩
      · have := putD_len ks (.inl (app A x : Int)) (.lst (nl (hmL A ys (app A x) ++ [x])))
        have := h.1
        rw [List.length_append, List.length_singleton]
        omega
      · rw [lookK_put, h.2 c, hm_snoc]
        by_cases e : app A x = c
        · subst e
          simp
        · have e2 : ¬ ((Sum.inl (c : Int) : Key) = .inl ((app A x : Nat) : Int)) := fun z => e (by have := Sum.inl.inj z; omega)
          rw [if_neg e2, if_neg e]
    obtain ⟨ks', s2', s3', e, i⟩ := homes_go A S s0 xs (ys ++ [x]) _ (.v (nd x)) (.v (nd (app A x))) h2 (by simp; omega)
    refine ⟨ks', s2', s3', ?_, by rw [List.append_assoc] at i; exact i⟩
    rw [List.map_cons]
    unfold forL
    have z0 := szB_of (n := 0) (by omega)
    have z1 := szB_of (n := 1) (by omega)
    have zk := szB_of (n := ks.length + 1) (by have := h.1; omega)
    have zl := szB_of (n := (hmL A ys (app A x)).length + 1) (by have := hm_len A ys (app A x); omega)
    have g : (lookK ks (.inl ((app A x : Nat) : Int))).getD (.lst []) = .lst (nl (hmL A ys (app A x))) := by
      rw [h.2]
      by_cases q : hmL A ys (app A x) = []
      · rw [if_pos q, q]; rfl
      · rw [if_neg q]; rfl
    have ec : nl (hmL A ys (app A x)) ++ [D.int x] = nl (hmL A ys (app A x) ++ [x]) := by simp [nl]
    have e' : forL (gT (gNC (gN 2) (gNC (gN 3) gN0))) (sDPutA 1 (eV 3) (eOp dAdd (eDGet2A 1 (eV 3) (mFrz (fLst aNil))) (mFrz (fLst (aCons (eV 2) aNil))))) (xs.map fun x => .tup [nd x, nd (app A x)]) [s0, .o (.dic (putD ks (.inl (app A x : Int)) (.lst (nl (hmL A ys (app A x)) ++ [.int x])))), .v (nd x), .v (nd (app A x))] S = .nx [s0, .o (.dic ks'), s2', s3'] S := by
      rw [ec]
      exact e
    generalize hmL A ys (app A x) = HH at *
    simp [z0, z1, zk, g, zl, e']
theorem homes_ok (S : Sto) {A : List Nat} (hA : A.length ≤ 12) : ∃ ks, m__law_homes [.tup (nl A)] S = .ok (.own (.dic ks)) S ∧ ∀ c, Sp A c → lookK ks (.inl (c : Int)) = some (.lst (nl (hmL A (List.range (2 ^ A.length)) c))) := by
  have p12 := pow_le (n := 12) hA
  have e12 : (2 : Nat) ^ 12 = 4096 := by decide
  obtain ⟨ks, s2, s3, e, i⟩ := homes_go A S (.v (.tup (nl A))) (List.range (2 ^ A.length)) [] [] .no .no ⟨Nat.le_refl _, fun c => rfl⟩ (by simp; omega)
  have im := images_ok S A (by omega) (.tup (nl A)) (.inl rfl)
  have es := enum_spl A
  refine ⟨ks, ?_, fun c hc => ?_⟩
  · unfold m__law_homes
    simp [im, es, e]
  · rw [List.nil_append] at i
    rw [i.2 c, if_neg]
    intro z
    have : c ∈ spl A := mem_spl.mpr hc
    rw [spl_app] at this
    obtain ⟨y, hy, ey⟩ := List.mem_map.mp this
    have : y ∈ hmL A (List.range (2 ^ A.length)) c := List.mem_filter.mpr ⟨hy, by simpa using ey⟩
    rw [z] at this
    cases this
end Fb
namespace Fb
open PySem L2 Mm Gf
noncomputable def m__law_swings : MFn := mFn 4 (sRetF (fLc (itL (eCall m__law_choices [] (aCons (eV 0) (aCons (eV 1) (aCons (eV 2) aNil))))) (gN 3) cYes (eOp fIx (eV 3) (eC (.int 0))) [3]))
end Fb
namespace Mm
open PySem L2
@[simp] theorem d_tdc (ks : List (List Key × Int)) : (Cell.tdc ks).d = .tdc ks := rfl
end Mm
namespace Mm
open PySem L2
def fStrI : Sto → List D → Option D
  | _, [.int i] => if decide (i.natAbs.log2 < 1920) then some (.str (toString i)) else none
  | _, _ => none
theorem cd_strI {g : Gam} : CallD g (fun xs H Q => ∃ i : Int, xs = [.int i] ∧ i.natAbs.log2 < 1920 ∧ Q (.str (toString i)) H) fStrI := fun w H S ds vs c Q k r e q => by
  unfold fStrI at e
  split at e
  · rename_i i
    split at e
    · rename_i hz
      cases e
      obtain ⟨v, e1, e2⟩ := repL_one r
      rw [rep_int e2] at e1
      exact ⟨i, e1, of_decide_eq_true hz, q w H _ .refl rep_str'⟩
    · cases e
  · cases e
end Mm
namespace Mm
open PySem PySem.Spec PyProof.Rows L2
theorem s_cellOf {X : Cx} {Y : Gam} {W : WX} {e : Expr} {te : TE} {mf : MF} (h : SF X Y W e te mf) : SE X Y W e te (eCellOf mf) := ⟨h.pe, fun w0 H0 w H σ env S O Q st p =>
  h.sim w0 H0 w H σ env S O _ st ((PostX.bind p).imp fun c S1 w1 H1 st1 l1 p1 q ow => by
    obtain ⟨st2, l2, r2⟩ := own_cell st1 ow
    exact p1 _ H1 st2 l2 _ r2)⟩
def NewOk (c : Str) (pop : Sto → R Ret → R D) : Prop := ∀ {g : Gam} {W : WX} {w0 w : Wd} {H0 H : Hp} {σ : L2.St} {env : Envr} {S : Sto} {O : List (Option Addr)} {Q : VK} {x dx : Addr} {r : R Ret}, StR g w0 H0 w H σ env S O → H x = none → H dx = none → dx ≠ x →
  PostX g W w0 H0 w σ env O (pop S r) (fun d _ w' H' => ∀ v, Rep g w' d v → Q v H') → PostF g ⟨w.rho ++ [x], w.G⟩ (upd (upd H dx (.own x)) x (.ins (g.ca c) dx [])) (fun v H2 => v = .non ∧ Q (.ref x) H2) (WE W σ) r
def keepI (S : Sto) (r : R Ret) : R D := match r with
  | .ok (.val .non) S2 => .ok (.ref S.length) S2
  | .exc cc p S2 => .exc cc p S2
  | _ => .stuck
theorem newOk_keep {c : Str} : NewOk c keepI := fun {g W w0 w H0 H σ env S O Q x dx r} st hx hdx ne p => by
  have at_ : ∀ {w' : Wd} {H' : Hp}, Frame ⟨w.rho ++ [x], w.G⟩ (upd (upd H dx (.own x)) x (.ins (g.ca c) dx [])) w' H' → w'.rho[S.length]? = some x := fun {w' H'} f => by
    refine f.le.get ?_
    show (w.rho ++ [x])[S.length]? = some x
    rw [← st.ok.cells.len]
    simp
  unfold keepI at p
  split at p
  · intro w' H' v f k rv
    have f2 : Frame w H w' H' := frame_inst hx hdx ne f
    refine ⟨rep_non (g := g) (w := w') rv, p w' H' (st.after f2 k) f2.le _ ?_⟩
    unfold Rep
    exact ⟨x, at_ f, rfl⟩
  · intro w' H' cls dd f k ex
    have f2 : Frame w H w' H' := frame_inst hx hdx ne f
    exact p w' H' cls dd (st.after f2 k) f2.le ex
  · exact False.elim p
def eNewP (pop : Sto → R Ret → R D) (c : Str) (mf : MFn) (dd : List D) (m : MA) : ME := fun env S => (m env S).bind fun ds S1 => pop S1 (mf (.ref S1.length :: (ds ++ dd)) (S1 ++ [.ins c []]))
def eNewC (c : Str) (mf : MFn) (dd : List D) (m : MA) : ME := eNewP keepI c mf dd m
section
variable {X : Cx} {Y : Gam} {W : WX} {e : Expr} {es : List Expr} {t tk : TA} {m mk : MA} {pos p : Pos} {x : Str} {k n : Nat} {fa C : Addr} {fd : FuncData} {ps ks : List Str} {mf : MFn} {dvs : List V} {ds : List Value} {dd : List D} {pop : Sto → R Ret → R D}
theorem new_at {g : Gam} {c : Str} {w0 w : Wd} {H0 H : Hp} {σ : L2.St} {env : Envr} {S : Sto} {O : List (Option Addr)} {Q : VK} {y dy : Addr} {ds : List D} {vs : List V} (hp : NewOk c pop) (st : StR g w0 H0 w H σ env S O) (hy : H y = none) (hdy : H dy = none) (ne : dy ≠ y) (rs : RepL g w ds vs) (hn : ds.length + 1 = n)
    (p : PostX g W w0 H0 w σ env O (pop S (mf (.ref S.length :: ds) (S ++ [.ins c []]))) (fun d _ w' H' => ∀ v, Rep g w' d v → Q v H')) : spOf g n mf (.ref y :: vs) (upd (upd H dy (.own y)) y (.ins (g.ca c) dy [])) (fun v H2 => v = .non ∧ Q (.ref y) H2) (WE W σ) := by
  obtain ⟨k4, l4⟩ := ok_inst (c := c) st.ok hy hdy ne
  have r4 : RepL g ⟨w.rho ++ [y], w.G⟩ (.ref S.length :: ds) (.ref y :: vs) := RepL.cons_ (by
    unfold Rep
    refine ⟨y, ?_, rfl⟩
    show (w.rho ++ [y])[S.length]? = some y
    rw [← st.ok.cells.len]
    simp) (rs.mono l4)
  refine ⟨?_, ⟨w.rho ++ [y], w.G⟩, _, S ++ [.ins c []], k4, r4, hp st hy hdy ne p⟩
  rw [← r4.len, List.length_cons]
  exact hn
variable {CX : CXT} {sp : Sp} {E : L2.St → XK} {kws : List Keyword} {g : List Value → List Value → List Value} {gV : List V → List V → List V}
theorem run_makeNS {pins : List (Addr × Obj)} {σ : L2.St} {H : Hp} {s : Shared} {Q : VK} {us ws : List Value} {vs zs : List V} (M : Mk X.K C fa) (F : FnOk X.prog X.w X.K X.mg X.base CX k fa fd ps sp) (hr : Room (k + 1) X.A) (hb : KBn X.K fd ps (n + 1) ks g gV) (hx : PassesAt CX X σ (E σ))
    (I : Inv X pins σ H s) (r : Vals vs us) (rz : Vals zs ws) (l1 : vs.length = n) (l2 : zs.length = ks.length)
    (h : ∀ x dx, H x = none → H dx = none → dx ≠ x → sp (gV (.ref x :: vs) zs) (upd (upd H dx (.own x)) x (.ins C dx [])) (fun v H2 => v = .non ∧ Q (.ref x) H2) (E σ)) :
    wpAny (model X.prog X.w) X.A (call (.ref C) us (ks.zip ws)) (EP X pins σ Q) X.xe s := by
  have hq := h (s.heap.objs.size + 1) s.heap.objs.size (I.hok.fresh (Nat.le_succ _)) (I.hok.fresh (Nat.le_refl _)) (Nat.ne_of_lt (Nat.lt_succ_self _))
  have I2 := Inv.made (C := C) I
  have r1 : Vals (V.ref (s.heap.objs.size + 1) :: vs) (Value.ref (s.heap.objs.size + 1) :: us) := .cons rfl r
  have r2 := hb.rel r1 rz
  have n1 : (Value.ref (s.heap.objs.size + 1) :: us).length = n + 1 := by
    rw [List.length_cons, ← r.length, l1]
  refine wpAny_call (make_map (f := fa) I.kIn M.makes M.init (beq_iff_eq.mp M.fn) (codeAny_mono (F.run _ X.stack _ _ ⟨Value.ref (s.heap.objs.size + 1) :: us, ks.zip ws⟩ (g (Value.ref (s.heap.objs.size + 1) :: us) ws) _ _ (E σ) (hr.make C us (ks.zip ws))
    (I2.env0.make C us (ks.zip ws)) (hb.to _ (Value.ref (s.heap.objs.size + 1) :: us) ws I2.kIn n1 (rz.length.symm.trans l2)) r2 hq) fun r s' hq' => ?_))
  cases r with
  | error e => exact hx pins _ _ e s' I2 hq'
  | ok fl =>
    cases fl with
    | ret u =>
      obtain ⟨v, H', I3, rv, ev, q3⟩ := I2.after hq'
      subst ev
      exact ⟨rv, ⟨V.ref (s.heap.objs.size + 1), H', I3, rfl, q3⟩⟩
    | next => exact False.elim hq'
    | brk => exact False.elim hq'
    | cont => exact False.elim hq'
theorem pe_makeNS (M : Mk X.K C fa) (F : FnOk X.prog X.w X.K X.mg X.base CX k fa fd ps sp) (hr : Room (k + 1) X.A) (hg : Gl X x) (hm : X.mg x = some (.ref C)) (hb : KBn X.K fd ps (n + 1) ks g gV) (hx : ∀ σ, PassesAt CX X σ (E σ)) (ha : PA X (e :: es) t) (hkw : PK X kws tk)
    (hall : (backToKw pos (keywordEach kws X.env)).all (·.1.isSome) = true) (hks : (backToKw pos (keywordEach kws X.env)).filterMap (·.1) = ks) (hdb : (x == ("__debug__" : Str)) = false)
    (he : starEach (e :: es) X.env = (false, eval e X.env) :: starEach es X.env) (hpl : ((backTo pos (starEach (e :: es) X.env)).any (·.1) || (backToKw pos (keywordEach kws X.env)).any (·.1.isNone)) = false) :
    PE X (.Call (.Name x p) (e :: es) kws pos) (fun σ => tMakeK C n ks.length sp gV (E σ) t tk σ) := by
  refine ⟨fun pins s σ H Q I h => ?_⟩
  refine wpAny_Call_Name_kw (ld_glob I hg hm ?_ hdb)
  refine PySem.W.callWith_KW (h₀ := X.base) I.ok.mod.kin M.kp hall (thn (ha.run pos pins s σ H _ I h) fun us s1 ⟨vs, H1, I1, r, q⟩ => ?_) hpl he
  refine thn (hkw.run pos pins s1 σ H1 _ I1 q) fun ws s2 ⟨zs, H2, I2, rz, l1, l2, q2⟩ => ⟨I2.kIn, ?_⟩
  rw [hks]
  exact run_makeNS M F hr hb (hx σ) I2 r rz l1 l2 q2
end
def KnCK (P : Program) (w : World) (K : PySem.W.Frag) (mg : Str → Option Value) (base : Heap) (Y : Gam) (k : Nat) (x : Str) (n : Nat) (ks : List Str) (mf : MFn) (dvs : List V) (dd : List D) : Prop :=
  ∃ (f : Addr) (fd : FuncData) (ps : List Str) (ds : List Value), FnOk P w K mg base (L2N.CX P w) k f fd ps (spOf Y (n + ks.length + dd.length + 1) mf) ∧ Mk K (Y.ca x) f ∧ mg x = some (.ref (Y.ca x)) ∧ KBn K fd ps (n + 1) ks (fun us ws => us ++ ws ++ ds) (fun vs zs => vs ++ zs ++ dvs) ∧ ∀ w, RepL Y w dd dvs
section
variable {X : Cx} {Y : Gam} {W : WX} {e o : Expr} {es : List Expr} {ta : TE} {ma : ME} {t tk : TA} {m mk : MA} {pos p apos : Pos} {x c : Str} {k n : Nat} {mf : MFn} {kws : List Keyword} {ks : List Str} {dvs : List V} {dd : List D} {pop : Sto → R Ret → R D}
theorem s_newPK (hp : NewOk x pop) (h : KnCK X.prog X.w X.K X.mg X.base Y k x n ks mf dvs dd) (hr : Room (k + 1) X.A) (tk' : L2N.Takes X W) (ha : SA X Y W (e :: es) t m) (hk : SK X Y W kws tk mk) (hn : (e :: es).length = n := by rfl) (hnk : kws.length = ks.length := by rfl) (hg : Gl X x := by rfl)
    (hall : (backToKw pos (keywordEach kws X.env)).all (·.1.isSome) = true := by rfl) (hks : (backToKw pos (keywordEach kws X.env)).filterMap (·.1) = ks := by rfl)
    (hdb : (x == ("__debug__" : Str)) = false := by decide) (he : starEach (e :: es) X.env = (false, eval e X.env) :: starEach es X.env := by rfl)
    (hpl : ((backTo pos (starEach (e :: es) X.env)).any (·.1) || (backToKw pos (keywordEach kws X.env)).any (·.1.isNone)) = false := by rfl) :
    ∃ te, SE X Y W (.Call (.Name x p) (e :: es) kws pos) te (eNewP pop x mf dd (aCat m mk)) := by
  obtain ⟨f, fd, ps, ds, F, M, hm, hb, hdv⟩ := h
  refine ⟨_, pe_makeNS (E := WE W) M F hr hg hm hb (fun σ => L2N.passAt tk' σ) ha.pa hk.pk hall hks hdb he hpl, fun w0 H0 w H σ env S O Q st p => ?_⟩
  have p : PostX Y W w0 H0 w σ env O ((m env S).bind fun as S1 => (mk env S1).bind fun bs S2 => pop S2 (mf (.ref S2.length :: (as ++ bs ++ dd)) (S2 ++ [.ins x []]))) (fun d _ w' H' => ∀ v, Rep Y w' d v → Q v H') := by
    unfold eNewP aCat at p
    cases e1 : m env S with
    | stuck => rw [e1] at p; exact p
    | exc c q s => rw [e1] at p; exact p
    | ok d s =>
      rw [e1] at p
      have p : PostX Y W w0 H0 w σ env O (((mk env s).bind fun es S2 => R.ok (d ++ es) S2).bind fun ds S1 => pop S1 (mf (.ref S1.length :: (ds ++ dd)) (S1 ++ [.ins x []]))) (fun d _ w' H' => ∀ v, Rep Y w' d v → Q v H') := p
      show PostX Y W w0 H0 w σ env O ((mk env s).bind fun bs S2 => pop S2 (mf (.ref S2.length :: (d ++ bs ++ dd)) (S2 ++ [.ins x []]))) _
      cases e2 : mk env s with
      | stuck => rw [e2] at p; exact p
      | exc c q s => rw [e2] at p; exact p
      | ok d2 s2 => rw [e2] at p; exact p
  refine ha.sim w0 H0 w H σ env S O _ st ?_
  have p2 := PostX.bind p
  cases e : m env S with
  | stuck => rw [e] at p2; exact p2
  | exc c q S2 => rw [e] at p2; exact p2
  | ok as S1 =>
    rw [e] at p2
    intro w1 H1 st1 l1 vs rs
    have p3 := p2 w1 H1 st1 l1
    refine hk.sim w0 H0 w1 H1 σ env S1 O _ st1 ?_
    have p4 := PostX.bind p3
    cases e2 : mk env S1 with
    | stuck => rw [e2] at p4; exact p4
    | exc c q S2 => rw [e2] at p4; exact p4
    | ok bs S2 =>
      rw [e2] at p4
      intro w2 H2 st2 l2 zs rz
      have p5 := p4 w2 H2 st2 l2
      have l1' := (ha.len _ _ _ _ e).trans hn
      have l2' := (hk.len _ _ _ _ e2).trans hnk
      refine ⟨by rw [← rs.len]; exact l1', by rw [← rz.len]; exact l2', fun y dy hy hdy ne => ?_⟩
      have r2 := ((rs.mono l2).append_ rz).append_ (hdv w2)
      exact new_at hp st2 hy hdy ne r2 (by rw [List.length_append, List.length_append, l1', l2']) p5
theorem u_newCK (h : KnCK X.prog X.w X.K X.mg X.base Y k x n ks mf dvs dd) (hr : Room (k + 1) X.A) (tk' : L2N.Takes X W) (ha : SA X Y W (e :: es) t m) (hk : SK X Y W kws tk mk) (hn : (e :: es).length = n := by rfl) (hnk : kws.length = ks.length := by rfl) (hg : Gl X x := by rfl)
    (hall : (backToKw pos (keywordEach kws X.env)).all (·.1.isSome) = true := by rfl) (hks : (backToKw pos (keywordEach kws X.env)).filterMap (·.1) = ks := by rfl)
    (hdb : (x == ("__debug__" : Str)) = false := by decide) (he : starEach (e :: es) X.env = (false, eval e X.env) :: starEach es X.env := by rfl)
    (hpl : ((backTo pos (starEach (e :: es) X.env)).any (·.1) || (backToKw pos (keywordEach kws X.env)).any (·.1.isNone)) = false := by rfl) :
    SE X Y W (.Call (.Name x p) (e :: es) kws pos) (tSem X (.Call (.Name x p) (e :: es) kws pos)) (eNewC x mf dd (aCat m mk)) := by
  obtain ⟨te, s⟩ := s_newPK (p := p) newOk_keep h hr tk' ha hk hn hnk hg hall hks hdb he hpl
  exact ⟨pe_sem, fun w0 H0 w H σ env S O Q st q pins s' I => s.pe.run pins s' σ H Q I (s.sim w0 H0 w H σ env S O Q st q)⟩
end
end Mm
namespace Mm
open PySem PySem.Spec PyProof.Rows L2
section
variable {X : Cx} {Y : Gam} {W : WX} {e o k tg : Expr} {te td tk : TE} {me md mk : ME} {pos pos' p1 apos cpos : Pos}
theorem u_gstr {x z : Str} (hm : ∃ u, X.mg x = some (.str z u)) (hg : Gl X x := by rfl) (hd : (x == ("__debug__" : Str)) = false := by decide) : SE X Y W (.Name x pos) (tC (.str z)) (eC (.str z)) := by
  obtain ⟨u, hm⟩ := hm
  exact ⟨pe_glob hg hm ⟨u, rfl⟩ hd, sim_c fun _ => rep_str'⟩
def signs (z : Str) : List D := z.cps.toList.map fun c => .str ⟨#[c]⟩
def itS (me : ME) : MI := fun env S => (me env S).bind fun d S1 => match d with
  | .str z => .ok (signs z) S1
  | _ => .stuck
theorem itR_str {g : Gam} {w : Wd} {z : Str} : ItR g w (Its z) (signs z) := fun w2 H2 l x => by
  refine ⟨fun i d hd => ?_, by show z.cps.size ≤ (signs z).length; simp [signs]⟩
  have hi : i < z.cps.size := by
    have := (List.getElem?_eq_some_iff.mp hd).1
    simpa [signs] using this
  refine ⟨hi, fun y H' hy => ?_⟩
  obtain ⟨e1, c, hc, e2⟩ := hy
  subst e1 e2
  refine ⟨w2, .refl, ?_⟩
  have e3 : (signs z)[i]? = some (.str ⟨#[c]⟩) := by
    unfold signs
    rw [List.getElem?_map, Array.getElem?_toList, hc]
    rfl
  rw [hd] at e3
  cases e3
  exact rep_str'
theorem i_str (h : SE X Y W e te me) : SI X Y W tg e (iStr te) (itS me) := ⟨pi_str h.pe, fun w0 H0 w H σ env S O Q st p =>
  h.sim w0 H0 w H σ env S O _ st ((PostX.bind p).imp fun d S1 w1 H1 st1 l1 p1 v r => by
    split at p1
    · rename_i z
      exact ⟨z, rep_str r, p1 w1 H1 st1 (.refl w1) _ itR_str⟩
    · exact False.elim p1)⟩
def fInSign (neg : Bool) : Sto → D → D → Option D
  | _, .str a, .str z => (match a.cps.toList with
    | [c] => some (.bl (if neg then !decide (c ∈ z.cps.toList) else decide (c ∈ z.cps.toList)))
    | _ => none)
  | _, _, _ => none
def rSign (neg : Bool) : R2 := fun x y H Q => ∃ (c : Nat) (z : Str), x = .str ⟨#[c]⟩ ∧ y = .str z ∧ Q (.bl (if neg then !decide (c ∈ z.cps.toList) else decide (c ∈ z.cps.toList))) H
theorem or_sign : OpR X (compareOp .In) (rSign false) := fun pins s σ H x y v u Q I r1 r2 q => op_in_sign pins s σ H x y v u Q I r1 r2 q
theorem od_sign {g : Gam} {neg : Bool} : OpD g (rSign neg) (fInSign neg) := fun w H S d1 d2 v1 v2 d Q _ r1 r2 e q => by
  unfold fInSign at e
  split at e
  · rename_i a z
    split at e
    · rename_i c hc
      cases e
      have ea : a = ⟨#[c]⟩ := by
        cases a with
        | mk cps =>
          have hc : cps.toList = [c] := hc
          have : cps = #[c] := Array.toList_inj.mp hc
          rw [this]
      refine ⟨c, z, ?_, rep_str r2, q w H _ .refl rep_bl'⟩
      rw [rep_str r1, ea]
    · cases e
  · cases e
def dicU (S : Sto) : D → Option (List (Key × D))
  | .ref n => (match S[n]? with
    | some (.dic ks) => some ks
    | _ => none)
  | _ => none
theorem dicU_rep {g : Gam} {w : Wd} {H : Hp} {S : Sto} {d : D} {v : V} {ks : List (Key × D)} (k : Ok g w H S) (r : Rep g w d v) (h : dicU S d = some ks) : ∃ a vs, v = .ref a ∧ H a = some (.dK vs) ∧ RepK g w ks vs := by
  cases d with
  | ref n =>
    have h : (match S[n]? with
      | some (.dic ks) => some ks
      | _ => none) = some ks := h
    cases q : S[n]? with
    | none => rw [q] at h; cases h
    | some c =>
      rw [q] at h
      cases c with
      | dic ks' =>
        cases h
        obtain ⟨a, e1, e2⟩ := rep_ref r
        obtain ⟨_, vs, e3, e4⟩ := k.cells.at_ n a _ e1 q
        exact ⟨a, vs, e2, e3, e4⟩
      | _ => cases h
  | _ => cases h
def fLenD : Sto → List D → Option D
  | S, [d] => (dicU S d).map fun ks => .int ks.length
  | _, _ => none
theorem cd_lenD {g : Gam} : CallD g (fun xs H Q => ∃ a kvs, xs = [V.ref a] ∧ H a = some (.dK kvs) ∧ Q (.int kvs.length) H) fLenD := fun w H S ds vs d Q k r e q => by
  unfold fLenD at e
  split at e
  · rename_i d'
    obtain ⟨v, e1, e2⟩ := repL_one r
    cases z : dicU S d' with
    | none => rw [z] at e; cases e
    | some ks =>
      rw [z] at e
      cases e
      obtain ⟨a, us, x1, x2, x3⟩ := dicU_rep k e2 z
      rw [x1] at e1
      exact ⟨a, us, e1, x2, q w H _ .refl (by rw [← x3.len]; exact rep_int')⟩
  · cases e
end
abbrev FnPk (K : PySem.W.Frag) (x qual : Str) (st : Stmt) (dvs : List V) (kws : List (Str × V)) (f : Addr) (fd : FuncData) : Prop := FunD K x qual (defArgs st) (defBody st) (defScope st) dvs kws f fd
section
variable {P : Program} {w : World} {K : PySem.W.Frag} {mg : Str → Option Value} {base : Heap} {Y : Gam} {k n m : Nat} {x c qual : Str} {st : Stmt} {f : Addr} {fd : FuncData} {ps ks : List Str} {mf : MFn} {dv dvs : List V} {kws : List (Str × V)} {dd : List D}
theorem kn0_of (F : FnPk K x qual st dv kws f fd) (g : mg x = some (.ref f)) (b : ∃ ds, Vals dvs ds ∧ Binds K fd ps ds) (r : ∀ w, RepL Y w dd dvs) (h : FnOk P w K mg base (L2N.CX P w) k f fd ps (spOf Y n mf)) : Kn P w K mg base Y k x n mf dvs dd :=
  let ⟨ds, v, b⟩ := b
  ⟨f, fd, ps, ds, h, g, F.kp, b, v, r⟩
theorem knC0_of (F : FnPk K "__init__" qual st dv kws f fd) (M : Mk K (Y.ca x) f) (g : mg x = some (.ref (Y.ca x))) (b : ∃ ds, Vals dvs ds ∧ Binds K fd ps ds) (r : ∀ w, RepL Y w dd dvs) (h : FnOk P w K mg base (L2N.CX P w) k f fd ps (spOf Y n mf)) : KnC P w K mg base Y k x n mf dvs dd :=
  let ⟨ds, v, b⟩ := b
  ⟨f, fd, ps, ds, h, M, g, b, v, r⟩
theorem knCK_of (F : FnPk K "__init__" qual st dv kws f fd) (M : Mk K (Y.ca x) f) (g : mg x = some (.ref (Y.ca x))) (b : ∃ mv, KBn K fd ps (n + 1) ks (fun us ws => us ++ ws ++ mv) (fun vs zs => vs ++ zs ++ dvs)) (r : ∀ w, RepL Y w dd dvs) (h : FnOk P w K mg base (L2N.CX P w) k f fd ps (spOf Y m mf)) (hm : m = n + ks.length + dd.length + 1 := by rfl) : KnCK P w K mg base Y k x n ks mf dvs dd :=
  let ⟨ds, b⟩ := b
  ⟨f, fd, ps, ds, by rw [hm] at h; exact h, M, g, b, r⟩
theorem kbnAll {params : Arguments} {body : List Stmt} {scope : Scope} (F : FunD K x qual params body scope [] kws f fd) (n : Nat) (ks : List Str)
    (h : ∀ (kV doc pm : Value) (an : Option Addr) (cdv ct : Value) (us ws : List Value), us.length = n → ws.length = ks.length → bindArgs (PySem.W.fnOf x qual params body scope .none kV doc pm an cdv ct) ⟨us, ks.zip ws⟩ = pure (ps.zip (us ++ ws))) : ∃ mv, KBn K fd ps n ks (fun us ws => us ++ ws ++ mv) (fun vs zs => vs ++ zs ++ []) := ⟨[], kbn_of F n ks h⟩
end
end Mm
namespace Mm
open PySem PySem.Spec PyProof.Rows L2
def oexB (K : PySem.W.Frag) (C : Addr) : Bool := (match K.lookup C with
  | some ⟨.type "type", _, .cls cd, sl⟩ => (match cd.mro, sl.toList with
    | .ref C' :: bm, [_, _, _, _, some (.builtin n), _] => C' == C && n == "ValueError.__new__" && !cd.hasDel && cd.hasDict && PySem.HandSPX.refsVE bm
    | _, _ => false)
  | _ => false) && (He.eqO (PySem.W.findIn K (.ref C) "__setattr__") (some (some (.builtin "object.__setattr__"))) && (decide (PySem.W.subIn K (.ref C) (.type "BaseException") = some true) && (decide (PySem.W.typeIn K (.ref C) = some (.type "type")) && PySem.W.keepIn K (.ref C))))
theorem oexB_ok {K : PySem.W.Frag} {C : Addr} (q : oexB K C = true) : OexC K C := by
  obtain ⟨q, h⟩ := He.ba q
  obtain ⟨h1, h⟩ := He.ba h
  obtain ⟨h2, h⟩ := He.ba h
  obtain ⟨h3, h4⟩ := He.ba h
  refine ⟨?_, He.eqO_ok h1, of_decide_eq_true h2, of_decide_eq_true h3, h4⟩
  split at q
  · rename_i dd cd sl ho
    split at q
    · rename_i C' bm k0 k1 k2 k3 n k5 hm hs
      simp only [Bool.and_eq_true, beq_iff_eq, Bool.not_eq_true'] at q
      obtain ⟨⟨⟨⟨rfl, rfl⟩, hdel⟩, hdc⟩, ht⟩ := q
      obtain ⟨nm, bs, mro, ns, qn, hd, sn, sub, ab, col, del⟩ := cd
      dsimp only at hm hdel hdc
      subst hm hdel hdc
      have hsl : sl = #[k0, k1, k2, k3, some (.builtin "ValueError.__new__"), k5] := by
        obtain ⟨l⟩ := sl
        simp only at hs
        rw [hs]
      subst hsl
      exact ⟨nm, qn, ns, bs, bm, sn, sub, ab, col, dd, k0, k1, k2, k3, k5, ho, ht⟩
    · cases q
  · cases q
structure BasI (K : PySem.W.Frag) (B : Addr) : Prop where
  ga : PySem.W.specialIn K (.ref B) "__getattribute__" = some (some (.builtin "type.__getattribute__"))
  ty : PySem.W.typeIn K (.ref B) = some (.type "type")
  rd : PySem.W.readsIn K B (.type "type") = true
  fi : PySem.W.findCls K (.ref B) (.type "type") "__init__" = some (.val (.builtin "ValueError.__init__"))
def basB (K : PySem.W.Frag) (B : Addr) : Bool := He.eqO (PySem.W.specialIn K (.ref B) "__getattribute__") (some (some (.builtin "type.__getattribute__"))) && (decide (PySem.W.typeIn K (.ref B) = some (.type "type")) && (PySem.W.readsIn K B (.type "type") && (match PySem.W.findCls K (.ref B) (.type "type") "__init__" with | some (.val (.builtin n)) => n == "ValueError.__init__" | _ => false)))
theorem basB_ok {K : PySem.W.Frag} {B : Addr} (q : basB K B = true) : BasI K B := by
  obtain ⟨h1, h⟩ := He.ba q
  obtain ⟨h2, h⟩ := He.ba h
  obtain ⟨h3, h4⟩ := He.ba h
  refine ⟨He.eqO_ok h1, of_decide_eq_true h2, h3, ?_⟩
  split at h4
  · rename_i n e
    rw [e, beq_iff_eq.mp h4]
  · cases h4
section
variable {X : Cx} {o e : Expr} {es : List Expr} {to te : TE} {ta : TA} {f : Str} {p p' p1 p2 pos : Pos}
theorem pe_feinit {pl : Sem Bool} {x : Str} {B : Addr} (hg : Gl X x) (hm : X.mg x = some (.ref B)) (b : BasI X.K B) (ha : PA X (e :: es) ta)
    (hdb : (x == ("__debug__" : Str)) = false := by decide)
    (hc : eval (.Call (.Attribute (.Name x p1) "__init__" p2) (e :: es) [] pos) X.env = (do
      let ov ← eval (.Name x p1) X.env
      standAt p2.atName
      let (f, first) ← holding [ov] (getMethod ov "__init__" pl)
      callWith pos f first (backTo pos (starEach (e :: es) X.env)) (backToKw pos (keywordEach [] X.env))) := by rfl)
    (he : starEach (e :: es) X.env = (false, eval e X.env) :: starEach es X.env := by rfl) (hpl : (backTo pos (starEach es X.env)).any (·.1) = false := by rfl) :
    PE X (.Call (.Attribute (.Name x p1) "__init__" p2) (e :: es) [] pos) (tVeI X.K ta) := by
  refine ⟨fun pins s σ H Q I h => ?_⟩
  refine PySem.W.methodCall_KW (ld_glob I hg hm ?_ hdb) hc
  obtain ⟨m, fr⟩ := I.fr
  refine PySem.W.method_of_cls fr I.ok.mod.kin b.ga (PySem.W.cls_val fr I.ok.mod.kin b.ty b.rd b.fi (by decide +kernel) ?_)
  show wpAny _ _ (callWith pos (Value.builtin "ValueError.__init__") [] (backTo pos (starEach (e :: es) X.env)) []) _ _ _
  refine PyProof.Rows.callWith_method1 (thn (ha.run pos pins _ σ H _ (I.tok _) h) fun us s1 ⟨vs, H1, I1, r1, a, C, ws, ev, hl, T, ea, q⟩ => ?_) he hpl
  subst ev
  cases r1 with
  | @cons _ u0 _ ur ra rw' =>
    obtain rfl : u0 = Value.ref a := ra
    have hlen : ur.length ≤ sizeLine := by
      rw [← Paired.length rw', sizeLine_eq]
      omega
    exact oinit_ok T I1 ea hlen fun s' J => ⟨.non, H1, J, rfl, q⟩
theorem mk_endN {pins : List (Addr × Obj)} {σ : L2.St} {H1 H2 : Hp} {Q : XK} {hp hp2 h2 : Heap} {g1 g2 : Array GenState} {d1 d2 : Drawn} {t1 t2 : Nat} {os1 os2 : OsState} {a C d : Addr} {fs : List (Str × V)} (T : Raises X (.ref C)) (I1 : Inv X pins σ H1 ⟨hp, g1, d1, t1, os1⟩)
    (ha : hp.objs.size ≤ a) (k : ∀ b o, hp.get? b = some o → hp2.get? b = some o) (un : Un (frs X.stack) [] (upd H1 a (exo a C none)) H2 hp2 h2) (hok : HOk X.prog X.w H2 h2) (ho : os2 = os1) (hb : AllBare g2)
    (ea : H2 a = some (exo a C (some d))) (ed : H2 d = some (exd d fs)) (hd1 : H1 d = none) (q : Q (.ref C) (some d) (upd (del H2 a) d (.xd fs))) : L2N.MkP X pins σ Q (.ref a) ⟨h2, g2, d2, t2, os2⟩ := by
  obtain ⟨t0, G, J, kG, ge, hoe, na⟩ := mk_end0 (d2 := d2) (t2 := t2) I1 ha k un hok ho hb ea ed hd1
  exact ⟨a, _, _, ⟨G, g2, d2, t2, os2⟩, _, .ref C, some d, rfl, J, kG, ge, hoe, ⟨rfl, rfl, fun vs e => by cases e; rfl⟩, rfl, rfl, na, rfl, hb, T, q⟩
theorem pmk_oexN {CX : CXT} {x : Str} {C fI : Addr} {k : Nat} {fd : FuncData} {ps : List Str} {sp : Sp} {ds : List Value} {dvs : List V} (T : OexC X.K C) (iC : PySem.W.findIn X.K (.ref C) "__init__" = some (some (.ref fI))) (tI : PySem.W.typeIn X.K (.ref fI) = some (.type "function"))
    (F1 : FnOk X.prog X.w X.K X.mg X.base CX k fI fd ps sp) (hr : Room (k + 1) X.A) (hb : Binds X.K fd ps ds) (hd : Vals dvs ds) (hx : Passes CX X (fun _ _ _ => False)) (hg : Gl X x) (hm : X.mg x = some (.ref C)) (ha : PA X (e :: es) ta)
    (hdb : (x == ("__debug__" : Str)) = false := by decide) (he : starEach (e :: es) X.env = (false, eval e X.env) :: starEach es X.env := by rfl) (hpl : (backTo pos (starEach es X.env)).any (·.1) = false := by rfl) :
    L2N.PMk X (.Call (.Name x p) (e :: es) [] pos) (tMkO C sp dvs ta) := by
  intro pins s σ H Q I h
  obtain ⟨nm, q, N, bs, bm, sn, sub, ab, col, dd, k0, k1, k2, k3, k5, hC, hbm⟩ := T.cls
  refine wpAny_Call_Name_kw (ld_glob I hg hm ?_ hdb)
  refine PySem.W.callWith_K (h₀ := X.base) I.ok.mod.kin T.kC (thn (ha.run pos pins s σ H _ I h) fun us s1 ⟨vs, H1, I1, r1, hz, q1⟩ => ⟨I1.kIn, ?_⟩) he hpl
  show wpAny _ _ (call (.ref C) us) _ _ _
  obtain ⟨hp, g, dr, tk, os⟩ := s1
  have hsz : hp.objs.size ≤ hp.objs.size + 1 := Nat.le_succ _
  have hn : H1 (hp.objs.size + 1) = none := I1.hok.fresh hsz
  have hq := q1 (hp.objs.size + 1) hn
  have kk : ∀ b o, hp.get? b = some o → ((hp.push (PySem.W.kdv_tup us)).push (PySem.HandSPX.excO C hp.objs.size)).get? b = some o := fun b o e => Heap.get?_push_of_some _ (Heap.get?_push_of_some _ e)
  have hget : ((hp.push (PySem.W.kdv_tup us)).push (PySem.HandSPX.excO C hp.objs.size)).get? (hp.objs.size + 1) = some (PySem.HandSPX.excO C hp.objs.size) := by heap_get
  have I2 : Inv X pins σ (upd H1 (hp.objs.size + 1) (exo (hp.objs.size + 1) C none)) ⟨(hp.push (PySem.W.kdv_tup us)).push (PySem.HandSPX.excO C hp.objs.size), g, dr, tk, os⟩ :=
    I1.laid (t' := tk) (a := hp.objs.size + 1) (o := exo (hp.objs.size + 1) C none) (h' := (hp.push (PySem.W.kdv_tup us)).push (PySem.HandSPX.excO C hp.objs.size)) kk hsz (exo_ok hget)
  have r2 : Vals (V.ref (hp.objs.size + 1) :: (vs ++ dvs)) (Value.ref (hp.objs.size + 1) :: (us ++ ds)) := .cons rfl (r1.append hd)
  have hl : (Value.ref (hp.objs.size + 1) :: us ++ ds).length = ps.length := by
    have e := r2.length
    rw [F1.len _ _ _ _ hq] at e
    exact e.symm
  have hus : us.length ≤ sizeLine := by
    rw [← Paired.length r1, sizeLine_eq]
    omega
  refine wpAny_call (PySem.HandSPX.call_own F.excBase_ValueError (fun Y => PySem.HandSPX.refsVE_contains Y bm hbm) (I1.kIn _ _ hC) (PySem.W.looks_findIn I1.kIn iC) (fun self => PySem.W.bind_fn I1.kIn self tI) hus
    (codeAny_mono (F1.run _ X.stack _ _ ⟨Value.ref (hp.objs.size + 1) :: us, []⟩ (Value.ref (hp.objs.size + 1) :: (us ++ ds)) _ _ (fun _ _ _ => False) (hr.make C us []) (I2.env0.make C us []) (hb _ (Value.ref (hp.objs.size + 1) :: us) I2.kIn hl) r2 hq) fun r s' hq' => ?_))
  cases r with
  | error er => exact hx pins σ _ _ er s' I2 hq'
  | ok fl =>
    cases fl with
    | ret u =>
      obtain ⟨v, H2, os2, bare2, un2, hok2, rv, ev, d, fs, ea, ed, hd1, q2⟩ := hq'
      subst ev
      obtain ⟨h2, g2, d2, t2, os'⟩ := s'
      exact ⟨rv, mk_endN (raises_own T.exC T.tyC) I1 hsz kk un2 hok2 os2 bare2 ea ed hd1 q2⟩
    | next => exact False.elim hq'
    | brk => exact False.elim hq'
    | cont => exact False.elim hq'
end
def spX (K : PySem.W.Frag) (f : Str) : Sp := fun vs H Q E => ∃ a C v, vs = [.ref a, v] ∧ OexC K C ∧ PySem.W.findIn K (.ref C) f = some none ∧ H a = some (exo a C none) ∧ ∀ dx, H dx = none → dx ≠ a → Q .non (upd (upd H dx (exd dx [(f, v)])) a (exo a C (some dx)))
theorem pass_none {X : Cx} : Passes (L2N.CX X.prog X.w) X (fun _ _ _ => False) := fun pins σ H s e s' I c => by
  obtain ⟨_, _, _, _, _, _, _, _, _, _, _, _, z⟩ := c
  exact False.elim z
theorem xinit_post {K : PySem.W.Frag} {f m : Str} {N : List Str} {vs : List V} {H : Hp} {Q : VK} {E : XK} (hN : N.length = 2) (h : spX K f vs H Q E) :
    tSeq (tDrop (tVeI K (tCons (tVar 0) (tCons (tC (.str m)) tNil)))) (tOst K f (tVar 0) (tVar 1)) { nx := fun _ H' => Q .non H', rt := Q } (L2.start N vs) H := by
  obtain ⟨a, C, v, rfl, T, hf, ha, q⟩ := h
  match N, hN with
  | [n0, n1], _ =>
    exact ⟨.ref a, rfl, a, C, [.str m], rfl, (by show 1 ≤ 1000; decide), T, ha, v, rfl, .ref a, rfl, a, C, rfl, T, hf, .inl ⟨ha, q⟩⟩
structure KnF (P : Program) (w : World) (K : PySem.W.Frag) (mg : Str → Option Value) (base : Heap) (Y : Gam) (x : Str) : Prop where
  oex : OexC K (Y.ca x)
  gP : mg x = some (.ref (Y.ca x))
  noF : PySem.W.findIn K (.ref (Y.ca x)) (fldOf x) = some none
  ini : ∃ fI fd ps, PySem.W.findIn K (.ref (Y.ca x)) "__init__" = some (some (.ref fI)) ∧ PySem.W.typeIn K (.ref fI) = some (.type "function") ∧ FnOk P w K mg base (L2N.CX P w) 1 fI fd ps (spX K (fldOf x)) ∧ Binds K fd ps []
def sRaiseF (c : Str) (me : ME) : MS := fun env S => (me env S).out env fun d S1 => .exc c (some d) env S1
section
variable {X : Cx} {Y : Gam} {W : WX} {e : Expr} {te : TE} {me : ME} {p pos : Pos}
theorem u_raiseF {x : Str} {pos' : Pos} (h : KnF X.prog X.w X.K X.mg X.base Y x) (hr : Room 2 X.A) (tk : L2N.Takes X W) (he : SE X Y W e te me) (hc : X.calm = true := by rfl) (hK : X.K = Y.K := by rfl) (hg : Gl X x := by rfl) (hdb : (x == ("__debug__" : Str)) = false := by decide) (hst : starEach [e] X.env = [(false, eval e X.env)] := by rfl) (hpl : (backTo pos (starEach [] X.env)).any (·.1) = false := by rfl) :
    SS X Y W (.Raise (some (.Call (.Name x p) [e] [] pos)) none pos') (fun _ σ H => tMkO (Y.ca x) (spX X.K (fldOf x)) [] (tCons te tNil) σ H fun cls d H' => W cls d σ H') (sRaiseF x me) := by
  obtain ⟨oex, gP, noF, fI, fd, ps, iC, tI, F1, hb⟩ := h
  refine ⟨L2N.ps_raise hc tk (pmk_oexN oex iC tI F1 hr hb .nil pass_none hg gP (pa_cons he.pe pa_nil hst) hdb hst hpl), fun w0 H0 w H σ env S O Dn st q => ?_⟩
  refine he.sim w0 H0 w H σ env S O _ st ((PostS.out q).imp fun d S1 w1 H1 st1 l1 p1 v r => ?_)
  refine ⟨by show 1 ≤ 1000; decide, fun a na => ⟨a, Y.ca x, v, rfl, oex, noF, upd_same, fun dx hdx ne => ⟨rfl, dx, [(fldOf x, v)], upd_same, ?_, ?_, ?_⟩⟩⟩
  · rw [upd_ne ne, upd_same]
  · rw [← hdx, upd_ne ne]
  · have na' : H1 dx = none := by rw [← hdx, upd_ne ne]
    have eH : upd (del (upd (upd (upd H1 a (exo a (Y.ca x) none)) dx (exd dx [(fldOf x, v)])) a (exo a (Y.ca x) (some dx))) a) dx (.xd [(fldOf x, v)]) = upd H1 dx (.xd [(fldOf x, v)]) := by
      funext b
      by_cases h1 : b = dx
      · rw [h1, upd_same, upd_same]
      · rw [upd_ne h1, upd_ne h1]
        by_cases h2 : b = a
        · rw [h2, del_same, na]
        · rw [del_ne h2, upd_ne h2, upd_ne h1, upd_ne h2]
    rw [eH]
    have G := Grow.one (w := w1) (o := .xd [(fldOf x, v)]) na' (fun ps z => by cases z)
    have st2 := st1.grow G
    have l2 := G.le st1.ok
    exact p1 _ _ σ O _ _ st2 l2 ⟨rfl, dx, v, rfl, upd_same, r.mono l2⟩
end
end Mm
namespace Mm
open PySem PySem.Spec PyProof.Rows L2
def xmB (K : PySem.W.Frag) (c f : Str) : Bool := He.eqO (PySem.W.findIn K (.ref (He.ga K c)) f) (some none) && (He.eqO (PySem.W.findIn K (.ref (He.ga K c)) "__init__") (some (some (.ref (He.ma K (He.ga K c) "__init__")))) && decide (PySem.W.typeIn K (.ref (He.ma K (He.ga K c) "__init__")) = some (.type "function")))
theorem xmB_ok {K : PySem.W.Frag} {c f : Str} (h : xmB K c f = true) : PySem.W.findIn K (.ref (He.ga K c)) f = some none ∧ PySem.W.findIn K (.ref (He.ga K c)) "__init__" = some (some (.ref (He.ma K (He.ga K c) "__init__"))) ∧ PySem.W.typeIn K (.ref (He.ma K (He.ga K c) "__init__")) = some (.type "function") := by
  obtain ⟨h1, h⟩ := He.ba h
  obtain ⟨h2, h3⟩ := He.ba h
  exact ⟨He.eqO_ok h1, He.eqO_ok h2, of_decide_eq_true h3⟩
end Mm
namespace Mm
open PySem L2
@[simp] theorem sDPut_eq (md mk me : ME) (env : Envr) (S : Sto) : sDPut md mk me env S = (me env S).out env fun d S1 => (md env S1).out env fun o S2 => (mk env S2).out env fun k S3 => (match keyD k, o with
    | some k, .ref n => (match S3[n]? with
      | some (.dic ks) => if szB (ks.length + 1) then .nx env (S3.set n (.dic (putD ks k d))) else .stuck
      | _ => .stuck)
    | _, _ => .stuck) := rfl
@[simp] theorem dicOf_ref (S : Sto) (n : Nat) : dicOf S (.ref n) = (match S[n]? with
    | some (.dic ks) => some ks
    | some (.lck ks) => some ks
    | _ => none) := rfl
@[simp] theorem dicU_ref (S : Sto) (n : Nat) : dicU S (.ref n) = (match S[n]? with
    | some (.dic ks) => some ks
    | _ => none) := rfl
@[simp] theorem eCellOf_eq (mf : MF) (env : Envr) (S : Sto) : eCellOf mf env S = (mf env S).bind fun c S1 => .ok (.ref S1.length) (S1 ++ [c]) := rfl
@[simp] theorem eNewC_eq (c : Str) (mf : MFn) (dd : List D) (m : MA) (env : Envr) (S : Sto) : eNewC c mf dd m env S = (m env S).bind fun ds S1 => keepI S1 (mf (.ref S1.length :: (ds ++ dd)) (S1 ++ [.ins c []])) := rfl
@[simp] theorem keepI_ok (S S2 : Sto) : keepI S (.ok (.val .non) S2) = .ok (.ref S.length) S2 := rfl
@[simp] theorem keepI_exc (S S2 : Sto) (c : Str) (p : Option D) : keepI S (.exc c p S2) = .exc c p S2 := rfl
@[simp] theorem sRaiseF_eq (c : Str) (me : ME) (env : Envr) (S : Sto) : sRaiseF c me env S = (me env S).out env fun d S1 => .exc c (some d) env S1 := rfl
@[simp] theorem itS_eq (me : ME) (env : Envr) (S : Sto) : itS me env S = (me env S).bind fun d S1 => match d with
  | .str z => .ok (signs z) S1
  | _ => .stuck := rfl
@[simp] theorem fLenD_eq (S : Sto) (d : D) : fLenD S [d] = (dicU S d).map fun ks => .int ks.length := rfl
end Mm
namespace Fb
open PySem L2 Mm
noncomputable def m__law_wide : MFn := mFn 2 (sSeq (sOwn 1 (fLst (aCons (eTup (aCons (eC (.int 2)) (aCons (eC (.int 1)) (aCons (eC (.int 2)) aNil)))) (aCons (eTup (aCons (eC (.int 1)) (aCons (eC (.int 2)) (aCons (eC (.int 2)) aNil)))) (aCons (eTup (aCons (eC (.int 2)) (aCons (eC (.int 2)) (aCons (eC (.int 1)) aNil)))) (aCons (eTup (aCons (eC (.int 0)) (aCons (eC (.int 2)) (aCons (eC (.int 2)) aNil)))) (aCons (eTup (aCons (eC (.int 3)) (aCons (eC (.int 1)) (aCons (eC (.int 3)) aNil)))) aNil)))))))
    (sSeq (sExt 1 (mFrz (fLst (aCons (eTup (aCons (eC (.int 1)) (aCons (eC (.int 0)) (aCons (eC (.int 1)) aNil)))) (aCons (eTup (aCons (eC (.int 0)) (aCons (eC (.int 0)) (aCons (eC (.int 1)) aNil)))) (aCons (eTup (aCons (eC (.int 2)) (aCons (eC (.int 3)) (aCons (eC (.int 2)) aNil)))) (aCons (eTup (aCons (eC (.int 3)) (aCons (eC (.int 2)) (aCons (eC (.int 2)) aNil)))) (aCons (eTup (aCons (eC (.int 4)) (aCons (eC (.int 3)) (aCons (eC (.int 2)) aNil)))) aNil))))))))
    (sFrz 1 (sRet (eCall m__law_of [] (aCons (eV 0) (aCons (eV 1) aNil)))))))
noncomputable def m_BodyU_initU : MFn := mFn 4 (sSeq (sIf (cOr (cB (eOp iLt (eV 1) (eC (.int 0)))) (cOr (cB (eOp iGt (eV 1) (eC (.int 4)))) (cOr (cB (eOp iLt (eV 2) (eC (.int 0)))) (cOr (cB (eOp iGt (eV 2) (eC (.int 3)))) (cOr (cB (eOp iLt (eV 3) (eC (.int 1)))) (cB (eOp iGt (eV 3) (eC (.int 3))))))))) (sRaise "BadSize") sNil)
    (sSeq (sFldC "Body" "wide" (eV 0) (eTup (aCons (eV 1) (aCons (eV 2) (aCons (eV 3) aNil)))))
    (sSeq (sFldC "Body" "tables" (eV 0) (eCellOf fDic0))
    (sSeq (sFldC "Body" "store" (eV 0) (eCellOf fDic0))
    (sFldC "Body" "dues" (eV 0) (eTup (aCons (eC (.int 0)) (aCons (eC (.int 0)) aNil))))))))
noncomputable def m__law_cells : MFn := mFn 4 (sSeq (sAsg (eCall m__law_of [] (aCons (eV 0) (aCons (mFrz (fLst (aCons (eC (.int 2)) (aCons (eC (.int 10)) (aCons (eC (.int 2001)) aNil))))) aNil))) (gN 2))
    (sRet (eCB fTupOf (aCons (mFrz (fLc (itR1 (aCons (eOp iShl (eC (.int 1)) (eV 1)) aNil)) (gN 3) cYes (eOp iSub (eCall m__law_take [] (aCons (eV 0) (aCons (eV 2) aNil))) (eOp iDiv (eV 2) (eC (.int 2)))) [3])) aNil))))
noncomputable def m_is_name : MFn := mFn 2 (sRet (eAnd (eChain iLe iLe (eC (.int 1)) (eCB fLen (aCons (eV 0) aNil)) (eC (.int 6))) (eCB fAll (aCons (mFrz (fLc (itS (eV 0)) (gN 1) cYes (eOp (fInSign false) (eV 1) (eC (.str "abcdefghijklmnopqrstuvwxyz"))) [1])) aNil))))
noncomputable def m_Body_need_new : MFn := mFn 2 (sSeq (sIf (cNot (cB (eCall m_is_name [] (aCons (eV 1) aNil)))) (sRaise "BadName") sNil)
    (sSeq (sIf (cB (eDIn false (eV 1) (eFld "Body" "tables" (eV 0)))) (sRaise "Taken") sNil)
    (sIf (cB (eOp iGe (eCB fLenD (aCons (eFld "Body" "tables" (eV 0)) aNil)) (eC (.int 6)))) (sRaise "Full") sNil)))
noncomputable def m_digits_of : MFn := mFn 3 (sSeq (sAsg (eC (.int 0)) (gN 2))
    (sSeq (whL (cAnd (cB (eOp iLt (eV 2) (eV 1))) (cB (eOp iLt (eOp iShl (eC (.int 1)) (eV 2)) (eV 0)))) (sAug 2 (fun i j => i + j) (eC (.int 1))) 100)
    (sSeq (sIf (cB (eOp fNe (eOp iShl (eC (.int 1)) (eV 2)) (eV 0))) (sRaise "BadCells") sNil)
    (sRet (eV 2)))))
noncomputable def m_TableU_initU : MFn := mFn 4 (sSeq (sFldC "Table" "spread" (eV 0) (eV 1))
    (sSeq (sFldC "Table" "grip" (eV 0) (eV 2))
    (sFldC "Table" "move" (eV 0) (eV 3))))
noncomputable def m_laid : MFn := mFn 3 (sRet (eNew "Table" m_TableU_initU [.non] (aCons (eV 0) (aCons (eCB fTupOf (aCons (mFrz (fLc (itR1 (aCons (eOp iShl (eC (.int 1)) (eMeth "Fold" "many" m_Fold_many [] (eV 0) aNil)) aNil)) (gN 2) cYes (eOp fIx (eV 1) (eMeth "Fold" "to" m_Fold_to [] (eV 0) (aCons (eV 2) aNil))) [2])) aNil)) aNil))))
noncomputable def m_Body_need_spread : MFn := mFn 5 (sSeq (sIf (cOr (cB (eOp fNe (eCB fLen (aCons (eV 1) aNil)) (eOp dAdd (eOp fIx (eFld "Body" "wide" (eV 0)) (eC (.int 0))) (eOp fIx (eFld "Body" "wide" (eV 0)) (eC (.int 1)))))) (cB (eCB fAny (aCons (mFrz (fLc (itL (eV 1)) (gN 4) cYes (eOr (eOp iLt (eV 4) (eC (.int 0))) (eOp iGt (eOp iShr (eV 4) (eV 2)) (eC (.int 0)))) [4])) aNil)))) (sRaise "BadRows") sNil)
    (sSeq (sAsg (eNew "Fold" m_FoldU_initU [] (aCons (eV 1) (aCons (eV 2) aNil))) (gN 3))
    (sSeq (sIf (cNot (cB (eMeth "Fold" "onto" m_Fold_onto [] (eV 3) aNil))) (sRaise "BadRows") sNil)
    (sRet (eV 3)))))
noncomputable def m_Body_lay : MFn := mFn 6 (sSeq (sExpr (eMeth "Body" "need_new" m_Body_need_new [] (eV 0) (aCons (eV 1) aNil)))
    (sSeq (sAsg (eCall m_digits_of [] (aCons (eCB fLen (aCons (eV 3) aNil)) (aCons (eOp dAdd (eOp fIx (eFld "Body" "wide" (eV 0)) (eC (.int 0))) (eOp fIx (eFld "Body" "wide" (eV 0)) (eC (.int 1)))) aNil))) (gN 4))
    (sSeq (sIf (cB (eCB fAny (aCons (mFrz (fLc (itL (eV 3)) (gN 5) cYes (eOr (eOp iLt (eV 5) (eUn fNeg (eC (.int 1000000000)))) (eOp iGt (eV 5) (eC (.int 1000000000)))) [5])) aNil))) (sRaise "BadCells") sNil)
    (sDPut (eFld "Body" "tables" (eV 0)) (eV 1) (eCall m_laid [] (aCons (eMeth "Body" "need_spread" m_Body_need_spread [] (eV 0) (aCons (eV 2) (aCons (eV 4) aNil))) (aCons (mFrz (fCB fListOf (aCons (eV 3) aNil))) aNil)))))))
noncomputable def m_Body_need : MFn := mFn 2 (sSeq (sIf (cB (eDIn true (eV 1) (eFld "Body" "tables" (eV 0)))) (sRaiseF "NoTable" (eV 1)) sNil)
    (sRet (eDGet (eFld "Body" "tables" (eV 0)) (eV 1))))
noncomputable def m_Table_plain : MFn := mFn 3 (sSeq (sAsg (eMeth "Fold" "back" m_Fold_back [] (eFld "Table" "spread" (eV 0)) aNil) (gN 1))
    (sRetF (fLc (itR1 (aCons (eOp iShl (eC (.int 1)) (eMeth "Fold" "size" m_Fold_size [] (eFld "Table" "spread" (eV 0)) aNil)) aNil)) (gN 2) cYes (eOp fIx (eFld "Table" "grip" (eV 0)) (eMeth "Fold" "to" m_Fold_to [] (eV 1) (aCons (eV 2) aNil))) [2])))
noncomputable def m_Body_cells : MFn := mFn 2 (sRetF (fMeth "Table" "plain" m_Table_plain [] (eMeth "Body" "need" m_Body_need [] (eV 0) (aCons (eV 1) aNil)) aNil))
noncomputable def m_Body_rows : MFn := mFn 2 (sRet (eMeth "Fold" "rows" m_Fold_rows [] (eFld "Table" "spread" (eMeth "Body" "need" m_Body_need [] (eV 0) (aCons (eV 1) aNil))) aNil))
noncomputable def m_Move_is_ready : MFn := mFn 2 (sRet (eOp (fIn true) (eOp fIx (eFld "Move" "swings" (eV 0)) (eV 1)) (eFld "Move" "left" (eV 0))))
noncomputable def m_Table_berth_now : MFn := mFn 2 (sSeq (sIf (cAnd (cB (eOp fIsNot (eFld "Table" "move" (eV 0)) (eC .non))) (cB (eMeth "Move" "is_ready" m_Move_is_ready [] (eFld "Table" "move" (eV 0)) (aCons (eV 1) aNil)))) (sRet (eOp fIx (eFld "Table" "grip" (eV 0)) (eOp fIx (eFld "Move" "springs" (eFld "Table" "move" (eV 0))) (eV 1)))) sNil)
    (sRet (eOp fIx (eFld "Table" "grip" (eV 0)) (eV 1))))
noncomputable def m_Body_held : MFn := mFn 4 (sSeq (sAsg (eMeth "Body" "need" m_Body_need [] (eV 0) (aCons (eV 1) aNil)) (gN 3))
    (sSeq (sIf (cOr (cB (eOp iLt (eV 2) (eC (.int 0)))) (cB (eOp iGe (eV 2) (eCB fLen (aCons (eFld "Table" "grip" (eV 3)) aNil))))) (sRaise "NoBerth") sNil)
    (sRet (eMeth "Table" "berth_now" m_Table_berth_now [] (eV 3) (aCons (eV 2) aNil)))))
noncomputable def m_Body_digits : MFn := mFn 2 (sRet (eMeth "Fold" "size" m_Fold_size [] (eFld "Table" "spread" (eMeth "Body" "need" m_Body_need [] (eV 0) (aCons (eV 1) aNil))) aNil))
noncomputable def m_Body_paid : MFn := mFn 1 (sRet (eFld "Body" "dues" (eV 0)))
end Fb
namespace Fb
open PySem L2 Mm Gf
theorem take1R {R : Sto} {b : Cell} (hb : Bx b) {k : Nat} (h0 : 0 < k) (h1 : k < 1073741824) : ∃ b' r, m__law_take [.ref 0, .int k] (b :: R) = .ok (.val (nd r)) (b' :: R) ∧ Bx b' ∧ r < k := take_ok (S := (b :: R)) (n := 0) rfl hb h0 h1
theorem takeKR {R : Sto} {b : Cell} (hb : Bx b) (K : Int) (k : Nat) (e : K = (k : Int)) (h0 : 0 < k) (h1 : k < 1073741824) : ∃ b' r, m__law_take [.ref 0, .int K] (b :: R) = .ok (.val (nd r)) (b' :: R) ∧ Bx b' ∧ r < k := by
  subst e
  exact take1R (R := R) hb h0 h1
theorem shuffled_okR {R : Sto} {b : Cell} (hb : Bx b) (xs : List Nat) (hl : xs.length ≤ 1000) : ∃ b' ys, m__law_shuffled [.ref 0, .lst (nl xs)] (b :: R) = .ok (.own (.lst (nl ys))) (b' :: R) ∧ Bx b' ∧ ys.Perm xs := by
  have key := forL_inv (g := gN 3) (b := sIns 2 (eCall m__law_take [] (aCons (eV 0) (aCons (eOp dAdd (eLenA 2) (eC (.int 1))) aNil))) (eV 3))
    (I := fun ds env S' => ∃ (b' : Cell) (ys rest : List Nat) (s : Sl), S' = (b' :: R) ∧ Bx b' ∧ ds = nl rest ∧ env = [.v (.ref 0), .v (.lst (nl xs)), .o (.lst (nl ys)), s] ∧ (ys ++ rest).Perm xs)
    (fun d ds env S' h => by
      obtain ⟨b', ys, rest, s, rfl, hb', e1, rfl, p⟩ := h
      cases rest with
      | nil => simp at e1
      | cons x rest =>
        simp at e1
        obtain ⟨rfl, rfl⟩ := e1
        have pl := p.length_eq
        simp at pl
        obtain ⟨b2, r, t, hb2, hr⟩ := take1R (R := R) hb' (k := ys.length + 1) (by omega) (by omega)
        have t' : m__law_take [.ref 0, .int ((ys.length : Int) + 1)] (b' :: R) = .ok (.val (nd r)) (b2 :: R) := t
        refine ⟨_, rfl, [.v (.ref 0), .v (.lst (nl xs)), .o (.lst (nl (ys.take r ++ [x] ++ ys.drop r))), .v (nd x)], (b2 :: R), .inl ?_, b2, _, rest, _, rfl, hb2, rfl, rfl, ?_⟩
        · have bd := (bBnd_iff (i := (r : Int)) (n := 9223372036854775807)).mpr (by omega)
          have sz := szB_of (n := ys.length + 1) (by omega)
          simp [t', bd, sz]
          simp [nl]
        · exact ((insert_perm ys r x).append_right rest).trans ((List.perm_middle (l₁ := ys) (l₂ := rest) (a := x)).symm.trans p)) (nl xs) [.v (.ref 0), .v (.lst (nl xs)), .o (.lst []), .no] (b :: R) ⟨b, [], xs, .no, rfl, hb, rfl, rfl, by simp⟩
  obtain ⟨e', S', k1, b', ys, rest, s, rfl, hb', e1, rfl, p⟩ := key
  have : rest = [] := by
    cases rest with
    | nil => rfl
    | cons b r => simp at e1
  subst this
  refine ⟨b', ys, ?_, hb', by simpa using p⟩
  have s0 := szB_of (n := 0) (by omega)
  simp [m__law_shuffled, s0]
  rw [k1]
  rfl
theorem numbers_okR {R : Sto} {b : Cell} (hb : Bx b) (c w : Nat) (hc : c ≤ 1000) (hw : w ≤ 20) : ∃ b' ys, m__law_numbers [.ref 0, .int c, .int w] (b :: R) = .ok (.own (.lst (nl ys))) (b' :: R) ∧ Bx b' ∧ ys.length = c ∧ ∀ y ∈ ys, y < 2 ^ w := by
  have pw := powB_nat (i := 1) (by decide) w (by omega)
  have w2 : 2 ^ w < 1073741824 := Nat.lt_of_le_of_lt (Nat.pow_le_pow_right (by decide) hw) (by decide)
  have key := lcR_inv (g := gN 3) (te := eCall m__law_take [] (aCons (eV 0) (aCons (eOp iShl (eC (.int 1)) (eV 2)) aNil))) (env := [.v (.ref 0), .v (.int c), .v (.int w), .no])
    (I := fun ds zs S' => ∃ (b' : Cell) (ys : List Nat), S' = (b' :: R) ∧ Bx b' ∧ zs = nl ys ∧ ys.length + ds.length = c ∧ ∀ y ∈ ys, y < 2 ^ w)
    (fun d ds zs S' h => by
      obtain ⟨b', ys, rfl, hb', rfl, l, lt⟩ := h
      obtain ⟨b2, r, t, hb2, hr⟩ := take1R (R := R) hb' (k := 2 ^ w) (Nat.two_pow_pos w) w2
      have t' : m__law_take [.ref 0, .int (2 ^ w)] (b' :: R) = .ok (.val (nd r)) (b2 :: R) := by
        have e5 : (2 : Int) ^ w = ((2 ^ w : Nat) : Int) := by simp
        rw [e5]
        exact t
      refine ⟨_, rfl, nd r, (b2 :: R), ?_, b2, ys ++ [r], rfl, hb2, nl_append ys [r], by simp at l ⊢; omega, fun y hy => ?_⟩
      · simp [pw, t']
      · rcases List.mem_append.mp hy with hy | hy
        · exact lt y hy
        · simp at hy
          rw [hy]
          exact hr) (nl (List.range c)) [] (b :: R) ⟨b, [], rfl, hb, rfl, by simp, fun y hy => by simp at hy⟩
  obtain ⟨zs, S', k1, b', ys, rfl, hb', e1, l, lt⟩ := key
  simp at e1 l
  subst e1
  have rg := rgB_nat (n := c) (by omega)
  have sz := szB_of (n := c) (by omega)
  refine ⟨b', ys, ?_, hb', l, lt⟩
  simp [m__law_numbers, rg, rng0, k1, l, sz]
theorem lBody1_okR {R : Sto} {b : Cell} (hb : Bx b) {n w : Nat} {ls : List Nat} (h : Lin n w ls) (hn : 1 < n) (hn2 : n ≤ 1000) (s4 s5 s6 : Sl) : ∃ b' ls' s5' s6', lBody1 [.v (.ref 0), .v (nd n), .v (nd w), .o (.lst (nl ls)), s4, s5, s6, .no, .no] (b :: R) =
    .nx [.v (.ref 0), .v (nd n), .v (nd w), .o (.lst (nl ls')), s4, s5', s6', .no, .no] (b' :: R) ∧ Bx b' ∧ Lin n w ls' := by
  obtain ⟨b1, o, t1, hb1, ho⟩ := take1R (R := R) hb (k := n) (by omega) (by omega)
  obtain ⟨b2, r, t2, hb2, hr⟩ := take1R (R := R) hb1 (k := n - 1) (by omega) (by omega)
  have t2' : m__law_take [.ref 0, .int ((n : Int) - 1)] (b1 :: R) = .ok (.val (nd r)) (b2 :: R) := by
    have e : (n : Int) - 1 = ((n - 1 : Nat) : Int) := by omega
    rw [e]
    exact t2
  obtain ⟨m1, m2⟩ := mod_ne ho hr
  have e1 : ((o : Int) + 1 + r).fmod n = (((o + 1 + r) % n : Nat) : Int) := by
    rw [← fmod_natnat]
    rfl
  have hl := h.len
  have g1 := nl_get (xs := ls) (i := o) (by omega)
  have g2 := nl_get (xs := ls) (i := (o + 1 + r) % n) (by omega)
  have ix := ixN_of (n := ls.length) (j := o) (by omega)
  have nz : ¬ n = 0 := by omega
  refine ⟨b2, ls.set o (ls.getD o 0 ^^^ ls.getD ((o + 1 + r) % n) 0), .v (nd o), .v (.int ((o : Int) + 1 + r)), ?_, hb2, h.row ho m1 m2⟩
  have g2' : atI (nl ls) (((o : Int) + 1 + r) % (n : Int)) = some (nd (ls.getD ((o + 1 + r) % n) 0)) := g2
  simp [lBody1, t1, t2', nz, e1, g1, g2', ix]
  exact nl_set _ _ _
theorem lBody2_okR {R : Sto} {b : Cell} (hb : Bx b) {n w : Nat} {ls : List Nat} (h : Lin n w ls) (hn : 1 < w) (hw : w ≤ 1000) (hn2 : n ≤ 1000) (s4 s5 s6 : Sl) : ∃ b' ls' s5' s6', lBody2 [.v (.ref 0), .v (nd n), .v (nd w), .o (.lst (nl ls)), s4, s5, s6, .no, .no] (b :: R) =
    .nx [.v (.ref 0), .v (nd n), .v (nd w), .o (.lst (nl ls')), s4, s5', s6', .no, .no] (b' :: R) ∧ Bx b' ∧ Lin n w ls' := by
  obtain ⟨b1, o, t1, hb1, ho⟩ := take1R (R := R) hb (k := w) (by omega) (by omega)
  obtain ⟨b2, r, t2, hb2, hr⟩ := take1R (R := R) hb1 (k := w - 1) (by omega) (by omega)
  have t2' : m__law_take [.ref 0, .int ((w : Int) - 1)] (b1 :: R) = .ok (.val (nd r)) (b2 :: R) := by
    have e : (w : Int) - 1 = ((w - 1 : Nat) : Int) := by omega
    rw [e]
    exact t2
  obtain ⟨m1, m2⟩ := mod_ne ho hr
  have e1 : ((o : Int) + 1 + r).fmod w = (((o + 1 + r) % w : Nat) : Int) := by
    rw [← fmod_natnat]
    rfl
  have hl := h.len
  have nz : ¬ w = 0 := by omega
  generalize hf : (o + 1 + r) % w = f at *
  have lc := lcR_map (S := (b2 :: R)) (g := gN 8) (tt := cYes) (te := eOp iXor (eV 8) (eOp iShl (eOp iAnd (eOp iShr (eV 8) (eV 5)) (eC (.int 1))) (eV 6))) (env := [.v (.ref 0), .v (nd n), .v (nd w), .v (.lst (nl ls)), s4, .v (nd o), .v (nd f), .no, .no].map hideS) (fun _ => true) (fun d => match d with
    | .int i => nd (phi o f i.toNat)
    | d => d) (nl ls) (fun d hd => by
      obtain ⟨y, hy, rfl⟩ := mem_nl.mp hd
      refine ⟨[.v (.ref 0), .v (nd n), .v (nd w), .v (.lst (nl ls)), hideS s4, .v (nd o), .v (nd f), .no, .v (nd y)], rfl, rfl, fun _ => ?_⟩
      have bb := band_one y o
      have pw := powB_nat (i := ((if y.testBit o then 1 else 0 : Nat) : Int)) (by split <;> decide) f (by omega)
      have px := phi_xorI y o f
      simp only [eOp_eq, eV_eq, eC_eq, bind_ok', iAnd_eq, iShr_eq, iShl_eq, iXor_eq, shr_nat]
      simp
      rw [bb]
      simp only [pw, if_true, opt_some', bind_ok', iXor_eq, Int.toNat_natCast]
      rw [px])
  rw [List.filter_eq_self.mpr (fun _ _ => rfl), nl_map (g := phi o f) (fun y _ => by simp)] at lc
  have sz := szB_of (n := ls.length) (by omega)
  refine ⟨b2, ls.map (phi o f), .v (nd o), .v (nd f), ?_, hb2, h.col m1 (fun e => m2 e.symm)⟩
  simp at lc
  simp [lBody2, t1, t2', nz, e1, sz, lc]
theorem lForR {R : Sto} {n w : Nat} {B : MS} (c : Prop) (hB : c → ∀ {b : Cell} (_ : Bx b) {ls : List Nat} (_ : Lin n w ls) (s4 s5 s6 : Sl), ∃ b' ls' s5' s6', B (lEnv n w ls s4 s5 s6) (b :: R) = .nx (lEnv n w ls' s4 s5' s6') (b' :: R) ∧ Bx b' ∧ Lin n w ls')
    (m : Nat) (hc : m = 0 ∨ c) {b : Cell} (hb : Bx b) {ls : List Nat} (h : Lin n w ls) (s4 s5 s6 : Sl) : ∃ b' ls' s4' s5' s6', forL (gN 4) B (nl (List.range m)) (lEnv n w ls s4 s5 s6) (b :: R) = .nx (lEnv n w ls' s4' s5' s6') (b' :: R) ∧ Bx b' ∧ Lin n w ls' := by
  have key := forL_inv (g := gN 4) (b := B) (I := fun ds env S => (ds = [] ∨ c) ∧ ∃ (b' : Cell) (ls' : List Nat) (s4' s5' s6' : Sl), S = (b' :: R) ∧ Bx b' ∧ Lin n w ls' ∧ env = lEnv n w ls' s4' s5' s6')
    (fun d ds env S h => by
      obtain ⟨hc, b', ls', s4', s5', s6', rfl, hb', hL, rfl⟩ := h
      have c' : c := hc.resolve_left (fun z => by cases z)
      obtain ⟨b2, ls2, s5'', s6'', e, hb2, hL2⟩ := hB c' hb' hL (.v d) s5' s6'
      exact ⟨lEnv n w ls' (.v d) s5' s6', rfl, _, _, .inl e, .inr c', b2, ls2, _, _, _, rfl, hb2, hL2, rfl⟩) (nl (List.range m)) (lEnv n w ls s4 s5 s6) (b :: R) ⟨by
        rcases hc with rfl | hc
        · exact .inl rfl
        · exact .inr hc, b, ls, _, _, _, rfl, hb, h, rfl⟩
  obtain ⟨e', S', k1, _, b', ls', s4', s5', s6', rfl, hb', hL, rfl⟩ := key
  exact ⟨b', ls', s4', s5', s6', k1, hb', hL⟩
theorem lItR {R : Sto} {b : Cell} (hb : Bx b) {k x i : Nat} (hk : 0 < k) (hk2 : k ≤ 1000) {env : Envr} (h0 : env[0]? = some (.v (.ref 0))) (hi : env[i]? = some (.v (nd x))) :
    ∃ b' m, itR1 (aCons (eOp iMul (eCall m__law_take [] (aCons (eV 0) (aCons (eC (nd k)) aNil))) (eCB fInt (aCons (eOp iGt (eV i) (eC (.int 1))) aNil))) aNil) env (b :: R) = .ok (nl (List.range m)) (b' :: R) ∧ Bx b' ∧ (m = 0 ∨ 1 < x) := by
  obtain ⟨b1, r, t, hb1, hr⟩ := take1R (R := R) hb (k := k) hk (by omega)
  refine ⟨b1, r * (if 1 < x then 1 else 0), ?_, hb1, ?_⟩
  · have c := cnt r x
    have mm := mulB_l (i := (r : Int)) (j := (if decide ((1 : Int) < (x : Int)) = true then 1 else 0)) (by omega)
    have le : r * (if 1 < x then 1 else 0) ≤ 100000 := by split <;> omega
    have rg := rgB_nat le
    simp only [itR1_eq, aCons_eq, aNil_eq, eOp_eq, eCall_eq, eV_eq, eC_eq, eCB_eq, h0, hi, bind_ok', List.append_nil, t, r_val, iGt_eq, opt_some', fInt_bl, iMul_eq, mm, if_true, c, rg]
    rw [Int.toNat_natCast, rng0]
  · split
    · rename_i z
      exact .inr z
    · exact .inl (by simp)
theorem lines_okR {R : Sto} {b : Cell} (hb : Bx b) {n w : Nat} (hn : n ≤ 12) (hw : w ≤ n) : ∃ b' ls, m__law_lines [.ref 0, .int n, .int w] (b :: R) = .ok (.val (.tup (nl ls))) (b' :: R) ∧ Bx b' ∧ Lin n w ls := by
  obtain ⟨b1, ys, e1, hb1, l1, lt1⟩ := numbers_okR (R := R) hb (n - w) w (by omega) (by omega)
  have e1' : m__law_numbers [.ref 0, .int ((n : Int) - w), .int w] (b :: R) = .ok (.own (.lst (nl ys))) (b1 :: R) := by
    have e : (n : Int) - w = ((n - w : Nat) : Int) := by omega
    rw [e]
    exact e1
  have L0 := Lin.plain (n := n) (w := w) l1 hw lt1
  obtain ⟨b2, zs, e2, hb2, p2⟩ := shuffled_okR (R := R) hb1 (plain w ++ ys) (by rw [L0.len]; omega)
  have L1 := L0.perm p2
  obtain ⟨b3, m, e3, hb3, c3⟩ := lItR (R := R) hb2 (k := 7) (x := n) (i := 1) (env := lEnv n w zs .no .no .no) (by decide) (by decide) rfl rfl
  obtain ⟨b4, ls4, s4, s5, s6, e4, hb4, L4⟩ := lForR (R := R) (1 < n) (fun c _ hb _ hL s4 s5 s6 => lBody1_okR (R := R) hb hL c (by omega) s4 s5 s6) m c3 hb3 L1 .no .no .no
  obtain ⟨b5, m5, e5, hb5, c5⟩ := lItR (R := R) hb4 (k := 4) (x := w) (i := 2) (env := lEnv n w ls4 s4 s5 s6) (by decide) (by decide) rfl rfl
  obtain ⟨b6, ls6, t4, t5, t6, e6, hb6, L6⟩ := lForR (R := R) (1 < w) (fun c _ hb _ hL s4 s5 s6 => lBody2_okR (R := R) hb hL c (by omega) (by omega) s4 s5 s6) m5 c5 hb5 L4 s4 s5 s6
  refine ⟨b6, ls6, ?_, hb6, L6⟩
  have rg := rgB_nat (n := w) (by omega)
  have pl := plain_lc (b :: R) n w (by omega)
  have sz := szB_of (n := w) (by omega)
  have sz2 := szB_of (n := w + ys.length) (by omega)
  have e3' : itR1 (aCons (eOp iMul (eCall m__law_take [] (aCons (eV 0) (aCons (eC (.int 7)) aNil))) (eCB fInt (aCons (eOp iGt (eV 1) (eC (.int 1))) aNil))) aNil) (lEnv n w zs .no .no .no) (b2 :: R) = _ := e3
  have e5' : itR1 (aCons (eOp iMul (eCall m__law_take [] (aCons (eV 0) (aCons (eC (.int 4)) aNil))) (eCB fInt (aCons (eOp iGt (eV 2) (eC (.int 1))) aNil))) aNil) (lEnv n w ls4 s4 s5 s6) (b4 :: R) = _ := e5
  rw [m_lines_eq]
  have a1 : (sOwn 3 (fLc (itR1 (aCons (eV 2) aNil)) (gN 7) cYes (eOp iShl (eC (.int 1)) (eV 7)) [7])) [.v (.ref 0), .v (nd n), .v (nd w), .no, .no, .no, .no, .no, .no] (b :: R) = .nx (lEnv n w (plain w) .no .no .no) (b :: R) := by
    simp [rg, rng0, pl, sz, Gf.plain_len]
  have a2 : (sOwn 3 (fCall m__law_shuffled [] (aCons (eV 0) (aCons (eOp dAdd (eV 3) (eCall m__law_numbers [] (aCons (eV 0) (aCons (eOp iSub (eV 1) (eV 2)) (aCons (eV 2) aNil))))) aNil)))) (frzAt 3 (lEnv n w (plain w) .no .no .no)) (b :: R) = .nx (lEnv n w zs .no .no .no) (b2 :: R) := by
    simp [e1', Gf.plain_len, sz2, e2]
  simp only [mFn_eq, startE_eq, sSeq_eq, sFor_eq, sFrz_eq]
  have st : ([D.ref 0, D.int n, D.int w].map Sl.v ++ List.replicate (9 - [D.ref 0, D.int n, D.int w].length) Sl.no) = [.v (.ref 0), .v (nd n), .v (nd w), .no, .no, .no, .no, .no, .no] := rfl
  rw [st, a1]
  simp only []
  rw [a2]
  simp only []
  rw [e3']
  simp only [out_ok']
  rw [e4]
  simp only []
  rw [e5']
  simp only [out_ok']
  rw [e6]
  simp
theorem ofLR {R : Sto} {b : Cell} (hb : Bx b) (xs : List D) (h0 : xs ≠ []) (hl : xs.length ≤ 1000) : ∃ b' z, m__law_of [.ref 0, .lst xs] (b :: R) = .ok (.val z) (b' :: R) ∧ Bx b' ∧ z ∈ xs := by
  have hp := List.length_pos_iff.mpr h0
  obtain ⟨b1, r, t, hb1, hr⟩ := takeKR (R := R) hb (xs.length : Int) xs.length rfl hp (by omega)
  refine ⟨b1, xs[r], ?_, hb1, List.getElem_mem hr⟩
  have e := atI_nat xs r
  rw [List.getElem?_eq_getElem hr] at e
  simp [m__law_of, t, e]
end Fb
namespace Fb
open PySem L2 Mm Gf
def small : Str := "abcdefghijklmnopqrstuvwxyz"
def nameB (x : Str) : Bool := decide (1 ≤ x.cps.size) && decide (x.cps.size ≤ 6) && x.cps.toList.all fun c => decide (c ∈ small.cps.toList)
theorem fInSign_eq (S : Sto) (c : Nat) (z : Str) : fInSign false S (.str ⟨#[c]⟩) (.str z) = some (.bl (decide (c ∈ z.cps.toList))) := rfl
theorem is_name_ok (S : Sto) (x : Str) (hx : x.cps.size ≤ 100000) : m_is_name [.str x] S = .ok (.val (.bl (nameB x))) S := by
  have hl : x.length = x.cps.size := rfl
  have sz := szB_of (n := x.cps.size) hx
  have e : ∀ (s : Sl), fLc (itS (eV 0)) (gN 1) cYes (eOp (fInSign false) (eV 1) (eC (.str "abcdefghijklmnopqrstuvwxyz"))) [1] [.v (.str x), s] S = .ok (.lst ((x.cps.toList.map fun c => decide (c ∈ small.cps.toList)).map D.bl)) S := fun s => by
    rw [List.map_map]
    refine flc_of (fun c : Nat => .str ⟨#[c]⟩) (fun c => .bl (decide (c ∈ small.cps.toList))) x.cps.toList (by simp [signs]) (by simpa using hx) fun y hy => ?_
    simp [fInSign_eq, small]
  have f1 : fLen S [.str x] = some (.int x.cps.size) := by
    show (if szB x.length then some (D.int x.length) else none) = _
    rw [hl, sz]
    rfl
  have i1 : decide ((1 : Int) ≤ (x.cps.size : Int)) = decide (1 ≤ x.cps.size) := decide_eq_decide.mpr (by omega)
  have i2 : decide ((x.cps.size : Int) ≤ 6) = decide (x.cps.size ≤ 6) := decide_eq_decide.mpr (by omega)
  unfold m_is_name
  simp only [mFn_eq, startE_eq, sRet_eq, eAnd_eq, eChain_eq, eC_eq, bind_ok', eCB_eq, aCons_eq, aNil_eq, eV_eq]
  simp [f1, i1, i2, e, -fLc_eq]
  unfold nameB
  by_cases h1 : 1 ≤ x.cps.size <;> by_cases h2 : x.cps.size ≤ 6 <;> simp [h1, h2, e, fAll_eq, -fLc_eq, -List.map_map, List.all_map, Function.comp_def]
theorem dig_go (S : Sto) (c : Int) : ∀ (n k v most : Nat), c = ((2 ^ v : Nat) : Int) → k ≤ v → v ≤ most → most ≤ 60 → v - k < n →
    whL (cAnd (cB (eOp iLt (eV 2) (eV 1))) (cB (eOp iLt (eOp iShl (eC (.int 1)) (eV 2)) (eV 0)))) (sAug 2 (fun i j => i + j) (eC (.int 1))) n [.v (.int c), .v (.int most), .v (nd k)] S = .nx [.v (.int c), .v (.int most), .v (nd v)] S
  | 0, k, v, most, _, _, _, _, h => by omega
  | n + 1, k, v, most, hc, hk, hv, hm, hn => by
    have pw := powB_nat (i := 1) (by decide) k (by omega)
    have e1 : (1 : Int) * 2 ^ k = ((2 ^ k : Nat) : Int) := by simp
    unfold whL
    by_cases h : k = v
    · subst h
      subst hc
      by_cases hh : (k : Int) < most <;> simp [hh, pw, e1]
    · have lt : 2 ^ k < 2 ^ v := Nat.pow_lt_pow_right (by decide) (by omega)
      have ih := dig_go S c n (k + 1) v most hc (by omega) hv hm (by omega)
      have h1 : (k : Int) < most := by omega
      have h2 : ((2 ^ k : Nat) : Int) < c := by rw [hc]; exact Int.ofNat_lt.mpr lt
      have h3 : (2 : Int) ^ k < c := by simpa using h2
      simp [h1, pw, h3]
      exact ih
theorem digits_ok (S : Sto) {v most : Nat} (hv : v ≤ most) (hm : most ≤ 60) (C : Int) (hC : C = ((2 ^ v : Nat) : Int)) (M : Int) (hM : M = (most : Int)) : m_digits_of [.int C, .int M] S = .ok (.val (nd v)) S := by
  subst hM
  have g := dig_go S C 100 0 v most hC (by omega) hv hm (by omega)
  have pw := powB_nat (i := 1) (by decide) v (by omega)
  have e1 : (1 : Int) * 2 ^ v = ((2 ^ v : Nat) : Int) := by simp
  have g' : whL (cAnd (cB (eOp iLt (eV 2) (eV 1))) (cB (eOp iLt (eOp iShl (eC (.int 1)) (eV 2)) (eV 0)))) (sAug 2 (fun i j => i + j) (eC (.int 1))) 100 [.v (.int C), .v (.int most), .v (.int 0)] S = .nx [.v (.int C), .v (.int most), .v (nd v)] S := g
  simp [m_digits_of]
  rw [g']
  simp [pw, hC]
def tfs (A : List Nat) (v : Nat) (gr : List Int) (mv : D) : List (Str × D) := [("spread", fold A v), ("grip", .tup (gr.map D.int)), ("move", mv)]
def tbl (A : List Nat) (v : Nat) (gr : List Int) (mv : D) : D := .ins "Table" (tfs A v gr mv)
@[simp] theorem tbl_ins (S : Sto) (A : List Nat) (v : Nat) (gr : List Int) (mv : D) : insOf "Table" S (tbl A v gr mv) = some (tfs A v gr mv) := by
  unfold tbl
  simp
@[simp] theorem tfs_spread (A : List Nat) (v : Nat) (gr : List Int) (mv : D) : (tfs A v gr mv).lookup ("spread" : Str) = some (fold A v) := rfl
@[simp] theorem tfs_grip (A : List Nat) (v : Nat) (gr : List Int) (mv : D) : (tfs A v gr mv).lookup ("grip" : Str) = some (.tup (gr.map D.int)) := rfl
@[simp] theorem tfs_move (A : List Nat) (v : Nat) (gr : List Int) (mv : D) : (tfs A v gr mv).lookup ("move" : Str) = some mv := rfl
@[simp] theorem tfs_plain (A : List Nat) (v : Nat) (gr : List Int) (mv : D) : (tfs A v gr mv).lookup ("plain" : Str) = none := rfl
@[simp] theorem tfs_now (A : List Nat) (v : Nat) (gr : List Int) (mv : D) : (tfs A v gr mv).lookup ("berth_now" : Str) = none := rfl
def grp (A : List Nat) (cs : List Int) : List Int := (List.range (2 ^ A.length)).map fun x => cs.getD (app A x) 0
def tab (A : List Nat) (v : Nat) (cs : List Int) : D := tbl A v (grp A cs) .non
theorem grp_len (A : List Nat) (cs : List Int) : (grp A cs).length = 2 ^ A.length := by simp [grp]
theorem under_tupI (n : Nat) (xs : List Int) : (D.tup (xs.map D.int)).under n := by
  unfold D.under
  exact under_ints n xs
theorem under_non (n : Nat) : D.non.under n := by unfold D.under; trivial
theorem newT_ok (S : Sto) (A : List Nat) (v : Nat) (gr : List Int) (mv : D) (u : mv.under S.length) : popI "Table" S (m_TableU_initU [.ref S.length, fold A v, .tup (gr.map D.int), mv] (S ++ [.ins "Table" []])) = .ok (tbl A v gr mv) S := by
  have run : m_TableU_initU [.ref S.length, fold A v, .tup (gr.map D.int), mv] (S ++ [.ins "Table" []]) = .ok (.val .non) (S ++ [.ins "Table" (tfs A v gr mv)]) := by
    simp [m_TableU_initU, set_last, putFD, tfs, show ¬ ("spread" : Str) = "grip" by decide, show ¬ ("spread" : Str) = "move" by decide, show ¬ ("grip" : Str) = "move" by decide]
  rw [run]
  exact popI_ok ⟨under_fold _ _ _, under_tupI _ _, u, trivial⟩
theorem atI_il {xs : List Int} {i : Nat} (h : i < xs.length) : atI (xs.map D.int) (i : Int) = some (.int (xs.getD i 0)) := by
  rw [Mm.atI_nat]
  simp [h]
theorem laid_ok (S : Sto) {A : List Nat} {v : Nat} (h : FOk A v) {cs : List Int} (hc : cs.length = 2 ^ v) (c : D) (e : c = .lst (cs.map D.int) ∨ c = .tup (cs.map D.int)) : m_laid [fold A v, c] S = .ok (.val (tab A v cs)) S := by
  have hl := h.len
  have p12 : 2 ^ A.length ≤ 2 ^ 12 := Nat.pow_le_pow_right (by decide) hl
  have p12' : 2 ^ A.length ≤ 100000 := Nat.le_trans p12 (by decide)
  have M := many_ok S A v
  have pw := powB_nat (i := 1) (by decide) A.length (by omega)
  have e1 : (1 : Int) * 2 ^ A.length = ((2 ^ A.length : Nat) : Int) := by simp
  have lc : fLc (itR1 (aCons (eOp iShl (eC (.int 1)) (eMeth "Fold" "many" m_Fold_many [] (eV 0) aNil)) aNil)) (gN 2) cYes (eOp fIx (eV 1) (eMeth "Fold" "to" m_Fold_to [] (eV 0) (aCons (eV 2) aNil))) [2] [.v (fold A v), .v c, .no] S = .ok (.lst ((grp A cs).map D.int)) S := by
    have q := flc_of (mi := itR1 (aCons (eOp iShl (eC (.int 1)) (eMeth "Fold" "many" m_Fold_many [] (eV 0) aNil)) aNil)) (te := eOp fIx (eV 1) (eMeth "Fold" "to" m_Fold_to [] (eV 0) (aCons (eV 2) aNil))) (k := 2) (vs := [2]) (env := [.v (fold A v), .v c, .no]) (S := S)
      (fun x : Nat => nd x) (fun x : Nat => .int (cs.getD (app A x) 0)) (List.range (2 ^ A.length)) (itR1_nat (by simp [M, pw]) p12') (by simpa using p12') fun y hy => by
        have hy' := List.mem_range.mp hy
        have T := to_ok S h hy'
        have lt : app A y < cs.length := by rw [hc]; exact app_lt y h.lt
        have at_ := atI_il (xs := cs) lt
        rcases e with rfl | rfl <;> simp [T, at_]
    rw [q, grp, List.map_map]
    rfl
  have nt := newT_ok S A v (grp A cs) .non (under_non _)
  unfold m_laid
  simp [lc, -fLc_eq]
  rw [nt]
  rfl
end Fb
namespace Fb
open PySem L2 Mm Gf
def bfs (n b l k : Nat) (p q : Int) : List (Str × D) := [("wide", .tup [nd b, nd l, nd k]), ("tables", .ref (n + 1)), ("store", .ref (n + 2)), ("dues", .tup [.int p, .int q])]
def bodyC (n b l k : Nat) (p q : Int) : Cell := .ins "Body" (bfs n b l k p q)
@[simp] theorem bfs_wide (n b l k : Nat) (p q : Int) : (bfs n b l k p q).lookup ("wide" : Str) = some (.tup [nd b, nd l, nd k]) := rfl
@[simp] theorem bfs_tables (n b l k : Nat) (p q : Int) : (bfs n b l k p q).lookup ("tables" : Str) = some (.ref (n + 1)) := rfl
@[simp] theorem bfs_store (n b l k : Nat) (p q : Int) : (bfs n b l k p q).lookup ("store" : Str) = some (.ref (n + 2)) := rfl
@[simp] theorem bfs_dues (n b l k : Nat) (p q : Int) : (bfs n b l k p q).lookup ("dues" : Str) = some (.tup [.int p, .int q]) := rfl
theorem bfs_no {x : Str} (h1 : x ≠ "wide") (h2 : x ≠ "tables") (h3 : x ≠ "store") (h4 : x ≠ "dues") (n b l k : Nat) (p q : Int) : (bfs n b l k p q).lookup x = none := by
  unfold bfs
  simp [List.lookup, beq_false_of_ne h1, beq_false_of_ne h2, beq_false_of_ne h3, beq_false_of_ne h4]
@[simp] theorem bfs_need (n b l k : Nat) (p q : Int) : (bfs n b l k p q).lookup ("need" : Str) = none := bfs_no (by decide) (by decide) (by decide) (by decide) _ _ _ _ _ _
@[simp] theorem bfs_need_new (n b l k : Nat) (p q : Int) : (bfs n b l k p q).lookup ("need_new" : Str) = none := bfs_no (by decide) (by decide) (by decide) (by decide) _ _ _ _ _ _
@[simp] theorem bfs_need_spread (n b l k : Nat) (p q : Int) : (bfs n b l k p q).lookup ("need_spread" : Str) = none := bfs_no (by decide) (by decide) (by decide) (by decide) _ _ _ _ _ _
@[simp] theorem bfs_lay (n b l k : Nat) (p q : Int) : (bfs n b l k p q).lookup ("lay" : Str) = none := bfs_no (by decide) (by decide) (by decide) (by decide) _ _ _ _ _ _
@[simp] theorem bfs_names (n b l k : Nat) (p q : Int) : (bfs n b l k p q).lookup ("names" : Str) = none := bfs_no (by decide) (by decide) (by decide) (by decide) _ _ _ _ _ _
@[simp] theorem bfs_digits (n b l k : Nat) (p q : Int) : (bfs n b l k p q).lookup ("digits" : Str) = none := bfs_no (by decide) (by decide) (by decide) (by decide) _ _ _ _ _ _
@[simp] theorem bfs_rows (n b l k : Nat) (p q : Int) : (bfs n b l k p q).lookup ("rows" : Str) = none := bfs_no (by decide) (by decide) (by decide) (by decide) _ _ _ _ _ _
@[simp] theorem bfs_cells (n b l k : Nat) (p q : Int) : (bfs n b l k p q).lookup ("cells" : Str) = none := bfs_no (by decide) (by decide) (by decide) (by decide) _ _ _ _ _ _
@[simp] theorem bfs_held (n b l k : Nat) (p q : Int) : (bfs n b l k p q).lookup ("held" : Str) = none := bfs_no (by decide) (by decide) (by decide) (by decide) _ _ _ _ _ _
@[simp] theorem bfs_berths (n b l k : Nat) (p q : Int) : (bfs n b l k p q).lookup ("berths" : Str) = none := bfs_no (by decide) (by decide) (by decide) (by decide) _ _ _ _ _ _
@[simp] theorem bfs_moving (n b l k : Nat) (p q : Int) : (bfs n b l k p q).lookup ("moving" : Str) = none := bfs_no (by decide) (by decide) (by decide) (by decide) _ _ _ _ _ _
@[simp] theorem bfs_stored (n b l k : Nat) (p q : Int) : (bfs n b l k p q).lookup ("stored" : Str) = none := bfs_no (by decide) (by decide) (by decide) (by decide) _ _ _ _ _ _
@[simp] theorem bfs_paid (n b l k : Nat) (p q : Int) : (bfs n b l k p q).lookup ("paid" : Str) = none := bfs_no (by decide) (by decide) (by decide) (by decide) _ _ _ _ _ _
structure Bd (S : Sto) (n b l k : Nat) (ts ss : List (Key × D)) (p q : Int) : Prop where
  at0 : S[n]? = some (bodyC n b l k p q)
  at1 : S[n + 1]? = some (.dic ts)
  at2 : S[n + 2]? = some (.dic ss)
section
variable {S : Sto} {n b l k : Nat} {ts ss : List (Key × D)} {p q : Int}
theorem Bd.ins (h : Bd S n b l k ts ss p q) : S[n]? = some (.ins "Body" (bfs n b l k p q)) := h.at0
theorem Bd.lt (h : Bd S n b l k ts ss p q) : n + 2 < S.length := (List.getElem?_eq_some_iff.mp h.at2).1
theorem Bd.head {b0 b1 : Cell} (h : Bd (b0 :: S) (n + 1) b l k ts ss p q) : Bd (b1 :: S) (n + 1) b l k ts ss p q := ⟨h.at0, h.at1, h.at2⟩
theorem need_new_ok (h : Bd S n b l k ts ss p q) {x : Str} (hx : nameB x = true) (hn : lookK ts (.inr x) = none) (hl : ts.length < 6) : m_Body_need_new [.ref n, .str x] S = .ok (.val .non) S := by
  have i := h.ins
  have t := h.at1
  have sz : x.cps.size ≤ 100000 := by
    unfold nameB at hx
    simp only [Bool.and_eq_true, decide_eq_true_eq] at hx
    omega
  have nm := is_name_ok S x sz
  rw [hx] at nm
  have l6 : ¬ (6 : Int) ≤ (ts.length : Int) := by omega
  simp [m_Body_need_new, nm, i, t, hn, l6]
theorem bneed_ok (h : Bd S n b l k ts ss p q) {x : Str} {d : D} (hn : lookK ts (.inr x) = some d) : m_Body_need [.ref n, .str x] S = .ok (.val d) S := by
  have i := h.ins
  have t := h.at1
  simp [m_Body_need, i, t, hn]
theorem need_spread_ok (h : Bd S n b l k ts ss p q) {A : List Nat} {v : Nat} (hA : Lin (b + l) v A) (hd : b + l ≤ 12) (hv : v ≤ 12) (V : Int) (eV : V = (v : Int)) (a : D) (ha : a = .tup (nl A) ∨ a = .lst (nl A)) : m_Body_need_spread [.ref n, a, .int V] S = .ok (.val (fold A v)) S := by
  subst eV
  have i := h.ins
  have F : FOk A v := ⟨by rw [hA.len]; exact hd, hv, hA.lt⟩
  have hl := hA.len
  have nw := new_ok S F a ha
  have on := onto_ok S F
  have on2 : (bas A).length = v := (bas_rr A).full (fun b hb => (bas_sp A b |>.mp (.mem hb)).lt hA.lt) fun x hx => (bas_sp A x).mpr (hA.all x hx)
  have le : (A.length : Int) = (b : Int) + l := by omega
  have lc : fLc (itL (eV 1)) (gN 4) cYes (eOr (eOp iLt (eV 4) (eC (.int 0))) (eOp iGt (eOp iShr (eV 4) (eV 2)) (eC (.int 0)))) [4] [.v (.ref n), .v a, .v (.int v), .no, .no] S = .ok (.lst ((A.map fun _ => false).map D.bl)) S := by
    rw [List.map_map]
    refine flc_of nd (fun _ => .bl false) A (by rcases ha with rfl | rfl <;> simp [nl]) (by have := F.len; omega) fun y hy => ?_
    have n0 : ¬ ((y : Int) < 0) := by omega
    have e : ((y : Int) >>> v) = 0 := by
      have e : ((y : Int) >>> v) = ((y >>> v : Nat) : Int) := rfl
      rw [e, Nat.shiftRight_eq_div_pow, Nat.div_eq_of_lt (hA.lt y hy)]
      rfl
    simp [n0, e]
  have an : (A.map fun _ => false).any id = false := by simp
  have fa := fAny_eq S (A.map fun _ => false)
  rw [an] at fa
  unfold m_Body_need_spread
  rcases ha with rfl | rfl <;> (simp [i, le, lc, fa, -fLc_eq, -List.map_map]; rw [nw]; simp [on, on2])
end
end Fb
namespace Fb
open PySem L2 Mm Gf
theorem grp_at (A : List Nat) (cs : List Int) {y : Nat} (hy : y < 2 ^ A.length) : (grp A cs).getD y 0 = cs.getD (app A y) 0 := by
  simp [grp, List.getD_eq_getElem?_getD, hy]
theorem newBd_ok (S : Sto) {b l k : Nat} (hb : b ≤ 4) (hl : l ≤ 3) (hk : 1 ≤ k) (hk3 : k ≤ 3) (B L K : Int) (eB : B = (b : Int)) (eL : L = (l : Int)) (eK : K = (k : Int)) : m_BodyU_initU [.ref S.length, .int B, .int L, .int K] (S ++ [.ins "Body" []]) = .ok (.val .non) (S ++ [bodyC S.length b l k 0 0, .dic [], .dic []]) := by
  subst eB eL eK
  have h1 : ¬ (b : Int) < 0 := by omega
  have h2 : ¬ (4 : Int) < (b : Int) := by omega
  have h3 : ¬ (l : Int) < 0 := by omega
  have h4 : ¬ (3 : Int) < (l : Int) := by omega
  have h5 : ¬ (k : Int) < 1 := by omega
  have h6 : ¬ (3 : Int) < (k : Int) := by omega
  have p1 : ∀ a : D, putFD "wide" a ([] : List (Str × D)) = ([("wide", a)] : List (Str × D)) := fun _ => rfl
  have p2 : ∀ a c : D, putFD "tables" c ([("wide", a)] : List (Str × D)) = ([("wide", a), ("tables", c)] : List (Str × D)) := fun _ _ => rfl
  have p3 : ∀ a c d : D, putFD "store" d ([("wide", a), ("tables", c)] : List (Str × D)) = ([("wide", a), ("tables", c), ("store", d)] : List (Str × D)) := fun _ _ _ => rfl
  have p4 : ∀ a c d e : D, putFD "dues" e ([("wide", a), ("tables", c), ("store", d)] : List (Str × D)) = ([("wide", a), ("tables", c), ("store", d), ("dues", e)] : List (Str × D)) := fun _ _ _ _ => rfl
  have g : ∀ (a : Cell) (R : List Cell), (S ++ a :: R)[S.length]? = some a := fun a R => by simp
  have st : ∀ (a c : Cell) (R : List Cell), (S ++ a :: R).set S.length c = S ++ c :: R := fun a c R => by simp
  have s3 := szB_of (n := 3) (by omega)
  have s2 := szB_of (n := 2) (by omega)
  simp [m_BodyU_initU, s2, s3, h1, h2, h3, h4, h5, h6, st, p1, p2, p3, p4, bodyC, bfs]
section
variable {S : Sto} {n b l k : Nat} {ts ss : List (Key × D)} {p q : Int}
theorem lay_ok (h : Bd S n b l k ts ss p q) {x : Str} (hx : nameB x = true) (hn : lookK ts (.inr x) = none) (hl : ts.length < 6) {A : List Nat} {v : Nat} (hA : Lin (b + l) v A) (hd : b + l ≤ 12) (hv : v ≤ b + l) {cs : List Int} (hc : cs.length = 2 ^ v) (hz : ∀ z ∈ cs, z.natAbs ≤ 1000000000)
    (a : D) (ha : a = .tup (nl A) ∨ a = .lst (nl A)) (c : D) (ec : c = .lst (cs.map D.int) ∨ c = .tup (cs.map D.int)) : m_Body_lay [.ref n, .str x, a, c] S = .ok (.val .non) (S.set (n + 1) (.dic (putD ts (.inr x) (tab A v cs)))) := by
  have i := h.ins
  have t := h.at1
  have N := need_new_ok h hx hn hl
  have F : FOk A v := ⟨by rw [hA.len]; exact hd, by omega, hA.lt⟩
  have G := digits_ok S (v := v) (most := b + l) hv (by omega) (cs.length : Int) (by rw [hc]) ((b : Int) + l) (by omega)
  have P := need_spread_ok h hA hd (by omega) (v : Int) rfl a ha
  have L := laid_ok S F hc (.lst (cs.map D.int)) (.inl rfl)
  have p12 : 2 ^ v ≤ 2 ^ 12 := Nat.pow_le_pow_right (by decide) (by omega)
  have lc : fLc (itL (eV 3)) (gN 5) cYes (eOr (eOp iLt (eV 5) (eUn fNeg (eC (.int 1000000000)))) (eOp iGt (eV 5) (eC (.int 1000000000)))) [5] [.v (.ref n), .v (.str x), .v a, .v c, .v (nd v), .no] S = .ok (.lst ((cs.map fun _ => false).map D.bl)) S := by
    rw [List.map_map]
    refine flc_of D.int (fun _ => .bl false) cs (by rcases ec with rfl | rfl <;> simp) (by rw [hc]; exact Nat.le_trans p12 (by decide)) fun y hy => ?_
    have := hz y hy
    have n0 : ¬ (y < -1000000000) := by omega
    have n1 : ¬ (1000000000 < y) := by omega
    simp [n0, n1]
  have an : (cs.map fun _ => false).any id = false := by simp
  have fa := fAny_eq S (cs.map fun _ => false)
  rw [an] at fa
  have sz := szB_of (n := ts.length + 1) (by omega)
  have len : fLen S [c] = some (.int cs.length) := by rcases ec with rfl | rfl <;> simp
  have lo : fListOf S [c] = some (.lst (cs.map D.int)) := by rcases ec with rfl | rfl <;> simp
  unfold m_Body_lay
  simp [i, N, len, G, lc, fa, P, lo, L, t, sz, -fLc_eq, -List.map_map]
theorem plain_ok (S : Sto) {A : List Nat} {d v : Nat} (hA : Lin d v A) (hd : d ≤ 12) (hv : v ≤ 12) {cs : List Int} (hc : cs.length = 2 ^ v) (mv : D) : m_Table_plain [tbl A v (grp A cs) mv] S = .ok (.own (.lst (cs.map D.int))) S := by
  have F : FOk A v := ⟨by rw [hA.len]; exact hd, hv, hA.lt⟩
  have FB : FOk (backL A v) A.length := ⟨by simp [backL]; exact hv, by rw [hA.len]; exact hd, backL_lt hA.all⟩
  have B := back_ok S F hA.all
  have Z := size_ok S A v
  have pw := powB_nat (i := 1) (by decide) v (by omega)
  have p12 : 2 ^ v ≤ 100000 := Nat.le_trans (Nat.pow_le_pow_right (by decide) hv) (by decide : 2 ^ 12 ≤ 100000)
  have bl : (backL A v).length = v := by simp [backL]
  have lc : fLc (itR1 (aCons (eOp iShl (eC (.int 1)) (eMeth "Fold" "size" m_Fold_size [] (eFld "Table" "spread" (eV 0)) aNil)) aNil)) (gN 2) cYes (eOp fIx (eFld "Table" "grip" (eV 0)) (eMeth "Fold" "to" m_Fold_to [] (eV 1) (aCons (eV 2) aNil))) [2] [.v (tbl A v (grp A cs) mv), .v (fold (backL A v) A.length), .no] S = .ok (.lst (cs.map D.int)) S := by
    have q := flc_of (mi := itR1 (aCons (eOp iShl (eC (.int 1)) (eMeth "Fold" "size" m_Fold_size [] (eFld "Table" "spread" (eV 0)) aNil)) aNil)) (te := eOp fIx (eFld "Table" "grip" (eV 0)) (eMeth "Fold" "to" m_Fold_to [] (eV 1) (aCons (eV 2) aNil))) (k := 2) (vs := [2]) (env := [.v (tbl A v (grp A cs) mv), .v (fold (backL A v) A.length), .no]) (S := S)
      (fun x : Nat => nd x) (fun x : Nat => .int (cs.getD x 0)) (List.range (2 ^ v)) (itR1_nat (by simp [Z, pw]) p12) (by simpa using p12) fun y hy => by
        have hy' := List.mem_range.mp hy
        have T := to_ok S FB (x := y) (by rw [bl]; exact hy')
        have lt : app (backL A v) y < (grp A cs).length := by rw [grp_len]; exact app_lt y FB.lt
        have at_ := atI_il (xs := grp A cs) lt
        have g : (grp A cs).getD (app (backL A v) y) 0 = cs.getD y 0 := by
          rw [grp_len] at lt
          rw [grp_at A cs lt, backL_app hA.all hy']
        rw [g] at at_
        simp [T, at_]
    rw [q]
    congr 2
    rw [← hc]
    apply List.ext_getElem (by simp)
    intro j h1 h2
    simp at h1 h2
    simp [h2]
  unfold m_Table_plain
  simp [B, lc, -fLc_eq]
theorem cellsB_ok (h : Bd S n b l k ts ss p q) {x : Str} {A : List Nat} {v : Nat} {cs : List Int} (hn : lookK ts (.inr x) = some (tab A v cs)) {d : Nat} (hA : Lin d v A) (hd : d ≤ 12) (hv : v ≤ 12) (hc : cs.length = 2 ^ v) : m_Body_cells [.ref n, .str x] S = .ok (.own (.lst (cs.map D.int))) S := by
  have i := h.ins
  have N := bneed_ok h hn
  have P := plain_ok S hA hd hv hc .non
  unfold tab at N
  simp [m_Body_cells, i, N, P]
theorem rowsB_ok (h : Bd S n b l k ts ss p q) {x : Str} {A : List Nat} {v : Nat} {gr : List Int} {mv : D} (hn : lookK ts (.inr x) = some (tbl A v gr mv)) : m_Body_rows [.ref n, .str x] S = .ok (.val (.tup (nl A))) S := by
  have i := h.ins
  have N := bneed_ok h hn
  have P := rows_ok S A v
  simp [m_Body_rows, i, N, P]
theorem digitsB_ok (h : Bd S n b l k ts ss p q) {x : Str} {A : List Nat} {v : Nat} {gr : List Int} {mv : D} (hn : lookK ts (.inr x) = some (tbl A v gr mv)) : m_Body_digits [.ref n, .str x] S = .ok (.val (nd v)) S := by
  have i := h.ins
  have N := bneed_ok h hn
  have P := size_ok S A v
  simp [m_Body_digits, i, N, P]
theorem heldB_ok (h : Bd S n b l k ts ss p q) {x : Str} {A : List Nat} {v : Nat} {cs : List Int} (hn : lookK ts (.inr x) = some (tab A v cs)) {y : Nat} (hy : y < 2 ^ A.length) : m_Body_held [.ref n, .str x, .int y] S = .ok (.val (.int (cs.getD (app A y) 0))) S := by
  have i := h.ins
  have N := bneed_ok h hn
  unfold tab at N
  have at_ := atI_il (xs := grp A cs) (i := y) (by rw [grp_len]; exact hy)
  rw [grp_at A cs hy] at at_
  have n0 : ¬ (y : Int) < 0 := by omega
  have n1 : ¬ ((grp A cs).length : Int) ≤ (y : Int) := by rw [grp_len]; omega
  have bn : m_Table_berth_now [tbl A v (grp A cs) .non, .int y] S = .ok (.val (.int (cs.getD (app A y) 0))) S := by
    simp [m_Table_berth_now, at_]
  simp [m_Body_held, i, N, n0, n1, bn]
end
end Fb
namespace Mm
open PySem L2
@[simp] theorem sExt_eq (i : Nat) (me : ME) (env : Envr) (S : Sto) : sExt i me env S = (match env[i]? with
  | some (.o (.lst xs)) => (me env S).out env fun d S1 => (match d with
    | .lst ys => if szB (xs.length + ys.length) then .nx (env.set i (.o (.lst (xs ++ ys)))) S1 else .stuck
    | _ => .stuck)
  | _ => .stuck) := rfl
end Mm
namespace Fb
open PySem L2 Mm Gf
theorem wide_ok {R : Sto} {b : Cell} (hb : Bx b) : ∃ b' x y z, m__law_wide [.ref 0] (b :: R) = .ok (.val (.tup [nd x, nd y, nd z])) (b' :: R) ∧ Bx b' ∧ x ≤ 4 ∧ y ≤ 3 ∧ 1 ≤ z ∧ z ≤ 3 := by
  have s3 := szB_of (n := 3) (by omega)
  have s5 := szB_of (n := 5) (by omega)
  have s10 := szB_of (n := 10) (by omega)
  obtain ⟨b1, z, t, hb1, hz⟩ := ofLR (R := R) hb [.tup [.int 2, .int 1, .int 2], .tup [.int 1, .int 2, .int 2], .tup [.int 2, .int 2, .int 1], .tup [.int 0, .int 2, .int 2], .tup [.int 3, .int 1, .int 3], .tup [.int 1, .int 0, .int 1], .tup [.int 0, .int 0, .int 1], .tup [.int 2, .int 3, .int 2], .tup [.int 3, .int 2, .int 2], .tup [.int 4, .int 3, .int 2]] (by simp) (by simp)
  have key : m__law_wide [.ref 0] (b :: R) = .ok (.val z) (b1 :: R) := by
    simp [m__law_wide, s3, s5, s10, t]
  rw [key]
  simp only [List.mem_cons, List.not_mem_nil, or_false] at hz
  rcases hz with rfl | rfl | rfl | rfl | rfl | rfl | rfl | rfl | rfl | rfl
  · exact ⟨b1, 2, 1, 2, rfl, hb1, by decide, by decide, by decide, by decide⟩
  · exact ⟨b1, 1, 2, 2, rfl, hb1, by decide, by decide, by decide, by decide⟩
  · exact ⟨b1, 2, 2, 1, rfl, hb1, by decide, by decide, by decide, by decide⟩
  · exact ⟨b1, 0, 2, 2, rfl, hb1, by decide, by decide, by decide, by decide⟩
  · exact ⟨b1, 3, 1, 3, rfl, hb1, by decide, by decide, by decide, by decide⟩
  · exact ⟨b1, 1, 0, 1, rfl, hb1, by decide, by decide, by decide, by decide⟩
  · exact ⟨b1, 0, 0, 1, rfl, hb1, by decide, by decide, by decide, by decide⟩
  · exact ⟨b1, 2, 3, 2, rfl, hb1, by decide, by decide, by decide, by decide⟩
  · exact ⟨b1, 3, 2, 2, rfl, hb1, by decide, by decide, by decide, by decide⟩
  · exact ⟨b1, 4, 3, 2, rfl, hb1, by decide, by decide, by decide, by decide⟩
theorem cells_lc {R : Sto} {tp : Nat} (h0 : 0 < tp) (h1 : tp ≤ 5000) {env : Envr} (e0 : env[0]? = some (.v (.ref 0))) (e2 : env[2]? = some (.v (nd tp))) (hk : 3 < env.length) : ∀ (ds : List D) {b : Cell}, Bx b → ∃ (b' : Cell) (cs : List Int), lcR (gN 3) cYes (eOp iSub (eCall m__law_take [] (aCons (eV 0) (aCons (eV 2) aNil))) (eOp iDiv (eV 2) (eC (.int 2)))) env ds (b :: R) = .ok (cs.map D.int) (b' :: R) ∧ Bx b' ∧ cs.length = ds.length ∧ ∀ z ∈ cs, z.natAbs ≤ 5000
  | [], b, hb => ⟨b, [], rfl, hb, rfl, by simp⟩
  | d :: ds, b, hb => by
    obtain ⟨b1, r, t, hb1, hr⟩ := takeKR (R := R) hb (tp : Int) tp rfl h0 (by omega)
    obtain ⟨b2, cs, e, hb2, hl, hz⟩ := cells_lc (R := R) h0 h1 e0 e2 hk ds hb1
    have f0 : (env.set 3 (.v d))[0]? = some (.v (.ref 0)) := by rw [List.getElem?_set_ne (by omega)]; exact e0
    have f2 : (env.set 3 (.v d))[2]? = some (.v (nd tp)) := by rw [List.getElem?_set_ne (by omega)]; exact e2
    have dv := divB_of (i := (tp : Int)) (k := 2) (by omega) (by omega)
    have dv' : divB (tp : Int) 2 = true := dv
    have q : (tp : Int).fdiv 2 = ((tp / 2 : Nat) : Int) := by
      rw [Int.fdiv_eq_ediv_of_nonneg _ (by omega)]
      rfl
    refine ⟨b2, ((r : Int) - ((tp / 2 : Nat) : Int)) :: cs, ?_, hb2, by simp [hl], fun z hz' => ?_⟩
    · unfold lcR
      simp only [gN_eq, cYes_eq, eOp_eq, eCall_eq, aCons_eq, aNil_eq, eV_eq, f0, f2, bind_ok', List.append_nil, t, r_val, eC_eq, iDiv_eq, iSub_eq]
      simp [t, f0, f2, dv', q, e]
    · rcases List.mem_cons.mp hz' with rfl | hz'
      · omega
      · exact hz z hz'
theorem cells_ok {R : Sto} {b : Cell} (hb : Bx b) {v : Nat} (hv : v ≤ 12) (V : Int) (eV : V = (v : Int)) : ∃ (b' : Cell) (cs : List Int), m__law_cells [.ref 0, .int V] (b :: R) = .ok (.val (.tup (cs.map D.int))) (b' :: R) ∧ Bx b' ∧ cs.length = 2 ^ v ∧ ∀ z ∈ cs, z.natAbs ≤ 5000 := by
  subst eV
  have s3 := szB_of (n := 3) (by omega)
  obtain ⟨b1, z, t, hb1, hz⟩ := ofLR (R := R) hb [.int 2, .int 10, .int 2001] (by simp) (by simp)
  obtain ⟨tp, rfl, h0, h1⟩ : ∃ tp : Nat, z = nd tp ∧ 0 < tp ∧ tp ≤ 5000 := by
    simp only [List.mem_cons, List.not_mem_nil, or_false] at hz
    rcases hz with rfl | rfl | rfl
    · exact ⟨2, rfl, by omega, by omega⟩
    · exact ⟨10, rfl, by omega, by omega⟩
    · exact ⟨2001, rfl, by omega, by omega⟩
  have p12 : 2 ^ v ≤ 100000 := Nat.le_trans (Nat.pow_le_pow_right (by decide) hv) (by decide : 2 ^ 12 ≤ 100000)
  obtain ⟨b2, cs, e, hb2, hl, hz⟩ := cells_lc (R := R) h0 h1 (env := [.v (.ref 0), .v (.int v), .v (nd tp), .no]) rfl rfl (by simp) (nl (List.range (2 ^ v))) hb1
  refine ⟨b2, cs, ?_, hb2, by simpa using hl, hz⟩
  have pw := powB_nat (i := 1) (by decide) v (by omega)
  have sz := szB_of (n := cs.length) (by rw [hl]; simpa using p12)
  have it : itR1 (aCons (eOp iShl (eC (.int 1)) (eV 1)) aNil) [.v (.ref 0), .v (.int v), .v (nd tp), .no] (b1 :: R) = .ok (nl (List.range (2 ^ v))) (b1 :: R) := itR1_nat (by simp [pw]) p12
  unfold m__law_cells
  simp [s3, t, -itR1_eq]
  rw [it]
  simp [e, sz]
end Fb
namespace Mm
open PySem L2
theorem EX_step {a b : MS} {env : Envr} {S : Sto} {Q : Ret → Sto → Prop} (e1 : Envr) (S1 : Sto) (h : a env S = .nx e1 S1) (k : EX (b e1 S1) Q) : EX (sSeq a b env S) Q := EX_seq (by rw [h]; exact k)
end Mm
namespace Fb
open PySem L2 Mm Gf
def mixI (w : Str) (a b : Int) : Int := if w = "plus" then a + b else if w = "less" then a - b else if w = "least" then (if b < a then b else a) else (if a < b then b else a)
end Fb
namespace Fb
open PySem L2 Mm Gf
def sumTo (R : List Nat) (n y : Nat) (cs : List Int) : Int := (((List.range n).filter fun c => decide (app R c = y)).map fun c => cs.getD c 0).sum
def totC (R : List Nat) (v k : Nat) (cs : List Int) : List Int := (List.range (2 ^ k)).map fun y => sumTo R (2 ^ v) y cs
end Fb
namespace Fb
open PySem L2 Mm Gf
def sm (n : Nat) (p : Nat → Bool) (f : Nat → Int) : Int := (((List.range n).filter p).map f).sum
end Fb
namespace Mm
open PySem PySem.Spec PyProof.Rows L2
def keyV : Key → D
  | .inl i => .int i
  | .inr x => .str x
theorem rep_keyV {g : Gam} {w : Wd} (k : Key) : Rep g w (keyV k) (kV k) := by
  cases k with
  | inl i => exact rep_int'
  | inr x => exact rep_str'
section
variable {g : Gam} {w0 w w1 w5 : Wd} {H0 H H1 H5 H6 : Hp} {σ σ5 : L2.St} {env env5 : Envr} {S S5 S6 : Sto} {O O5 : List (Option Addr)}
theorem unlock_cell {n : Nat} {d : Addr} {od : Obj} {gs : List (Key × V)} {ks5 : List (Key × D)} (k : Ok g w H S) (hd : w.rho[n]? = some d) (hH : H d = some (.dK gs)) (f5 : Frame w (upd H d (.frz od (.dK gs))) w5 H5) (k5 : Ok g w5 H5 S5) (h5 : S5[n]? = some (.lck ks5)) :
    H5 d = some (.frz od (.dK gs)) ∧ Ok g w5 (upd H5 d (.dK gs)) (S5.set n (.dic ks5)) ∧ Frame w H w5 (upd H5 d (.dK gs)) := by
  have e5 : H5 d = some (.frz od (.dK gs)) := f5.fz d od _ upd_same
  have hd5 : w5.rho[n]? = some d := f5.le.get hd
  obtain ⟨c1, o', gs', c2, c3⟩ := k5.cells.at_ n d _ hd5 h5
  rw [e5] at c2
  cases c2
  have md : d ∈ w.rho := List.mem_of_getElem? hd
  have noG : ∀ b, w5.G b ≠ none → b ≠ d := fun b q z => q (by rw [z]; exact c1)
  have at_ : ∀ a, a ≠ d → upd H d (.frz od (.dK gs)) a = H a := fun a h => upd_ne h
  refine ⟨e5, ⟨fun b u e => ?_, ⟨k5.cells.nd, by rw [List.length_set]; exact k5.cells.len, fun m b q e9 e10 => ?_⟩, tabs_upd k5.tabs (fun ps z => by rw [e5] at z; cases z) (fun φ _ z => by rw [e5] at z; cases z), k5.notab⟩, ⟨f5.le, fun b o q1 q2 q3 => ?_, fun b q => f5.newG b (fun z => ?_), fun b q => ?_, fun b q => ?_, fun b ps q => ?_, fun b o u q => ?_⟩⟩
  · rw [upd_ne (noG b (by rw [e]; exact fun z => nomatch z))]
    exact k5.ex b u e
  · rw [List.getElem?_set] at e10
    by_cases hj : n = m
    · rw [if_pos hj] at e10
      split at e10
      · cases e10
        rw [← hj, hd5] at e9
        cases e9
        exact ⟨c1, gs, upd_same, c3⟩
      · cases e10
    · rw [if_neg hj] at e10
      obtain ⟨q1, q2⟩ := k5.cells.at_ m b q e9 e10
      exact ⟨q1, q2.move (.refl w5) (upd_ne fun z => hj (k5.cells.nd n m d hd5 (by rw [← z]; exact e9)))⟩
  · have hb : b ≠ d := fun z => q2 (by rw [z]; exact md)
    rw [upd_ne hb]
    exact f5.keep b o (by rw [at_ b hb]; exact q1) q2 q3
  · by_cases hb : b = d
    · rw [hb, upd_same] at z
      cases z
    · rw [at_ b hb] at z
      exact q z
  · rcases f5.rho b q with z | z
    · exact .inl z
    · by_cases hb : b = d
      · rw [hb]
        exact .inl md
      · rw [at_ b hb] at z
        exact .inr z
  · by_cases hb : b = d
    · rw [hb, upd_same]
      exact fun z => nomatch z
    · rw [upd_ne hb]
      exact f5.dom b (by rw [at_ b hb]; exact q)
  · have hb : b ≠ d := fun z => by
      rw [z, hH] at q
      cases q
    rw [upd_ne hb]
    exact f5.tb b ps (by rw [at_ b hb]; exact q)
  · have hb : b ≠ d := fun z => by
      rw [z, hH] at q
      cases q
    rw [upd_ne hb]
    exact f5.fz b o u (by rw [at_ b hb]; exact q)
theorem StR.unbase (st5 : StR g w1 H1 w5 H5 σ5 env5 S5 O5) (fr : Frame w0 H0 w5 H6) (k6 : Ok g w5 H6 S6) (same : ∀ (i : Nat) (p : Addr), O5[i]? = some (some p) → H6 p = H5 p) (fresh : ∀ p, H1 p = none → H0 p = none) : StR g w0 H0 w5 H6 σ5 env5 S6 O5 := by
  refine ⟨k6, fr, st5.l1, st5.l2, fun i s x o e1 e2 e3 => ?_, st5.inj, fun i p e => ?_⟩
  · have q := st5.sl i s x o e1 e2 e3
    cases s with
    | no => exact q
    | v d => exact q
    | o c =>
      obtain ⟨p, q1, q2, q3, q4⟩ := q
      exact ⟨p, q1, q2, q3, q4.move (.refl w5) (same i p (by rw [e3, q1]))⟩
  · obtain ⟨z1, z2, z3⟩ := st5.fresh i p e
    exact ⟨fresh p z1, z2, z3⟩
end
def unlk (n : Nat) : Out → Out
  | .nx e S => (match S[n]? with
    | some (.lck ks) => .nx e (S.set n (.dic ks))
    | _ => .stuck)
  | .rt r S => (match S[n]? with
    | some (.lck ks) => .rt r (S.set n (.dic ks))
    | _ => .stuck)
  | _ => .stuck
def keysV (ks : List (Key × D)) : List D := ks.map fun k => keyV k.1
theorem keysV_len (ks : List (Key × D)) : (keysV ks).length = ks.length := List.length_map _
theorem keysV_at (ks : List (Key × D)) (i : Nat) (h : i < (keysV ks).length) : (keysV ks)[i] = keyV (ks[i]'(by rw [← keysV_len]; exact h)).1 := List.getElem_map _
def sForD (md : ME) (g : MG) (b : MS) : MS := fun env S => match md env S with
  | .ok (.ref n) _ => (match S[n]? with
    | some (.dic ks) => unlk n ((md (wipeE env []) (S.set n (.lck ks))).out (wipeE env []) fun d S1 => match d with
      | .ref m => if m = n then forL g b (keysV ks) (wipeE env []) S1 else .stuck
      | _ => .stuck)
    | _ => .stuck)
  | _ => .stuck
theorem nt_frz {o : Obj} {u : HO} : ∀ ps, HO.frz o u ≠ .tbl ps := fun _ z => by cases z
theorem RepK.keys_at {g : Gam} {w : Wd} : ∀ {ks : List (Key × D)} {gs : List (Key × V)} {i : Nat} {k : Key × D}, RepK g w ks gs → ks[i]? = some k → ∃ v, gs[i]? = some (k.1, v)
  | [], _, _, _, _, e => by simp at e
  | (k', d) :: ks, gs, 0, k, h, e => by
    obtain ⟨v, r, rfl, a, b⟩ := h.inv
    have e2 : (k', d) = k := by simpa using e
    subst e2
    exact ⟨v, rfl⟩
  | (k', d) :: ks, gs, i + 1, k, h, e => by
    obtain ⟨v, r, rfl, a, b⟩ := h.inv
    exact RepK.keys_at (i := i) b (by simpa using e)
section
variable {X : Cx} {Y : Gam} {W : WX} {e tg : Expr} {td : TE} {md : ME} {t1 : TS} {m1 : MS} {pos : Pos}
theorem sim_forD {is : List Nat} {tg : TG} {mg : MG} (ho : SimE Y W td md) (hg : SimG Y is tg mg) (hb : SimS Y W t1 m1) : SimS Y W (tLock (tFor (iKeys td) tg t1)) (sForD md mg m1) := fun w0 H0 w H σ env S O Dn st p => by
  unfold sForD at p
  split at p
  · rename_i n _ e1
    split at p
    · rename_i ks hS
      have ln : n < w.rho.length := by
        rw [st.ok.cells.len]
        exact (List.getElem?_eq_some_iff.mp hS).1
      have hd : w.rho[n]? = some w.rho[n] := List.getElem?_eq_getElem ln
      generalize w.rho[n] = d at hd
      obtain ⟨hG, gs, hH, hK⟩ := st.ok.cells.at_ n d _ hd hS
      refine ⟨d, .dK gs, hH, trivial, fun od => ?_⟩
      obtain ⟨k1, f1⟩ := ok_cell (c' := .lck ks) st.ok hd hS (o := .frz od (.dK gs)) ⟨od, gs, upd_same, hK⟩ nt_frz
      have stb : StR Y w (upd H d (.frz od (.dK gs))) w (upd H d (.frz od (.dK gs))) σ (wipeE env []) (S.set n (.lck ks)) (List.replicate σ.length none) := (st.after f1 k1).hide []
      have fresh : ∀ q, upd H d (.frz od (.dK gs)) q = none → H0 q = none := fun q z => by
        by_cases hq : q = d
        · rw [hq, upd_same] at z
          cases z
        · rw [upd_ne hq] at z
          cases y : H0 q with
          | none => rfl
          | some o => exact absurd z (st.fr.dom q (by rw [y]; exact fun z => nomatch z))
      have md : d ∈ w.rho := List.mem_of_getElem? hd
      -- what is behind the lock
      have fin : ∀ {w2 : Wd} {out : Out}, w.le w2 → PostS Y W w0 H0 w Dn (unlk n out) → PostS Y W w (upd H d (.frz od (.dK gs))) w2 ⟨fun σ' H' => H' d = some (.frz od (.dK gs)) ∧ Dn.nx σ' (upd H' d (.dK gs)), fun v H' => H' d = some (.frz od (.dK gs)) ∧ Dn.rt v (upd H' d (.dK gs)), fun σ' H' => H' d = some (.frz od (.dK gs)) ∧ Dn.bk σ' (upd H' d (.dK gs)), fun σ' H' => H' d = some (.frz od (.dK gs)) ∧ Dn.ct σ' (upd H' d (.dK gs))⟩ out := fun {w2 out} l2 q => by
        cases out with
        | stuck => exact False.elim q
        | bk e S => exact False.elim q
        | ct e S => exact False.elim q
        | exc c pp e S => exact False.elim q
        | nx e5 S5 =>
          intro w' H' σ' O' st' l'
          have q : PostS Y W w0 H0 w Dn (match S5[n]? with
            | some (.lck ks) => .nx e5 (S5.set n (.dic ks))
            | _ => .stuck) := q
          split at q
          · rename_i ks5 h5
            obtain ⟨u1, u2, u3⟩ := unlock_cell st.ok hd hH st'.fr st'.ok h5
            refine ⟨u1, q w' _ σ' O' (st'.unbase (st.fr.trans u3) u2 (fun i p e => ?_) fresh) (l2.trans l')⟩
            exact upd_ne fun z => (st'.fresh i p e).2.1 (by rw [z]; exact List.mem_of_getElem? (st'.fr.le.get hd))
          · exact False.elim q
        | rt r S5 =>
          intro w' H' v k' f' rv
          have q : PostS Y W w0 H0 w Dn (match S5[n]? with
            | some (.lck ks) => .rt r (S5.set n (.dic ks))
            | _ => .stuck) := q
          split at q
          · rename_i ks5 h5
            obtain ⟨u1, u2, u3⟩ := unlock_cell st.ok hd hH f' k' h5
            refine ⟨u1, q w' _ v u2 (st.fr.trans u3) ?_⟩
            cases r with
            | val d' => exact rv
            | own c =>
              obtain ⟨p, q1, q2, q3, q4, q5⟩ := rv
              have np : p ≠ d := fun z => q4 (by rw [z]; exact List.mem_of_getElem? (f'.le.get hd))
              exact ⟨p, q1, fresh p q2, q3, q4, q5.move (.refl w') (upd_ne np)⟩
          · exact False.elim q
      refine ho w _ w _ σ _ _ _ _ stb ((PostS.out (fin (.refl w) p)).imp fun dd S1 w1 H1 st1 l1 p1 x r => ?_)
      split at p1
      · rename_i m
        split at p1
        · rename_i hm
          subst hm
          obtain ⟨a, ha, ex⟩ := rep_ref r
          rw [l1.get hd] at ha
          cases ha
          refine ⟨d, od, ex, .inl ⟨gs, st1.fr.fz d od _ upd_same, ?_⟩⟩
          have lk : ks.length = gs.length := hK.len
          refine ⟨fun i k σ H5 => k + i = ks.length ∧ ∃ w5 env5 S5 O5, StR Y w (upd H d (.frz od (.dK gs))) w5 H5 σ env5 S5 O5 ∧ w.le w5 ∧ PostS Y W w (upd H d (.frz od (.dK gs))) w5 ⟨fun σ' H' => H' d = some (.frz od (.dK gs)) ∧ Dn.nx σ' (upd H' d (.dK gs)), fun v H' => H' d = some (.frz od (.dK gs)) ∧ Dn.rt v (upd H' d (.dK gs)), fun σ' H' => H' d = some (.frz od (.dK gs)) ∧ Dn.bk σ' (upd H' d (.dK gs)), fun σ' H' => H' d = some (.frz od (.dK gs)) ∧ Dn.ct σ' (upd H' d (.dK gs))⟩ (forL mg m1 ((keysV ks).drop i) env5 S5), ⟨ks.length, by omega, w1, _, S1, _, st1, l1, p1⟩, ?_⟩
          rintro i k σ2 H2 ⟨hk, w2, env2, S2, O2, st2, l2, p2⟩
          have hF : H2 d = some (.frz od (.dK gs)) := st2.fr.fz d od _ upd_same
          by_cases hlt : i < ks.length
          · have hl' : i < (keysV ks).length := by rw [keysV_len]; exact hlt
            have ed : (keysV ks).drop i = keyV ks[i].1 :: (keysV ks).drop (i + 1) := by
              rw [List.drop_eq_getElem_cons hl', keysV_at]
            refine .inr ⟨⟨hF, by rw [← lk]; exact hlt⟩, fun σ' H' => ∃ w5 env5 S5 O5, StR Y w (upd H d (.frz od (.dK gs))) w5 H' σ' env5 S5 O5 ∧ w.le w5 ∧ PostS Y W w (upd H d (.frz od (.dK gs))) w5 _ (forL mg m1 ((keysV ks).drop (i + 1)) env5 S5), fun σ' H' h' => ⟨k - 1, by omega, by omega, h'⟩, fun x H' hy => ?_⟩
            obtain ⟨eH, kk, vv, hkv, ex'⟩ := hy
            obtain ⟨v5, g5⟩ := hK.keys_at (List.getElem?_eq_getElem hlt)
            rw [hkv] at g5
            cases g5
            subst eH ex'
            rw [ed] at p2
            unfold forL at p2
            cases z : mg (keyV ks[i].1) env2 with
            | none => rw [z] at p2; exact False.elim p2
            | some e1 =>
              rw [z] at p2
              refine hg w _ w2 H' σ2 env2 S2 O2 (keyV ks[i].1) _ _ e1 st2 (rep_keyV _) z fun σ4 O4 st4 _ => ?_
              refine hb w _ w2 H' σ4 e1 S2 O4 _ st4 ?_
              have p2 : PostS Y W w (upd H d (.frz od (.dK gs))) w2 _ (match m1 e1 S2 with
                | .nx e S1 => forL mg m1 ((keysV ks).drop (i + 1)) e S1
                | .ct e S1 => forL mg m1 ((keysV ks).drop (i + 1)) e S1
                | .bk e S1 => .nx e S1
                | o => o) := p2
              cases y : m1 e1 S2 with
              | stuck => rw [y] at p2; exact p2
              | nx e S5 => rw [y] at p2; exact fun w' H' σ' O' st' l' => ⟨w', e, S5, O', st', l2.trans l', p2.mono l'⟩
              | ct e S5 => rw [y] at p2; exact fun w' H' σ' O' st' l' => ⟨w', e, S5, O', st', l2.trans l', p2.mono l'⟩
              | bk e S5 => rw [y] at p2; exact fun w' H' σ' O' st' l' => p2 w' H' σ' O' st' l'
              | rt r S5 => rw [y] at p2; exact p2
              | exc c q e S5 => rw [y] at p2; exact fun w' H' σ' O' cls dd st' l' x => p2 w' H' σ' O' cls dd st' l' x
          · have ei : i = ks.length := by omega
            refine .inl ⟨⟨hF, by rw [← lk, ei]; exact Nat.le_refl _⟩, ?_⟩
            have ed : (keysV ks).drop i = [] := by
              rw [ei, ← keysV_len]
              exact List.drop_length
            rw [ed] at p2
            exact p2 w2 H2 σ2 O2 st2 (.refl w2)
        · exact False.elim p1
      · exact False.elim p1
    · exact False.elim p
  · exact False.elim p
theorem t_forD {iter : Expr} {body : List Stmt} {is : List Nat} {g : TG} {mg : MG} (hp : PassesOwn (model X.prog X.w) X.A X.env X.xe) (ho : SE X Y W iter td md) (hg : SG X Y is tg g mg) (hb : SB X Y W body t1 m1) (hc : X.calm = true := by rfl)
    (hs : ∀ x, foldedSetIterable iter X.env x = pure x := by intro _; rfl) : SS X Y W (.For tg iter body [] pos) (tLock (tFor (iKeys td) g t1)) (sForD md mg m1) := ⟨ps_lock (ps_for hp hc (pi_keys ho.pe) hg.pg hb.pss hs), sim_forD ho.sim hg.sim hb.sim⟩
end
end Mm
namespace Mm
open PySem PySem.Spec PyProof.Rows L2 HotX
theorem RepL.strs {g : Gam} {w : Wd} : ∀ (ns : List Str), RepL g w (ns.map D.str) (ns.map V.str)
  | [] => RepL.nil_
  | n :: ns => RepL.cons_ rep_str' (RepL.strs ns)
end Mm
namespace Mm
open PySem PySem.Spec PyProof.Rows L2 HotX
def fX (a : Addr) (c c' : Str) : ME := eIsX a c (aCons (eV 0) (aCons (eC (.cls c')) aNil))
def three (a : Addr) (c x y z : Str) : MF := fLst (aCons (fX a c x) (aCons (fX a c y) (aCons (fX a c z) aNil)))
end Mm
namespace Mm
open PySem PySem.Spec PyProof.Rows L2
def leS (a b : Str) : Prop := ltCps b.cps.toList a.cps.toList = false
theorem ltCps_anti : ∀ a b : List Nat, ltCps a b = false → ltCps b a = false → a = b
  | [], [], _, _ => rfl
  | [], _ :: _, h, _ => by simp [ltCps] at h
  | _ :: _, [], _, h => by simp [ltCps] at h
  | a :: r, b :: t, h, h' => by
    simp [ltCps] at h h'
    have e : a = b := by omega
    subst e
    rw [ltCps_anti r t (by simpa using h.2) (by simpa using h'.2)]
theorem ltCps_tr : ∀ a b c : List Nat, ltCps b a = false → ltCps c b = false → ltCps c a = false
  | [], _, [], _, _ => rfl
  | [], [], _ :: _, _, h => by simp [ltCps] at h ⊢
  | [], _ :: _, _ :: _, _, _ => by simp [ltCps]
  | _ :: _, [], _, h, _ => by simp [ltCps] at h
  | _ :: _, _ :: _, [], _, h => by simp [ltCps] at h
  | a :: r, b :: t, c :: u, h, h' => by
    simp [ltCps] at h h' ⊢
    refine ⟨by omega, fun e => ?_⟩
    have e1 : a = b := by omega
    subst e1
    exact ltCps_tr r t u (h.2 rfl) (h'.2 (by omega))
theorem ltCps_tot : ∀ a b : List Nat, ltCps a b = true → ltCps b a = false
  | [], [], h => by simp [ltCps] at h
  | [], _ :: _, _ => by simp [ltCps]
  | _ :: _, [], h => by simp [ltCps] at h
  | a :: r, b :: t, h => by
    simp [ltCps] at h ⊢
    refine ⟨by omega, fun e => ?_⟩
    rcases h with h | ⟨_, h⟩
    · omega
    · exact ltCps_tot r t h
theorem leS_tr {a b c : Str} (h : leS a b) (h' : leS b c) : leS a c := ltCps_tr _ _ _ h h'
theorem leS_anti {a b : Str} (h : leS a b) (h' : leS b a) : a = b := by
  have e := ltCps_anti _ _ h' h
  cases a with
  | mk x => cases b with
    | mk y =>
      have : x = y := Array.toList_inj.mp e
      rw [this]
def insX (x : Str) : List Str → List Str
  | [] => [x]
  | y :: r => if ltCps y.cps.toList x.cps.toList then y :: insX x r else x :: y :: r
def srtX : List Str → List Str
  | [] => []
  | x :: r => insX x (srtX r)
theorem insX_perm (x : Str) : ∀ l, (insX x l).Perm (x :: l)
  | [] => List.Perm.refl _
  | y :: r => by
    unfold insX
    split
    · exact ((insX_perm x r).cons y).trans (List.Perm.swap x y r)
    · exact List.Perm.refl _
theorem srtX_perm : ∀ l, (srtX l).Perm l
  | [] => List.Perm.refl _
  | x :: r => (insX_perm x _).trans ((srtX_perm r).cons x)
theorem insX_srt (x : Str) : ∀ l : List Str, l.Pairwise leS → (insX x l).Pairwise leS
  | [], _ => by simp [insX]
  | y :: r, h => by
    obtain ⟨h1, h2⟩ := List.pairwise_cons.mp h
    unfold insX
    split
    · rename_i hlt
      refine List.pairwise_cons.mpr ⟨fun z hz => ?_, insX_srt x r h2⟩
      rcases List.mem_cons.mp ((insX_perm x r).mem_iff.mp hz) with e | e
      · rw [e]
        exact ltCps_tot _ _ hlt
      · exact h1 z e
    · rename_i hge
      have hxy : leS x y := by simpa [leS] using hge
      refine List.pairwise_cons.mpr ⟨fun z hz => ?_, h⟩
      rcases List.mem_cons.mp hz with e | e
      · rw [e]
        exact hxy
      · exact leS_tr hxy (h1 z e)
theorem srtX_srt : ∀ l : List Str, (srtX l).Pairwise leS
  | [] => List.Pairwise.nil
  | x :: r => insX_srt x _ (srtX_srt r)
theorem rising_pw : ∀ (p : Str) (l : List Str), risingS p l = true → (p :: l).Pairwise leS
  | p, [], _ => by simp
  | p, x :: r, h => by
    unfold risingS at h
    obtain ⟨h1, h2⟩ := Bool.and_eq_true_iff.mp h
    have ih := rising_pw x r h2
    have hpx : leS p x := by simpa [leS] using h1
    refine List.pairwise_cons.mpr ⟨fun z hz => ?_, ih⟩
    rcases List.mem_cons.mp hz with e | e
    · rw [e]
      exact hpx
    · exact leS_tr hpx ((List.pairwise_cons.mp ih).1 z e)
theorem sortedS_pw : ∀ l : List Str, sortedS l = true → l.Pairwise leS
  | [], _ => List.Pairwise.nil
  | x :: r, h => rising_pw x r h
theorem uniqS {a b : List Str} (p : a.Perm b) (ha : a.Pairwise leS) (hb : b.Pairwise leS) : a = b := p.eq_of_pairwise (fun x y _ _ h h' => leS_anti h h') ha hb
def txtsK : List (Key × D) → Option (List Str)
  | [] => some []
  | (.inr x, _) :: r => (txtsK r).map (x :: ·)
  | _ => none
theorem txtsK_rep {g : Gam} {w : Wd} : ∀ {ks : List (Key × D)} {gs : List (Key × V)} {xs : List Str}, RepK g w ks gs → txtsK ks = some xs → gs.map (·.1) = xs.map Sum.inr
  | [], gs, xs, h, e => by
    unfold RepK at h
    unfold txtsK at e
    cases e
    subst h
    rfl
  | (.inr x, d) :: r, gs, xs, h, e => by
    obtain ⟨v, q, rfl, a, b⟩ := h.inv
    unfold txtsK at e
    cases z : txtsK r with
    | none => rw [z] at e; cases e
    | some ys =>
      rw [z] at e
      cases e
      simp [txtsK_rep b z]
  | (.inl i, d) :: r, gs, xs, h, e => by
    unfold txtsK at e
    cases e
def fSortedD : Sto → List D → Option Cell
  | S, [d] => (dicOf S d).bind fun ks => (txtsK ks).bind fun xs => if xs.length < 64 then some (.lst ((srtX xs).map D.str)) else none
  | _, _ => none
theorem co_sortedD {g : Gam} : CallO g (fun xs H Q => ∃ (a : Addr) (kvs : List (Key × V)) (ks : List Str), xs = [.ref a] ∧ Rd H a (.dK kvs) ∧ kvs.map (·.1) = ks.map Sum.inr ∧ ks.length < 64 ∧ ∀ ys p, ys.Perm ks → sortedS ys = true → H p = none → Q (.ref p) (upd H p (.lst (ys.map V.str)))) fSortedD := fun w H S ds vs c Q k r e q => by
  unfold fSortedD at e
  split at e
  · rename_i d'
    obtain ⟨v, e1, e2⟩ := repL_one r
    cases z : dicOf S d' with
    | none => rw [z] at e; cases e
    | some ks =>
      rw [z] at e
      have e : ((txtsK ks).bind fun xs => if xs.length < 64 then some (.lst ((srtX xs).map D.str)) else none) = some c := e
      cases y : txtsK ks with
      | none => rw [y] at e; cases e
      | some xs =>
        rw [y] at e
        have e : (if xs.length < 64 then some (.lst ((srtX xs).map D.str)) else none) = some c := e
        split at e
        · rename_i hl
          cases e
          obtain ⟨a, us, x1, x2, x3⟩ := dicOf_rep k e2 z
          rw [x1] at e1
          refine ⟨a, us, xs, e1, x2, txtsK_rep x3 y, hl, fun ys p hp hs hn => ?_⟩
          rw [uniqS (hp.trans (srtX_perm xs).symm) (sortedS_pw ys hs) (srtX_srt xs)]
          exact q p _ hn nt_lst ⟨_, upd_same, RepL.strs _⟩
        · cases e
  · cases e
end Mm
namespace Mm
open PySem PySem.Spec PyProof.Rows L2
theorem ok_updN {g : Gam} {w : Wd} {H : Hp} {S : Sto} {p : Addr} {o0 o : HO} (k : Ok g w H S) (e : H p = some o0) (nt : ∀ ps, o0 ≠ .tbl ps) (ne : ∀ φ, o0 ≠ .ext φ) (hg : w.G p = none) (hr : p ∉ w.rho) : Ok g w (upd H p o) S := by
  refine ⟨fun b u q => ?_, ⟨k.cells.nd, k.cells.len, fun m b q e9 e10 => ?_⟩, tabs_upd k.tabs (fun ps z => by rw [e] at z; exact nt ps (Option.some.inj z)) (fun φ _ z => by rw [e] at z; exact ne φ (Option.some.inj z)), k.notab⟩
  · rw [upd_ne (fun z => by rw [z, hg] at q; cases q)]
    exact k.ex b u q
  · obtain ⟨q1, q2⟩ := k.cells.at_ m b q e9 e10
    exact ⟨q1, q2.move (.refl w) (upd_ne fun z => hr (by rw [← z]; exact List.mem_of_getElem? e9))⟩
def dispR : List (Str × ME) → Envr → Sto → R (List (Key × D))
  | [], _, S => .ok [] S
  | (k, m) :: r, env, S => (m env S).bind fun d S1 => (dispR r env S1).bind fun ds S2 => .ok ((.inr k, d) :: ds) S2
def nodB (ks : List Str) : Bool := decide ks.Nodup
def fDispN (ks : List (Str × ME)) : MF := fun env S => if nodB (ks.map (·.1)) then (dispR ks (wipeE env []) S).bind fun ds S1 => .ok (.dic ds) S1 else .stuck
section
variable {X : Cx} {Y : Gam} {W : WX} {e a o : Expr} {es : List Expr} {te : TE} {me : ME} {pos p apos cpos : Pos}
structure SDs (X : Cx) (Y : Gam) (W : WX) (pos : Pos) (keys : List (Option Expr)) (values : List Expr) (trs : List (TE × TE)) (ks : List (Str × ME)) : Prop where
  pps : PPs X pos keys values trs
  len : keys.length = ks.length
  sim : ∀ w0 H0 w H σ env S O (Q : List (V × V) → Hp → Prop), StR Y w0 H0 w H σ env S O → PostX Y W w0 H0 w σ env O (dispR ks env S) (fun ds _ w' H' => ∀ kvs, RepK Y w' ds kvs → Q (kvs.map fun kv => (kV kv.1, kv.2)) H') → tPairs trs σ H Q
theorem sd_nil : SDs X Y W pos [] [] [] [] := ⟨pps_nil, rfl, fun w0 H0 w H σ env S O Q st p => p w H st (.refl w) [] RepK.nil_⟩
theorem sd_cons {k : Str} {v : Expr} {j : Nat} {p1 : Pos} {tv : TE} {mv : ME} {keys : List (Option Expr)} {values : List Expr} {trs : List (TE × TE)} {ks : List (Str × ME)} (hv : SE X Y W v tv mv) (hr : SDs X Y W pos keys values trs ks) :
    SDs X Y W pos (some (.Constant (.str k) j p1) :: keys) (v :: values) ((tC (.str k), tv) :: trs) ((k, mv) :: ks) := ⟨pps_cons pe_str hv.pe hr.pps, by rw [List.length_cons, List.length_cons, hr.len], fun w0 H0 w H σ env S O Q st pp => by
  show tv σ H _
  refine hv.sim w0 H0 w H σ env S O _ st ((PostX.bind pp).imp fun d S1 w1 H1 st1 l1 p1 v r => hr.sim w0 H0 w1 H1 σ env S1 O _ st1 ((PostX.bind p1).imp fun ds S2 w2 H2 st2 l2 p2 kvs rs => ?_))
  exact p2 w2 H2 st2 (.refl w2) ((.inr k, v) :: kvs) (RepK.cons_ (r.mono l2) rs)⟩
theorem merge_nod : ∀ (kvs acc : List (Key × V)), (kvs.map (·.1)).Nodup → (∀ k ∈ kvs.map (·.1), k ∉ acc.map (·.1)) → mergeK acc kvs = acc ++ kvs
  | [], acc, _, _ => by simp [mergeK]
  | (k, v) :: r, acc, h, h2 => by
    rw [List.map_cons] at h
    obtain ⟨h3, h4⟩ := List.nodup_cons.mp h
    have hk : k ∉ acc.map (·.1) := h2 k (by simp)
    have e : putK acc k v = acc ++ [(k, v)] := by
      unfold putK
      rw [if_neg]
      simp only [List.any_eq_true, not_exists, not_and]
      intro q hq hqk
      exact hk (List.mem_map.mpr ⟨q, hq, by simpa using hqk⟩)
    have ih := merge_nod r (acc ++ [(k, v)]) h4 fun q hq => by
      rw [List.map_append, List.mem_append, not_or]
      refine ⟨h2 q (by rw [List.map_cons]; exact List.mem_cons_of_mem _ hq), fun z => ?_⟩
      have : q = k := by simpa using z
      exact h3 (this ▸ hq)
    show mergeK (putK acc k v) r = _
    rw [e, ih, List.append_assoc]
    rfl
theorem dispR_keys : ∀ {ks : List (Str × ME)} {env : Envr} {S S1 : Sto} {ds : List (Key × D)}, dispR ks env S = .ok ds S1 → ds.map (·.1) = ks.map fun k => Sum.inr k.1
  | [], env, S, S1, ds, h => by
    unfold dispR at h
    cases h
    rfl
  | (k, m) :: r, env, S, S1, ds, h => by
    unfold dispR at h
    cases z : m env S with
    | stuck => rw [z] at h; cases h
    | exc c q s => rw [z] at h; cases h
    | ok d s =>
      rw [z] at h
      have h : ((dispR r env s).bind fun ds S2 => R.ok ((.inr k, d) :: ds) S2) = .ok ds S1 := h
      cases y : dispR r env s with
      | stuck => rw [y] at h; cases h
      | exc c q s => rw [y] at h; cases h
      | ok d2 s2 =>
        rw [y] at h
        have h : R.ok ((.inr k, d) :: d2) s2 = .ok ds S1 := h
        cases h
        simp [dispR_keys y]
theorem RepK.keysE {g : Gam} {w : Wd} : ∀ {ds : List (Key × D)} {vs : List (Key × V)}, RepK g w ds vs → vs.map (·.1) = ds.map (·.1)
  | [], vs, h => by
    unfold RepK at h
    subst h
    rfl
  | (k', d) :: ds, vs, h => by
    obtain ⟨v, r, rfl, a, b⟩ := h.inv
    rw [List.map_cons, List.map_cons, RepK.keysE b]
theorem f_dispN {keys : List (Option Expr)} {values : List Expr} {trs : List (TE × TE)} {ks : List (Str × ME)} (h : SDs X Y W pos keys values trs ks) (hall : keys.all (·.isSome) = true := by rfl) (hl : keys.length = values.length := by rfl) (h0 : keys ≠ [] := by exact fun z => nomatch z) (h15 : keys.length ≤ 15 := by decide) :
    SF X Y W (.Dict keys values pos) (tDisp trs) (fDispN ks) := ⟨pe_disp h.pps hall hl h0 h15, fun w0 H0 w H σ env S O Q st p q hq => by
  unfold fDispN at p
  split at p
  · rename_i hnd
    obtain ⟨n1, n2, n3, n4⟩ := st.out hq
    obtain ⟨k1, f1⟩ := ok_lay (o := .dK []) st.ok hq nt_dK
    have st1 : StR Y w0 H0 w (upd H q (.dK [])) σ env S O := st.after f1 k1
    have stb : StR Y w (upd H q (.dK [])) w (upd H q (.dK [])) σ (wipeE env []) S (List.replicate σ.length none) := st1.hide []
    refine h.sim w _ w _ σ _ S _ _ stb ?_
    cases z : dispR ks (wipeE env []) S with
    | stuck => rw [z] at p; exact p
    | exc c pp S1 =>
      rw [z] at p
      intro w' H' cls dd st' l' xr
      exact p w' H' cls dd (st1.after st'.fr st'.ok) l' xr
    | ok ds S1 =>
      rw [z] at p
      intro w' H' st' l' kvs rk
      have e1 : H' q = some (.dK []) := st'.fr.keep q _ upd_same n3 nt_dK
      have g1 : w'.G q = none := by
        rw [st'.fr.newG q (by rw [upd_same]; exact fun z => nomatch z)]
        exact n2
      have r1 : q ∉ w'.rho := fun m => by
        rcases st'.fr.rho q m with y | y
        · exact n3 y
        · rw [upd_same] at y
          cases y
      have kn : (kvs.map (·.1)).Nodup := by
        rw [rk.keysE, dispR_keys z]
        have hnd := of_decide_eq_true hnd
        have : (ks.map fun k => (Sum.inr k.1 : Key)) = (ks.map (·.1)).map Sum.inr := by rw [List.map_map]; rfl
        rw [this]
        exact List.pairwise_map.mpr (List.Pairwise.imp (fun {a b} h e => h (Sum.inr.inj e)) hnd)
      have mk : mergeK [] kvs = kvs := by
        rw [merge_nod kvs [] kn (fun _ _ => by simp)]
        rfl
      refine ⟨e1, kvs, rfl, ?_, ?_⟩
      · have e2 := congrArg List.length (rk.keysE.trans (dispR_keys z))
        rw [List.length_map, List.length_map, ← h.len] at e2
        rw [e2]
        exact h15
      · rw [mk]
        have fr2 : Frame w H w' (upd H' q (.dK kvs)) := (f1.trans st'.fr).upd_new hq
        have k2 := ok_updN (o := .dK kvs) st'.ok e1 nt_dK (fun φ z => by cases z) g1 r1
        exact p w' _ (st.after fr2 k2) l' q ⟨n1, g1, r1, n4, ⟨kvs, upd_same, rk⟩⟩
  · exact False.elim p⟩
def eFmt (m : ME) : ME := fun env S => (m env S).bind fun d S1 => match d with
  | .str y => if szB y.length then .ok (.str y) S1 else .stuck
  | .int i => if decide (i.natAbs.log2 < 1920) then .ok (.str (toString i)) S1 else .stuck
  | _ => .stuck
theorem s_fmt (he : SE X Y W e te me) : SE X Y W (.FormattedValue e (-1) none pos) (tFmt te) (eFmt me) := ⟨pe_fmt he.pe, fun w0 H0 w H σ env S O Q st p =>
  he.sim w0 H0 w H σ env S O _ st ((PostX.bind p).imp fun d S1 w1 H1 st1 l1 p1 v r => by
    cases d with
    | str y =>
      have p1 : PostX Y W w0 H0 w1 σ env O (if szB y.length then R.ok (D.str y) S1 else .stuck) _ := p1
      split at p1
      · rename_i z
        exact .inl ⟨y, rep_str r, szB_le z, p1 w1 H1 st1 (.refl w1) _ rep_str'⟩
      · exact False.elim p1
    | int i =>
      have p1 : PostX Y W w0 H0 w1 σ env O (if decide (i.natAbs.log2 < 1920) then R.ok (D.str (toString i)) S1 else .stuck) _ := p1
      split at p1
      · rename_i z
        exact .inr ⟨i, rep_int r, of_decide_eq_true z, p1 w1 H1 st1 (.refl w1) _ rep_str'⟩
      · exact False.elim p1
    | _ => exact False.elim p1)⟩
def eFs : List ME → Str → ME
  | [], acc => fun _ S => .ok (.str acc) S
  | m :: ms, acc => fun env S => (m env S).bind fun d S1 => match d with
    | .str y => if szB (acc ++ y).length then eFs ms (acc ++ y) env S1 else .stuck
    | _ => .stuck
structure SJs (X : Cx) (Y : Gam) (W : WX) (es : List Expr) (ts : List TE) (ms : List ME) : Prop where
  pj : PJ X es ts
  sim : ∀ (acc : Str) w0 H0 w H σ env S O (Q : Str → Hp → Prop), StR Y w0 H0 w H σ env S O → PostX Y W w0 H0 w σ env O (eFs ms acc env S) (fun d _ _ H' => ∀ x, d = .str x → Q x H') → tJs ts acc σ H Q
theorem sj_nil : SJs X Y W [] [] [] := ⟨.nil, fun acc w0 H0 w H σ env S O Q st p => p w H st (.refl w) acc rfl⟩
theorem sj_cons {ts : List TE} {ms : List ME} (he : SE X Y W e te me) (hr : SJs X Y W es ts ms) : SJs X Y W (e :: es) (te :: ts) (me :: ms) := ⟨.cons he.pe hr.pj, fun acc w0 H0 w H σ env S O Q st p =>
  he.sim w0 H0 w H σ env S O _ st ((PostX.bind p).imp fun d S1 w1 H1 st1 l1 p1 v r => by
    split at p1
    · rename_i y
      split at p1
      · rename_i z
        exact ⟨y, rep_str r, szB_le z, hr.sim (acc ++ y) w0 H0 w1 H1 σ env S1 O Q st1 p1⟩
      · exact False.elim p1
    · exact False.elim p1)⟩
theorem s_fs {v1 v2 : Expr} {rest : List Expr} {ts : List TE} {ms : List ME} (h : SJs X Y W (v1 :: v2 :: rest) ts ms) : SE X Y W (.JoinedStr (v1 :: v2 :: rest) pos) (fun σ H Q => tJs ts Str.empty σ H fun out H1 => Q (.str out) H1) (eFs ms Str.empty) := ⟨pe_joined h.pj, fun w0 H0 w H σ env S O Q st p =>
  h.sim Str.empty w0 H0 w H σ env S O _ st (p.imp fun d S1 w1 H1 st1 l1 p1 x ex => by
    subst ex
    exact p1 _ rep_str')⟩
variable {k n : Nat} {fa C : Addr} {fd : FuncData} {ps : List Str} {mfn : MFn}
def rReprO (C : Addr) (sp : Sp) (E : XK) : List V → Hp → VK → Prop := fun xs H Q => ∃ a dx fs, xs = [.ref a] ∧ H a = some (.ins C dx fs) ∧ sp [.ref a] H (fun v H' => ∃ x, v = .str x ∧ Q (.str x) H') E
theorem env0_in1 {pins : List (Addr × Obj)} {σ : L2.St} {H : Hp} {s : Shared} (I : Inv X pins σ H s) : Env0 X.prog X.w X.K X.mg X.base X.A.in1 X.stack s H := by
  have e := I.env0
  exact ⟨e.frames, e.mod, e.bs, e.bsz, e.funs, e.frf, e.hok, e.bare⟩
theorem call_reprO {CX : CXT} {sp : Sp} {E : XK} (F : FnOk X.prog X.w X.K X.mg X.base CX n fa fd ps sp) (hr : Room (n + 1) X.A)
    (hs : PySem.W.findIn X.K (.ref C) "__repr__" = some (some (.ref fa))) (hf : PySem.W.isFn X.K (.ref fa) = true) (hb : Binds X.K fd ps []) (hx : Passes CX X E) : CallR X (.builtin "repr") (rReprO C sp E) := by
  intro pins s σ H xs us Q I r d
  obtain ⟨a, dx, fs, rfl, ha, hsp⟩ := d
  obtain ⟨u, rfl, ru⟩ := r.one
  cases ru
  obtain ⟨mA, J, _⟩ := ins_get I.hok ha
  obtain ⟨od, J, _⟩ := J.look
  obtain ⟨m, hF⟩ := I.fr
  refine PySem.W.repr_K hr.in1.units0 hF I.ok.mod.kin J hs hf ?_
  have hl := F.len _ _ _ _ hsp
  refine wpAny_call (codeAny_mono (F.run X.A.in1 X.stack s H ⟨[.ref a], []⟩ [.ref a] [.ref a] _ E hr.in1 (env0_in1 I) (by
    have := hb s [.ref a] I.kIn (by simpa using hl)
    simpa using this) (.cons rfl .nil) hsp) fun r s' hq => ?_)
  cases r with
  | error e => exact hx pins σ H s e s' I hq
  | ok fl =>
    cases fl with
    | ret w =>
      obtain ⟨z, H', I', rz, kk, ez, q⟩ := I.after hq
      subst ez
      obtain ⟨t, rfl⟩ := rz
      exact ⟨.str kk, H', I', ⟨t, rfl⟩, q⟩
    | next => exact False.elim hq
    | brk => exact False.elim hq
    | cont => exact False.elim hq
def eReprO (c : Str) (f : MFn) (ma : ME) : ME := fun env S => (ma env S).bind fun d1 S1 => match insOf c S1 d1, f [d1] S1 with
  | some _, .ok (.val (.str k)) S3 => .ok (.str k) S3
  | _, _ => .stuck
variable {ta : TE} {ma : ME}
theorem s_reprO (c : Str) (h : KnM X.prog X.w X.K X.mg X.base Y k c "__repr__" 1 mfn [] []) (hr : Room (k + 1) X.A) (hm : X.mg "repr" = none) (ha : SE X Y W a ta ma) (hg : Gl X "repr" := by rfl) (he : starEach [a] X.env = (false, eval a X.env) :: starEach [] X.env := by rfl) (hpl : (backTo pos (starEach [] X.env)).any (·.1) = false := by rfl) :
    SE X Y W (.Call (.Name "repr" p) [a] [] pos) (tCB (rReprO (Y.ca c) (spOf Y 1 mfn) E0) (tCons ta tNil)) (eReprO c mfn ma) := by
  obtain ⟨f, fd, ps, ds, F, hC, hM, hb, hd, hdv⟩ := h
  cases hd
  exact ⟨pe_callB (call_reprO F hr hM.at_ hM.fn hb passN) hg hm (by decide +kernel : bootBuiltins "repr" = some (.builtin "repr")) (pa_cons ha.pe pa_nil he) (by decide) (by decide) he hpl, fun w0 H0 w H σ env S O Q st pp =>
  ha.sim w0 H0 w H σ env S O _ st ((PostX.bind pp).imp fun d1 S1 w1 H1 st1 l1 p1 v1 r1 => by
    split at p1
    · rename_i fs kk S3 h1 h3
      obtain ⟨q1, dx, fv, x1, x2, x3⟩ := insOf_rep st1.ok r1 h1
      subst x1
      refine ⟨q1, dx, fv, rfl, x2, rfl, w1, [d1], S1, st1.ok, RepL.cons_ r1 RepL.nil_, ?_⟩
      rw [h3]
      intro w' H' v f k rv
      have ev : v = .str kk := rep_str (g := Y) (w := w') rv
      exact ⟨kk, ev, p1 w' H' (st1.after f k) f.le _ rep_str'⟩
    · exact False.elim p1)⟩
def rLenO (C : Addr) (sp : Sp) (E : XK) : List V → Hp → VK → Prop := fun xs H Q => ∃ a dx fs, xs = [.ref a] ∧ H a = some (.ins C dx fs) ∧ sp [.ref a] H (fun v H' => ∃ i : Int, v = .int i ∧ (0 ≤ i ∧ i < 2 ^ 63) ∧ Q (.int i) H') E
theorem call_lenO {CX : CXT} {sp : Sp} {E : XK} (F : FnOk X.prog X.w X.K X.mg X.base CX n fa fd ps sp) (hr : Room (n + 1) X.A)
    (hs : PySem.W.findIn X.K (.ref C) "__len__" = some (some (.ref fa))) (hf : PySem.W.isFn X.K (.ref fa) = true) (hb : Binds X.K fd ps []) (hx : Passes CX X E) : CallR X (.builtin "len") (rLenO C sp E) := by
  intro pins s σ H xs us Q I r d
  obtain ⟨a, dx, fs, rfl, ha, hsp⟩ := d
  obtain ⟨u, rfl, ru⟩ := r.one
  cases ru
  obtain ⟨mA, J, _⟩ := ins_get I.hok ha
  obtain ⟨od, J, _⟩ := J.look
  obtain ⟨m, hF⟩ := I.fr
  refine PySem.W.len_K hF I.ok.mod.kin J hs hf ?_
  have hl := F.len _ _ _ _ hsp
  refine wpAny_call (codeAny_mono (F.run X.A.in1 X.stack s H ⟨[.ref a], []⟩ [.ref a] [.ref a] _ E hr.in1 (env0_in1 I) (by
    have := hb s [.ref a] I.kIn (by simpa using hl)
    simpa using this) (.cons rfl .nil) hsp) fun r s' hq => ?_)
  cases r with
  | error e => exact hx pins σ H s e s' I hq
  | ok fl =>
    cases fl with
    | ret w =>
      obtain ⟨z, H', I', rz, kk, ez, b, q⟩ := I.after hq
      subst ez
      obtain ⟨t, rfl⟩ := rz
      exact ⟨b, .int kk, H', I'.tok _, ⟨_, rfl⟩, q⟩
    | next => exact False.elim hq
    | brk => exact False.elim hq
    | cont => exact False.elim hq
def eLenOw (c : Str) (f : MFn) (ma : ME) : ME := fun env S => (ma env S).bind fun d1 S1 => match insOf c S1 d1, f [d1] S1 with
  | some _, .ok (.val (.int i)) S3 => if decide (0 ≤ i) && bBnd i 9223372036854775807 then .ok (.int i) S3 else .stuck
  | _, _ => .stuck
theorem s_lenOw (c : Str) (h : KnM X.prog X.w X.K X.mg X.base Y k c "__len__" 1 mfn [] []) (hr : Room (k + 1) X.A) (hm : X.mg "len" = none) (ha : SE X Y W a ta ma) (hg : Gl X "len" := by rfl) (he : starEach [a] X.env = (false, eval a X.env) :: starEach [] X.env := by rfl) (hpl : (backTo pos (starEach [] X.env)).any (·.1) = false := by rfl) :
    SE X Y W (.Call (.Name "len" p) [a] [] pos) (tCB (rLenO (Y.ca c) (spOf Y 1 mfn) E0) (tCons ta tNil)) (eLenOw c mfn ma) := by
  obtain ⟨f, fd, ps, ds, F, hC, hM, hb, hd, hdv⟩ := h
  cases hd
  exact ⟨pe_callB (call_lenO F hr hM.at_ hM.fn hb passN) hg hm (by decide +kernel : bootBuiltins "len" = some (.builtin "len")) (pa_cons ha.pe pa_nil he) (by decide) (by decide) he hpl, fun w0 H0 w H σ env S O Q st pp =>
  ha.sim w0 H0 w H σ env S O _ st ((PostX.bind pp).imp fun d1 S1 w1 H1 st1 l1 p1 v1 r1 => by
    split at p1
    · rename_i fs kk S3 h1 h3
      split at p1
      · rename_i hz
        rw [Bool.and_eq_true] at hz
        obtain ⟨z1, z2⟩ := hz
        obtain ⟨q1, dx, fv, x1, x2, x3⟩ := insOf_rep st1.ok r1 h1
        subst x1
        refine ⟨q1, dx, fv, rfl, x2, rfl, w1, [d1], S1, st1.ok, RepL.cons_ r1 RepL.nil_, ?_⟩
        rw [h3]
        intro w' H' v f k rv
        have ev : v = .int kk := rep_int (g := Y) (w := w') rv
        have zb := bBnd_iff.mp z2
        have z0 := of_decide_eq_true z1
        refine ⟨kk, ev, ⟨z0, ?_⟩, p1 w' H' (st1.after f k) f.le _ rep_int'⟩
        omega
      · exact False.elim p1
    · exact False.elim p1)⟩
end
end Mm
namespace Mm
open PySem PySem.Spec PyProof.Rows L2
def eStep (mc : MFn) (p : Nat) (m1 m2 me : ME) : ME := fun env S => (m1 env S).bind fun d1 S1 => (m2 env S1).bind fun d2 S2 => match d2 with
  | .non => (match mc [d1] S2 with
    | .ok (.own c) S3 => (match me ((wipeE env []).set p (.v (.ref S3.length))) (S3 ++ [c]) with
      | .ok d S4 => .ok (.tup [.ref S3.length, .tup [.str "told", d]]) S4
      | _ => .stuck)
    | _ => .stuck)
  | .tup ds => .ok (.tup [d1, .tup ds]) S2
  | _ => .stuck
end Mm
namespace Mm
open PySem L2
@[simp] theorem eFmt_eq (m : ME) (env : Envr) (S : Sto) : eFmt m env S = (m env S).bind fun d S1 => match d with
  | .str y => if szB y.length then .ok (.str y) S1 else .stuck
  | .int i => if decide (i.natAbs.log2 < 1920) then .ok (.str (toString i)) S1 else .stuck
  | _ => .stuck := rfl
@[simp] theorem eFs_nil (acc : Str) (env : Envr) (S : Sto) : eFs [] acc env S = .ok (.str acc) S := rfl
@[simp] theorem eFs_cons (m : ME) (ms : List ME) (acc : Str) (env : Envr) (S : Sto) : eFs (m :: ms) acc env S = (m env S).bind fun d S1 => match d with
  | .str y => if szB (acc ++ y).length then eFs ms (acc ++ y) env S1 else .stuck
  | _ => .stuck := rfl
@[simp] theorem fSortedD_eq (S : Sto) (d : D) : fSortedD S [d] = (dicOf S d).bind fun ks => (txtsK ks).bind fun xs => if xs.length < 64 then some (.lst ((srtX xs).map D.str)) else none := rfl
@[simp] theorem eReprO_eq (c : Str) (f : MFn) (ma : ME) (env : Envr) (S : Sto) : eReprO c f ma env S = (ma env S).bind fun d1 S1 => match insOf c S1 d1, f [d1] S1 with
  | some _, .ok (.val (.str k)) S3 => .ok (.str k) S3
  | _, _ => .stuck := rfl
@[simp] theorem eLenOw_eq (c : Str) (f : MFn) (ma : ME) (env : Envr) (S : Sto) : eLenOw c f ma env S = (ma env S).bind fun d1 S1 => match insOf c S1 d1, f [d1] S1 with
  | some _, .ok (.val (.int i)) S3 => if decide (0 ≤ i) && bBnd i 9223372036854775807 then .ok (.int i) S3 else .stuck
  | _, _ => .stuck := rfl
end Mm
namespace Fb
open PySem L2 Mm
noncomputable def m_BodyU_lenU : MFn := mFn 1 (sRet (eCB fLenD (aCons (eFld "Body" "tables" (eV 0)) aNil)))
noncomputable def m_Body_stored : MFn := mFn 1 (sRetF (fCB fSortedD (aCons (eFld "Body" "store" (eV 0)) aNil)))
noncomputable def m_Body_names : MFn := mFn 1 (sRetF (fCB fSortedD (aCons (eFld "Body" "tables" (eV 0)) aNil)))
noncomputable def m_BodyU_reprU : MFn := mFn 1 (sRet (eFs [(eC (.str "Body(")), (eFmt (eOp iShl (eC (.int 1)) (eOp dAdd (eOp fIx (eFld "Body" "wide" (eV 0)) (eC (.int 0))) (eOp fIx (eFld "Body" "wide" (eV 0)) (eC (.int 1)))))), (eC (.str " berths, ")), (eFmt (eCB fLenD (aCons (eFld "Body" "tables" (eV 0)) aNil))), (eC (.str " tables)"))] Str.empty))
end Fb
namespace Fb
open PySem L2 Mm Gf
def plainN : Nat → D → Bool
  | 0, _ => false
  | _ + 1, .int _ => true
  | _ + 1, .bl _ => true
  | _ + 1, .non => true
  | _ + 1, .str s => PyData.strOk s
  | n + 1, .lst ds => decide (ds.length ≤ 1000) && ds.all (plainN n)
  | n + 1, .tup ds => decide (ds.length ≤ 1000) && ds.all (plainN n)
  | _, _ => false
theorem zip_self {α : Type} : ∀ {xs : List α} {p : α × α}, p ∈ xs.zip xs → p.1 = p.2 ∧ p.1 ∈ xs
  | [], p, h => by simp at h
  | x :: xs, p, h => by
    rw [List.zip_cons_cons, List.mem_cons] at h
    rcases h with rfl | h
    · exact ⟨rfl, List.mem_cons_self⟩
    · obtain ⟨a, b⟩ := zip_self h
      exact ⟨a, List.mem_cons_of_mem _ b⟩
theorem same_str (n : Nat) (S : Sto) {x : Str} (h : PyData.strOk x = true) : m__law_same (n + 1) [.str x, .str x] S = .ok (.val (.bl true)) S := by
  have e := fEq_str S h h
  simp [m__law_same, szB, e]
theorem same_non (n : Nat) (S : Sto) : m__law_same (n + 1) [.non, .non] S = .ok (.val (.bl true)) S := by
  have e : fEq S .non .non = some (.bl true) := rfl
  simp [m__law_same, szB, e]
theorem same_tupT (n : Nat) (S : Sto) (xs ys : List D) (hl : xs.length = ys.length) (hz : xs.length ≤ 100000) (h : ∀ p ∈ xs.zip ys, m__law_same n [p.1, p.2] S = .ok (.val (.bl true)) S) : m__law_same (n + 1) [.tup xs, .tup ys] S = .ok (.val (.bl true)) S := by
  have lc := same_each n S xs ys (.tup xs) (.tup ys) h
  have sz := szB_of (n := min xs.length ys.length) (by omega)
  have two := szB_of (n := 2) (by decide)
  have fa : fAll S [.lst ((xs.zip ys).map fun _ => D.bl true)] = some (.bl true) := by
    have := fAll_eq S ((xs.zip ys).map fun _ => true)
    rw [List.map_map] at this
    have this : fAll S [.lst ((xs.zip ys).map fun _ => D.bl true)] = _ := this
    rw [this]
    simp
  have e : (itZA (aCons (eV 0) (aCons (eV 1) aNil))) [.v (.tup xs), .v (.tup ys), .no, .no] S = .ok (zipD xs ys) S := rfl
  have body : (fLc (itZA (aCons (eV 0) (aCons (eV 1) aNil))) (gT (gNC (gN 2) (gNC (gN 3) gN0))) cYes (eCall (m__law_same n) [] (aCons (eV 2) (aCons (eV 3) aNil))) [2, 3]) [.v (.tup xs), .v (.tup ys), .no, .no] S = .ok (.lst ((xs.zip ys).map fun _ => D.bl true)) S := by
    rw [fLc_eq, e, bind_ok']
    erw [lc]
    rw [bind_ok', fin_eq, if_pos (by simpa using sz)]
  unfold m__law_same
  simp [-fLc_eq, two, hl, body, fa]
theorem same_refl (S : Sto) : ∀ (n : Nat) (d : D), plainN n d = true → m__law_same n [d, d] S = .ok (.val (.bl true)) S
  | 0, d, h => by cases d <;> cases h
  | n + 1, .int i, _ => by rw [same_int, decide_eq_true rfl]
  | n + 1, .bl i, _ => by rw [same_bl, decide_eq_true rfl]
  | n + 1, .non, _ => same_non n S
  | n + 1, .str s, h => same_str n S h
  | n + 1, .lst ds, h => by
    unfold plainN at h
    rw [Bool.and_eq_true, List.all_eq_true] at h
    refine same_listsT n S ds ds rfl (Nat.le_trans (of_decide_eq_true h.1) (by decide)) (fun p hp => ?_)
    obtain ⟨e, m⟩ := zip_self hp
    rw [← e]
    exact same_refl S n p.1 (h.2 _ m)
  | n + 1, .tup ds, h => by
    unfold plainN at h
    rw [Bool.and_eq_true, List.all_eq_true] at h
    refine same_tupT n S ds ds rfl (Nat.le_trans (of_decide_eq_true h.1) (by decide)) (fun p hp => ?_)
    obtain ⟨e, m⟩ := zip_self hp
    rw [← e]
    exact same_refl S n p.1 (h.2 _ m)
  | n + 1, .ins _ _, h => by unfold plainN at h; cases h
  | n + 1, .dic _, h => by unfold plainN at h; cases h
  | n + 1, .tdc _, h => by unfold plainN at h; cases h
  | n + 1, .tds _, h => by unfold plainN at h; cases h
  | n + 1, .ref _, h => by unfold plainN at h; cases h
  | n + 1, .scr _, h => by unfold plainN at h; cases h
  | n + 1, .ty _, h => by unfold plainN at h; cases h
  | n + 1, .cls _, h => by unfold plainN at h; cases h
  | n + 1, .adr _, h => by unfold plainN at h; cases h
  | n + 1, .set _, h => by unfold plainN at h; cases h
end Fb
namespace Mm
open PySem L2
@[simp] theorem fDispN_eq (ks : List (Str × ME)) (env : Envr) (S : Sto) : fDispN ks env S = if nodB (ks.map (·.1)) then (dispR ks (wipeE env []) S).bind fun ds S1 => .ok (.dic ds) S1 else .stuck := rfl
@[simp] theorem dispR_nil (env : Envr) (S : Sto) : dispR [] env S = .ok [] S := rfl
@[simp] theorem dispR_cons (k : Str) (m : ME) (r : List (Str × ME)) (env : Envr) (S : Sto) : dispR ((k, m) :: r) env S = (m env S).bind fun d S1 => (dispR r env S1).bind fun ds S2 => .ok ((.inr k, d) :: ds) S2 := rfl
@[simp] theorem eStep_eq (mc : MFn) (p : Nat) (m1 m2 me : ME) (env : Envr) (S : Sto) : eStep mc p m1 m2 me env S = (m1 env S).bind fun d1 S1 => (m2 env S1).bind fun d2 S2 => match d2 with
  | .non => (match mc [d1] S2 with
    | .ok (.own c) S3 => (match me ((wipeE env []).set p (.v (.ref S3.length))) (S3 ++ [c]) with
      | .ok d S4 => .ok (.tup [.ref S3.length, .tup [.str "told", d]]) S4
      | _ => .stuck)
    | _ => .stuck)
  | .tup ds => .ok (.tup [d1, .tup ds]) S2
  | _ => .stuck := rfl
@[simp] theorem sForD_eq (md : ME) (g : MG) (b : MS) (env : Envr) (S : Sto) : sForD md g b env S = (match md env S with
  | .ok (.ref n) _ => (match S[n]? with
    | some (.dic ks) => unlk n ((md (wipeE env []) (S.set n (.lck ks))).out (wipeE env []) fun d S1 => match d with
      | .ref m => if m = n then forL g b (keysV ks) (wipeE env []) S1 else .stuck
      | _ => .stuck)
    | _ => .stuck)
  | _ => .stuck) := rfl
end Mm
namespace Fb
open PySem L2 Mm
noncomputable def m__law_model : MFn := mFn 1 (sRetF (fDispN [("wide", (eV 0)), ("tables", (eCellOf fDic0)), ("store", (eCellOf fDic0)), ("paid", (eTup (aCons (eC (.int 0)) (aCons (eC (.int 0)) aNil))))]))
noncomputable def m__law_new_name : MFn := mFn 1 (sRet (eCall m__law_of [] (aCons (eV 0) (aCons (mFrz (fLst (aCons (eC (.str "a")) (aCons (eC (.str "box")) (aCons (eC (.str "c")) (aCons (eC (.str "ab")) (aCons (eC (.str "azzzzz")) (aCons (eC (.str "zzzzzz")) (aCons (eC (.str "zzzzzy")) (aCons (eC (.str "lane")) aNil)))))))))) aNil))))
noncomputable def m__law_lay : MFn := mFn 3 (sSeq (sAsg (eCB fMin2 (aCons (eV 1) (aCons (eCall m__law_of [] (aCons (eV 0) (aCons (mFrz (fLst (aCons (eV 1) (aCons (eV 1) (aCons (eC (.int 2)) (aCons (eC (.int 3)) (aCons (eC (.int 1)) (aCons (eC (.int 0)) (aCons (eC (.int 4)) aNil))))))))) aNil))) aNil))) (gN 2))
    (sRet (eTup (aCons (eC (.str "lay")) (aCons (eCall m__law_new_name [] (aCons (eV 0) aNil)) (aCons (eCall m__law_lines [] (aCons (eV 0) (aCons (eV 1) (aCons (eV 2) aNil)))) (aCons (eCall m__law_cells [] (aCons (eV 0) (aCons (eV 2) aNil))) aNil)))))))
noncomputable def m__law_deep : MFn := mFn 1 (sRet (eOp dAdd (eOp fIx (eDGetA 0 (eC (.str "wide"))) (eC (.int 0))) (eOp fIx (eDGetA 0 (eC (.str "wide"))) (eC (.int 1)))))
noncomputable def m__law_many : MFn := mFn 2 (sSeq (sAsg (eC (.int 0)) (gN 1))
    (sSeq (whL (cB (eOp iLt (eOp iShl (eC (.int 1)) (eV 1)) (eV 0))) (sAug 1 (fun i j => i + j) (eC (.int 1))) 100)
    (sRet (eV 1))))
noncomputable def m_Move_told : MFn := mFn 1 (sRet (eTup (aCons (eMeth "Fold" "rows" m_Fold_rows [] (eFld "Move" "aim" (eV 0)) aNil) (aCons (eFld "Move" "done" (eV 0)) (aCons (eFld "Move" "left" (eV 0)) aNil)))))
noncomputable def m_Body_moving : MFn := mFn 3 (sSeq (sAsg (eFld "Table" "move" (eMeth "Body" "need" m_Body_need [] (eV 0) (aCons (eV 1) aNil))) (gN 2))
    (sRet (eIf (cB (eOp fIs (eV 2) (eC .non))) (eC .non) (eMeth "Move" "told" m_Move_told [] (eV 2) aNil))))
noncomputable def m__law_shelves : MFn := mFn 10 (sSeq (sAsg (eDGet (eDGetA 0 (eC (.str "store"))) (eV 1)) (gT (gNC (gN 2) (gNC (gN 3) gN0))))
    (sSeq (sAsg (mFrz (fLc (itR1 (aCons (eCB fLen (aCons (eV 3) aNil)) aNil)) (gN 7) cYes (eCall m__law_to [] (aCons (eV 2) (aCons (eV 7) aNil))) [7])) (gN 4))
    (sSeq (sOwn 5 (fLst aNil))
    (sSeq (sFor (itR1 (aCons (eOp iShl (eC (.int 1)) (eOp fIx (eDGetA 0 (eC (.str "wide"))) (eC (.int 2)))) aNil)) (gN 6) (sApp 5 (mFrz (fLc (itZA (aCons (eV 3) (aCons (eV 4) aNil))) (gT (gNC (gN 8) (gNC (gN 9) gN0))) (cB (eOp fEq (eV 9) (eV 6))) (eV 8) [8, 9]))))
    (sRetO 5)))))
noncomputable def m_Body_need_stash : MFn := mFn 2 (sSeq (sIf (cB (eDIn true (eV 1) (eFld "Body" "store" (eV 0)))) (sRaiseF "NoStash" (eV 1)) sNil)
    (sRet (eDGet (eFld "Body" "store" (eV 0)) (eV 1))))
noncomputable def m_Body_folding : MFn := mFn 2 (sRet (eOp fIx (eMeth "Body" "need_stash" m_Body_need_stash [] (eV 0) (aCons (eV 1) aNil)) (eC (.int 0))))
noncomputable def m_Body_shelf : MFn := mFn 7 (sSeq (sAsg (eMeth "Body" "need_stash" m_Body_need_stash [] (eV 0) (aCons (eV 1) aNil)) (gT (gNC (gN 3) (gNC (gN 4) gN0))))
    (sSeq (sIf (cOr (cB (eOp iLt (eV 2) (eC (.int 0)))) (cB (eOp iGt (eOp iShr (eV 2) (eOp fIx (eFld "Body" "wide" (eV 0)) (eC (.int 2)))) (eC (.int 0))))) (sRaise "NoBank") sNil)
    (sRetF (fLc (itES (aCons (eV 4) aNil)) (gT (gNC (gN 5) (gNC (gN 6) gN0))) (cB (eOp fEq (eCall m_picked [] (aCons (eV 3) (aCons (eV 5) aNil))) (eV 2))) (eV 6) [5, 6]))))
noncomputable def m__law_stands : MFn := mFn 11 (sSeq (sAsg (mFrz (fCB fSortedD (aCons (eDGetA 1 (eC (.str "tables"))) aNil))) (gN 2))
    (sSeq (sAsg (mFrz (fLst (aCons (eMeth "Body" "names" m_Body_names [] (eV 0) aNil) (aCons (eMeth "Body" "stored" m_Body_stored [] (eV 0) aNil) (aCons (eMeth "Body" "paid" m_Body_paid [] (eV 0) aNil) (aCons (eLenOw "Body" m_BodyU_lenU (eV 0)) aNil)))))) (gN 3))
    (sSeq (sIf (cNot (cB (eCall (m__law_same 4) [] (aCons (eV 3) (aCons (mFrz (fLst (aCons (eV 2) (aCons (mFrz (fCB fSortedD (aCons (eDGetA 1 (eC (.str "store"))) aNil))) (aCons (eDGetA 1 (eC (.str "paid"))) (aCons (eCB fLen (aCons (eV 2) aNil)) aNil)))))) aNil))))) (sRet (eC (.bl false))) sNil)
    (sSeq (sAsg (eOp iShl (eC (.int 1)) (eCall m__law_deep [] (aCons (eV 1) aNil))) (gN 4))
    (sSeq (sIf (cB (eOp fNe (eReprO "Body" m_BodyU_reprU (eV 0)) (eOp fAddS (eOp fAddS (eOp fAddS (eOp fAddS (eC (.str "Body(")) (eCB fStrI (aCons (eV 4) aNil))) (eC (.str " berths, "))) (eCB fStrI (aCons (eCB fLen (aCons (eV 2) aNil)) aNil))) (eC (.str " tables)"))))) (sRet (eC (.bl false))) sNil)
    (sSeq (sFor (itL (eV 2)) (gN 5) (sSeq (sAsg (eDGet (eDGetA 1 (eC (.str "tables"))) (eV 5)) (gT (gNC (gN 6) (gNC (gN 7) (gNC (gN 8) gN0)))))
    (sSeq (sAsg (mFrz (fLst (aCons (eMeth "Body" "rows" m_Body_rows [] (eV 0) (aCons (eV 5) aNil)) (aCons (eMeth "Body" "cells" m_Body_cells [] (eV 0) (aCons (eV 5) aNil)) (aCons (eMeth "Body" "moving" m_Body_moving [] (eV 0) (aCons (eV 5) aNil)) aNil))))) (gN 3))
    (sIf (cNot (cB (eCall (m__law_same 4) [] (aCons (eV 3) (aCons (mFrz (fLst (aCons (eV 6) (aCons (mFrz (fCB fListOf (aCons (eV 7) aNil))) (aCons (eV 8) aNil))))) aNil))))) (sRet (eC (.bl false))) sNil))))
    (sSeq (sForD (eDGetA 1 (eC (.str "store"))) (gN 5) (sSeq (sAsg (eCall m__law_shelves [] (aCons (eV 1) (aCons (eV 5) aNil))) (gN 9))
    (sSeq (sIf (cNot (cB (eCall (m__law_same 4) [] (aCons (eMeth "Body" "folding" m_Body_folding [] (eV 0) (aCons (eV 5) aNil)) (aCons (eOp fIx (eDGet (eDGetA 1 (eC (.str "store"))) (eV 5)) (eC (.int 0))) aNil))))) (sRet (eC (.bl false))) sNil)
    (sIf (cNot (cB (eCall (m__law_same 4) [] (aCons (mFrz (fLc (itR1 (aCons (eCB fLen (aCons (eV 9) aNil)) aNil)) (gN 10) cYes (eMeth "Body" "shelf" m_Body_shelf [] (eV 0) (aCons (eV 5) (aCons (eV 10) aNil))) [10])) (aCons (eV 9) aNil))))) (sRet (eC (.bl false))) sNil))))
    (sRet (eC (.bl true))))))))))
noncomputable def m_Body_ready : MFn := mFn 4 (sSeq (sAsg (eMeth "Body" "need" m_Body_need [] (eV 0) (aCons (eV 1) aNil)) (gN 2))
    (sSeq (sIf (cB (eOp fIs (eFld "Table" "move" (eV 2)) (eC .non))) (sRaise "NotMoving") sNil)
    (sRetF (fLc (itR1 (aCons (eCB fLen (aCons (eFld "Table" "grip" (eV 2)) aNil)) aNil)) (gN 3) (cB (eMeth "Move" "is_ready" m_Move_is_ready [] (eFld "Table" "move" (eV 2)) (aCons (eV 3) aNil))) (eV 3) [3]))))
noncomputable def m__law_held_right : MFn := mFn 12 (sSeq (sFor (itL (mFrz (fCB fSortedD (aCons (eDGetA 1 (eC (.str "tables"))) aNil)))) (gN 2) (sSeq (sAsg (eDGet (eDGetA 1 (eC (.str "tables"))) (eV 2)) (gT (gNC (gN 3) (gNC (gN 4) (gNC (gN 5) gN0)))))
    (sSeq (sOwn 6 (fLc (itL (eCall m__law_images [] (aCons (eV 3) aNil))) (gN 10) cYes (eOp fIx (eV 4) (eV 10)) [10]))
    (sSeq (sIf (cB (eOp fIsNot (eV 5) (eC .non))) (sSeq (sAsg (eCall m__law_swings [] (aCons (eV 3) (aCons (eOp fIx (eV 5) (eC (.int 0))) (aCons (eOp fIx (eDGetA 1 (eC (.str "wide"))) (eC (.int 0))) aNil)))) (gN 7))
    (sSeq (sAsg (mFrz (fLc (itES (aCons (eV 7) aNil)) (gT (gNC (gN 9) (gNC (gN 11) gN0))) (cB (eOp (fIn true) (eV 11) (eOp fIx (eV 5) (eC (.int 2))))) (eV 9) [9, 11])) (gN 8))
    (sSeq (sIf (cNot (cB (eCall (m__law_same 4) [] (aCons (eMeth "Body" "ready" m_Body_ready [] (eV 0) (aCons (eV 2) aNil)) (aCons (eV 8) aNil))))) (sRet (eC (.bl false))) sNil)
    (sFor (itES (aCons (eCall m__law_images [] (aCons (eOp fIx (eV 5) (eC (.int 0))) aNil)) aNil)) (gT (gNC (gN 9) (gNC (gN 10) gN0))) (sPut 6 (eV 9) (eIf (cB (eOp (fIn false) (eV 9) (eV 8))) (eOp fIx (eV 4) (eV 10)) (eIxA 6 (eV 9)))))))) sNil)
    (sFrz 6 (sIf (cNot (cB (eCall (m__law_same 4) [] (aCons (mFrz (fLc (itR1 (aCons (eLenA 6) aNil)) (gN 9) cYes (eMeth "Body" "held" m_Body_held [] (eV 0) (aCons (eV 2) (aCons (eV 9) aNil))) [9])) (aCons (eV 6) aNil))))) (sRet (eC (.bl false))) sNil))))))
    (sRet (eC (.bl true))))
end Fb
namespace Mm
open PySem L2
def ItRF (g : Gam) (w1 : Wd) (H1 : Hp) (J : It) (ds : List D) : Prop := ∀ w H, Frame w1 H1 w H → Same w.G H →
  (∀ (i : Nat) d, ds[i]? = some d → J.go i H ∧ ∀ x H', J.yld i H x H' → ∃ w', Grow w H w' H' ∧ Rep g w' d x) ∧ J.stop ds.length H
def SimIF (g : Gam) (W : WX) (wi : TI) (m : MI) : Prop := ∀ w0 H0 w H σ env S O (Q : It → Hp → Prop), StR g w0 H0 w H σ env S O →
  PostX g W w0 H0 w σ env O (m env S) (fun ds _ w' H' => ∀ J, ItRF g w' H' J ds → Q J H') → wi σ H Q
end Mm
namespace Fb
open PySem L2 Mm
noncomputable def m_Body_berths : MFn := mFn 5 (sSeq (sAsg (eFld "Table" "spread" (eMeth "Body" "need" m_Body_need [] (eV 0) (aCons (eV 1) aNil))) (gN 3))
    (sSeq (sIf (cOr (cB (eOp iLt (eV 2) (eC (.int 0)))) (cB (eOp iGt (eOp iShr (eV 2) (eMeth "Fold" "size" m_Fold_size [] (eV 3) aNil)) (eC (.int 0))))) (sRaise "NoCell") sNil)
    (sRetF (fLc (itR1 (aCons (eOp iShl (eC (.int 1)) (eMeth "Fold" "many" m_Fold_many [] (eV 3) aNil)) aNil)) (gN 4) (cB (eOp fEq (eMeth "Fold" "to" m_Fold_to [] (eV 3) (aCons (eV 4) aNil)) (eV 2))) (eV 4) [4]))))
end Fb
namespace Mm
open PySem L2
def forLive (g : MG) (b : MS) (n : Nat) : Nat → Nat → MS
  | 0, _, _, _ => .stuck
  | m + 1, i, env, S => match S[n]? with
    | some (.lst ds) => (match ds[i]? with
      | none => .nx env S
      | some d => (match g d env with
        | none => .stuck
        | some e1 => (match b e1 S with
          | .nx e S1 => forLive g b n m (i + 1) e S1
          | .ct e S1 => forLive g b n m (i + 1) e S1
          | .bk e S1 => .nx e S1
          | o => o)))
    | _ => .stuck
def sForA (me : ME) (g : MG) (b : MS) : MS := fun env S => (me env S).out env fun d S1 => match d with
  | .lst ds => forL g b ds env S1
  | .tup ds => forL g b ds env S1
  | .ref n => forLive g b n 100001 0 env S1
  | _ => .stuck
section
variable {X : Cx} {Y : Gam} {W : WX} {te : TE} {me : ME} {t1 : TS} {m1 : MS} {is : List Nat} {tg : TG} {mg : MG} {iter tgE : Expr} {body : List Stmt} {pos : Pos}
theorem for_in {g : Gam} (hg : SimG g is tg mg) (hb : SimS g W t1 m1) {w0 w1 : Wd} {H0 H1 : Hp} {σ : L2.St} {env : Envr} {S1 : Sto} {O : List (Option Addr)} {Dn : Ends} {J : It} {ds : List D} (hJ : ItR g w1 J ds) (st1 : StR g w0 H0 w1 H1 σ env S1 O) (p1 : PostS g W w0 H0 w1 Dn (forL mg m1 ds env S1)) :
    ∃ Wm : Nat → Nat → L2.St → Hp → Prop, (∃ m, Wm 0 m σ H1) ∧ ∀ i m σ H, Wm i m σ H → (J.stop i H ∧ Dn.nx σ H) ∨ (J.go i H ∧ ∃ N : L2.St → Hp → Prop, (∀ σ' H', N σ' H' → ∃ m', m' < m ∧ Wm (i + 1) m' σ' H') ∧ ∀ x H', J.yld i H x H' → tg x σ H' fun σ2 H2 => t1 { Dn with nx := N, ct := N, bk := Dn.nx } σ2 H2) := by
  refine ⟨fun i m σ H => m + i = ds.length ∧ ∃ w env S O, StR g w0 H0 w H σ env S O ∧ w1.le w ∧ PostS g W w0 H0 w Dn (forL mg m1 (ds.drop i) env S), ⟨ds.length, by omega, w1, env, S1, O, st1, .refl w1, p1⟩, ?_⟩
  rintro i k σ2 H2 ⟨hk, w2, env2, S2, O2, st2, l2, p2⟩
  obtain ⟨hgo, hstop⟩ := hJ w2 H2 l2 st2.ok.ex
  by_cases hlt : i < ds.length
  · have ed : ds.drop i = ds[i] :: ds.drop (i + 1) := List.drop_eq_getElem_cons hlt
    obtain ⟨go, yld⟩ := hgo i ds[i] (List.getElem?_eq_getElem hlt)
    refine .inr ⟨go, fun σ' H' => ∃ w env S O, StR g w0 H0 w H' σ' env S O ∧ w1.le w ∧ PostS g W w0 H0 w Dn (forL mg m1 (ds.drop (i + 1)) env S), fun σ' H' h' => ⟨k - 1, by omega, by omega, h'⟩, fun x H' hy => ?_⟩
    obtain ⟨w3, gr, rx⟩ := yld x H' hy
    have st3 := st2.grow gr
    have l3 := gr.le st2.ok
    rw [ed] at p2
    unfold forL at p2
    cases z : mg ds[i] env2 with
    | none => rw [z] at p2; exact False.elim p2
    | some e1 =>
      rw [z] at p2
      refine hg w0 H0 w3 H' σ2 env2 S2 O2 ds[i] x _ e1 st3 rx z fun σ4 O4 st4 _ => ?_
      refine hb w0 H0 w3 H' σ4 e1 S2 O4 _ st4 ?_
      have p2 : PostS g W w0 H0 w2 Dn (match m1 e1 S2 with
        | .nx e S1 => forL mg m1 (ds.drop (i + 1)) e S1
        | .ct e S1 => forL mg m1 (ds.drop (i + 1)) e S1
        | .bk e S1 => .nx e S1
        | o => o) := p2
      cases y : m1 e1 S2 with
      | stuck => rw [y] at p2; exact p2
      | nx e S5 => rw [y] at p2; exact fun w' H' σ' O' st' l' => ⟨w', e, S5, O', st', (l2.trans l3).trans l', p2.mono (l3.trans l')⟩
      | ct e S5 => rw [y] at p2; exact fun w' H' σ' O' st' l' => ⟨w', e, S5, O', st', (l2.trans l3).trans l', p2.mono (l3.trans l')⟩
      | bk e S5 => rw [y] at p2; exact fun w' H' σ' O' st' l' => p2 w' H' σ' O' st' (l3.trans l')
      | rt r S5 => rw [y] at p2; exact p2
      | exc c q e S5 => rw [y] at p2; exact fun w' H' σ' O' cls dd st' l' x => p2 w' H' σ' O' cls dd st' (l3.trans l') x
  · have ei : i = ds.length := by omega
    refine .inl ⟨by rw [ei]; exact hstop, ?_⟩
    have ed : ds.drop i = [] := by rw [ei]; exact List.drop_length
    rw [ed] at p2
    exact p2 w2 H2 σ2 O2 st2 (.refl w2)
theorem for_live {g : Gam} (hg : SimG g is tg mg) (hb : SimS g W t1 m1) {w0 w1 : Wd} {H0 H1 : Hp} {σ : L2.St} {env : Envr} {S1 : Sto} {O : List (Option Addr)} {Dn : Ends} {n : Nat} {a : Addr} (ha : w1.rho[n]? = some a) (st1 : StR g w0 H0 w1 H1 σ env S1 O) (p1 : PostS g W w0 H0 w1 Dn (forLive mg m1 n 100001 0 env S1)) :
    ∃ Wm : Nat → Nat → L2.St → Hp → Prop, (∃ m, Wm 0 m σ H1) ∧ ∀ i m σ H, Wm i m σ H → ((Itl g.K a).stop i H ∧ Dn.nx σ H) ∨ ((Itl g.K a).go i H ∧ ∃ N : L2.St → Hp → Prop, (∀ σ' H', N σ' H' → ∃ m', m' < m ∧ Wm (i + 1) m' σ' H') ∧ ∀ x H', (Itl g.K a).yld i H x H' → tg x σ H' fun σ2 H2 => t1 { Dn with nx := N, ct := N, bk := Dn.nx } σ2 H2) := by
  refine ⟨fun i m σ H => ∃ w env S O, StR g w0 H0 w H σ env S O ∧ w1.le w ∧ PostS g W w0 H0 w Dn (forLive mg m1 n m i env S), ⟨100001, w1, env, S1, O, st1, .refl w1, p1⟩, ?_⟩
  rintro i k σ2 H2 ⟨w2, env2, S2, O2, st2, l2, p2⟩
  cases k with
  | zero => exact False.elim p2
  | succ k =>
    unfold forLive at p2
    split at p2
    · rename_i ds hS
      obtain ⟨ww, vs, e4, e4'⟩ := st2.ok.cells.at_ n a _ (l2.get ha) hS
      have sq : SqL g.K H2 a vs := .inl (.inl e4)
      split at p2
      · rename_i hn
        have hlen : ds.length ≤ i := List.getElem?_eq_none_iff.mp hn
        exact .inl ⟨⟨vs, sq, by rw [← e4'.len]; exact hlen⟩, p2 w2 H2 σ2 O2 st2 (.refl w2)⟩
      · rename_i d hd
        obtain ⟨v, hv, rv⟩ := e4'.at_ hd
        refine .inr ⟨⟨vs, v, sq, hv⟩, fun σ' H' => ∃ w env S O, StR g w0 H0 w H' σ' env S O ∧ w1.le w ∧ PostS g W w0 H0 w Dn (forLive mg m1 n k (i + 1) env S), fun σ' H' h' => ⟨k, by omega, h'⟩, fun x H' hy => ?_⟩
        obtain ⟨eH, ex⟩ := hy
        have ex := ex vs sq
        rw [hv] at ex
        cases ex
        rw [eH]
        cases z : mg d env2 with
        | none => rw [z] at p2; exact False.elim p2
        | some e1 =>
          rw [z] at p2
          refine hg w0 H0 w2 H2 σ2 env2 S2 O2 d v _ e1 st2 rv z fun σ4 O4 st4 _ => ?_
          refine hb w0 H0 w2 H2 σ4 e1 S2 O4 _ st4 ?_
          have p2 : PostS g W w0 H0 w2 Dn (match m1 e1 S2 with
            | .nx e S1 => forLive mg m1 n k (i + 1) e S1
            | .ct e S1 => forLive mg m1 n k (i + 1) e S1
            | .bk e S1 => .nx e S1
            | o => o) := p2
          cases y : m1 e1 S2 with
          | stuck => rw [y] at p2; exact p2
          | nx e S5 => rw [y] at p2; exact fun w' H' σ' O' st' l' => ⟨w', e, S5, O', st', l2.trans l', p2.mono l'⟩
          | ct e S5 => rw [y] at p2; exact fun w' H' σ' O' st' l' => ⟨w', e, S5, O', st', l2.trans l', p2.mono l'⟩
          | bk e S5 => rw [y] at p2; exact fun w' H' σ' O' st' l' => p2 w' H' σ' O' st' l'
          | rt r S5 => rw [y] at p2; exact p2
          | exc c q e S5 => rw [y] at p2; exact p2
    · exact False.elim p2
theorem sim_forA (he : SimE Y W te me) (hg : SimG Y is tg mg) (hb : SimS Y W t1 m1) : SimS Y W (tFor (iSeq Y.K te) tg t1) (sForA me mg m1) := fun w0 H0 w H σ env S O Dn st p =>
  he w0 H0 w H σ env S O _ st ((PostS.out p).imp fun d S1 w1 H1 st1 l1 p1 v r => by
    cases d with
    | lst ds =>
      obtain ⟨a, vs, e1, e2, e3⟩ := rep_lst r
      exact ⟨a, e1, .inl ⟨⟨vs, .inl (.inl (st1.ok.ex _ _ e2))⟩, for_in hg hb (itR_list (g := Y) e2 e3) st1 p1⟩⟩
    | tup ds =>
      obtain ⟨a, vs, e1, e2, e3⟩ := rep_tup r
      exact ⟨a, e1, .inr ⟨⟨vs, same_sqT st1.ok.ex e2⟩, for_in hg hb (itR_tup (g := Y) e2 e3) st1 p1⟩⟩
    | ref n =>
      cases z : S1[n]? with
      | none =>
        have p1 : PostS Y W w0 H0 w1 Dn (forLive mg m1 n 100001 0 env S1) := p1
        unfold forLive at p1
        rw [z] at p1
        exact False.elim p1
      | some c =>
        have p1 : PostS Y W w0 H0 w1 Dn (forLive mg m1 n 100001 0 env S1) := p1
        cases c with
        | lst ds =>
          obtain ⟨a, vs, e1, e2, e3, e4⟩ := cell_lst st1.ok r z
          exact ⟨a, e1, .inl ⟨⟨vs, .inl (.inl e3)⟩, for_live hg hb e2 st1 p1⟩⟩
        | _ =>
          unfold forLive at p1
          rw [z] at p1
          exact False.elim p1
    | _ => exact False.elim p1)
theorem t_forA (hp : PassesOwn (model X.prog X.w) X.A X.env X.xe) (he : SE X Y W iter te me) (hg : SG X Y is tgE tg mg) (hb : SB X Y W body t1 m1) (hK : X.K = Y.K := by rfl) (hc : X.calm = true := by rfl)
    (hs : ∀ x, foldedSetIterable iter X.env x = pure x := by intro _; rfl) : SS X Y W (.For tgE iter body [] pos) (tFor (iSeq Y.K te) tg t1) (sForA me mg m1) := ⟨ps_for hp hc (hK ▸ pi_seq he.pe) hg.pg hb.pss hs, sim_forA he.sim hg.sim hb.sim⟩
@[simp] theorem sForA_eq (me : ME) (g : MG) (b : MS) (env : Envr) (S : Sto) : sForA me g b env S = (me env S).out env fun d S1 => match d with
  | .lst ds => forL g b ds env S1
  | .tup ds => forL g b ds env S1
  | .ref n => forLive g b n 100001 0 env S1
  | _ => .stuck := rfl
end
def fTupA : Sto → List D → Option D
  | S, [.ref n] => (match S[n]? with
    | some (.lst ds) => some (.tup ds)
    | _ => none)
  | S, ds => fTupOf S ds
theorem cd_tupA {g : Gam} : CallD g (fun xs H Q => ∃ p ys, xs = [.ref p] ∧ ((SqL g.K H p ys ∧ ∀ l, H l = none → Q (.ref l) (upd H l (.tup ys))) ∨ (SqT g.K H p ys ∧ Q (.ref p) H))) fTupA := fun w H S ds vs d Q k r e q => by
  unfold fTupA at e
  split at e
  · split at e
    · rename_i hS
      cases e
      obtain ⟨v, e1, e2⟩ := repL_one r
      obtain ⟨a, us, x1, _, x2, x3⟩ := cell_lst k e2 hS
      rw [x1] at e1
      exact ⟨a, us, e1, .inl ⟨.inl (.inl x2), fun l hl => q _ _ _ (Grow.one hl nt_tup) (rep_tup_new k hl x3)⟩⟩
    · cases e
  · exact cd_tup w H S _ vs d Q k r e q
end Mm
namespace Mm
open PySem PySem.Spec PyProof.Rows L2
section
variable {X : Cx} {Y : Gam} {W : WX} {e e2 : Expr} {t : TA} {m : MA} {p pos tpos : Pos} {elts : List Expr} {kk : Nat}
def D.seq : D → Option (Bool × List D)
  | .lst ds => some (true, ds)
  | .tup ds => some (false, ds)
  | _ => none
@[simp] theorem seq_lst (ds : List D) : (D.lst ds).seq = some (true, ds) := rfl
@[simp] theorem seq_tup (ds : List D) : (D.tup ds).seq = some (false, ds) := rfl
end
end Mm
namespace Mm
open PySem L2
mutual
def mapRef (f : Nat → Option D) : D → Option D
  | .lst ds => (mapRefL f ds).map .lst
  | .tup ds => (mapRefL f ds).map .tup
  | .ins c fs => (mapRefF f fs).map (.ins c)
  | .dic ks => (mapRefK f ks).map .dic
  | .ref n => f n
  | .non => some .non
  | .bl b => some (.bl b)
  | .int i => some (.int i)
  | .str x => some (.str x)
  | .scr ns => some (.scr ns)
  | .ty n => some (.ty n)
  | .cls c => some (.cls c)
  | .adr a => some (.adr a)
  | .set xs => some (.set xs)
  | .tdc ks => some (.tdc ks)
  | .tds ks => some (.tds ks)
  | .any => some .any
def mapRefL (f : Nat → Option D) : List D → Option (List D)
  | [] => some []
  | d :: ds => (mapRef f d).bind fun e => (mapRefL f ds).map (e :: ·)
def mapRefF (f : Nat → Option D) : List (Str × D) → Option (List (Str × D))
  | [] => some []
  | (x, d) :: ds => (mapRef f d).bind fun e => (mapRefF f ds).map ((x, e) :: ·)
def mapRefK (f : Nat → Option D) : List (Key × D) → Option (List (Key × D))
  | [] => some []
  | (x, d) :: ds => (mapRef f d).bind fun e => (mapRefK f ds).map ((x, e) :: ·)
end
def thF (S : Sto) : Nat → Nat → Option D
  | 0 => fun _ => none
  | j + 1 => fun n => (S[n]?).bind fun c => mapRef (thF S j) c.d
def thD (S : Sto) (d : D) : Option D := mapRef (thF S 3) d
def thV (S : Sto) : Sl → Sl
  | .v d => match thD S d with
    | some e => .v e
    | none => .no
  | _ => .no
noncomputable def thG (w : Wd) (H : Hp) : Hp := fun a => match w.G a with
  | some o => some o
  | none => open Classical in if a ∈ w.rho then H a else none
theorem thG_old {w : Wd} {H : Hp} {a : Addr} {o : HO} (h : w.G a = some o) : thG w H a = some o := by
  unfold thG
  rw [h]
theorem thG_cell {w : Wd} {H : Hp} {a : Addr} (h : w.G a = none) (m : a ∈ w.rho) : thG w H a = H a := by
  unfold thG
  rw [h]
  exact if_pos m
theorem thG_same {w : Wd} {H : Hp} : Same w.G (thG w H) := fun a o e => thG_old e
section
variable {g : Gam} {w : Wd} {H : Hp} {S : Sto}
def ThOk (g : Gam) (w : Wd) (H : Hp) (f : Nat → Option D) : Prop := ∀ n d, f n = some d → ∀ v, Rep g w (.ref n) v → Rep g ⟨[], thG w H⟩ d v
mutual
theorem mapRef_ok {f : Nat → Option D} (F : ThOk g w H f) : ∀ {d e : D}, mapRef f d = some e → ∀ {v : V}, Rep g w d v → Rep g ⟨[], thG w H⟩ e v
  | .lst ds, e, h, v, r => by
    unfold mapRef at h
    cases z : mapRefL f ds with
    | none => rw [z] at h; cases h
    | some es =>
      rw [z] at h
      cases h
      unfold Rep at r ⊢
      obtain ⟨a, vs, e1, e2, e3⟩ := r
      exact ⟨a, vs, e1, thG_old e2, mapRefL_ok F z e3⟩
  | .tup ds, e, h, v, r => by
    unfold mapRef at h
    cases z : mapRefL f ds with
    | none => rw [z] at h; cases h
    | some es =>
      rw [z] at h
      cases h
      unfold Rep at r ⊢
      obtain ⟨a, vs, e1, e2, e3⟩ := r
      exact ⟨a, vs, e1, e2.same thG_same, mapRefL_ok F z e3⟩
  | .ins c fs, e, h, v, r => by
    unfold mapRef at h
    cases z : mapRefF f fs with
    | none => rw [z] at h; cases h
    | some es =>
      rw [z] at h
      cases h
      unfold Rep at r ⊢
      obtain ⟨a, dx, gs, e1, e2, e3⟩ := r
      exact ⟨a, dx, gs, e1, thG_old e2, mapRefF_ok F z e3⟩
  | .dic ks, e, h, v, r => by
    unfold mapRef at h
    cases z : mapRefK f ks with
    | none => rw [z] at h; cases h
    | some es =>
      rw [z] at h
      cases h
      unfold Rep at r ⊢
      obtain ⟨a, vs, e1, e2, e3⟩ := r
      exact ⟨a, vs, e1, same_rd thG_same e2, mapRefK_ok F z e3⟩
  | .ref n, e, h, v, r => by
    unfold mapRef at h
    exact F n e h v r
  | .non, e, h, v, r => by unfold mapRef at h; cases h; unfold Rep at r ⊢; exact r
  | .bl b, e, h, v, r => by unfold mapRef at h; cases h; unfold Rep at r ⊢; exact r
  | .int b, e, h, v, r => by unfold mapRef at h; cases h; unfold Rep at r ⊢; exact r
  | .str b, e, h, v, r => by unfold mapRef at h; cases h; unfold Rep at r ⊢; exact r
  | .ty b, e, h, v, r => by unfold mapRef at h; cases h; unfold Rep at r ⊢; exact r
  | .cls b, e, h, v, r => by unfold mapRef at h; cases h; unfold Rep at r ⊢; exact r
  | .adr b, e, h, v, r => by unfold mapRef at h; cases h; unfold Rep at r ⊢; exact r
  | .scr ns, e, h, v, r => by
    unfold mapRef at h
    cases h
    unfold Rep at r ⊢
    obtain ⟨a, e1, e2⟩ := r
    exact ⟨a, e1, thG_same.seq e2⟩
  | .set xs, e, h, v, r => by
    unfold mapRef at h
    cases h
    unfold Rep at r ⊢
    obtain ⟨a, q, e1, e2, e3⟩ := r
    exact ⟨a, q, e1, thG_old e2, e3⟩
  | .any, e, h, v, r => by
    unfold mapRef at h
    cases h
    unfold Rep at r ⊢
    exact r
  | .tdc ks, e, h, v, r => by
    unfold mapRef at h
    cases h
    unfold Rep at r ⊢
    obtain ⟨a, e1, e2⟩ := r
    exact ⟨a, e1, thG_old e2⟩
  | .tds ks, e, h, v, r => by
    unfold mapRef at h
    cases h
    unfold Rep at r ⊢
    obtain ⟨a, e1, e2⟩ := r
    exact ⟨a, e1, thG_old e2⟩
theorem mapRefL_ok {f : Nat → Option D} (F : ThOk g w H f) : ∀ {ds es : List D}, mapRefL f ds = some es → ∀ {vs : List V}, RepL g w ds vs → RepL g ⟨[], thG w H⟩ es vs
  | [], es, h, vs, r => by
    unfold mapRefL at h
    cases h
    unfold RepL at r ⊢
    exact r
  | d :: ds, es, h, vs, r => by
    unfold mapRefL at h
    cases z : mapRef f d with
    | none => rw [z] at h; cases h
    | some e =>
      rw [z] at h
      cases z2 : mapRefL f ds with
      | none => rw [z2] at h; cases h
      | some es' =>
        rw [z2] at h
        cases h
        unfold RepL at r
        obtain ⟨v, vr, e1, e2, e3⟩ := r
        rw [e1]
        exact RepL.cons_ (mapRef_ok F z e2) (mapRefL_ok F z2 e3)
theorem mapRefF_ok {f : Nat → Option D} (F : ThOk g w H f) : ∀ {ds es : List (Str × D)}, mapRefF f ds = some es → ∀ {vs : List (Str × V)}, RepF g w ds vs → RepF g ⟨[], thG w H⟩ es vs
  | [], es, h, vs, r => by
    unfold mapRefF at h
    cases h
    unfold RepF at r ⊢
    exact r
  | (x, d) :: ds, es, h, vs, r => by
    unfold mapRefF at h
    cases z : mapRef f d with
    | none => rw [z] at h; cases h
    | some e =>
      rw [z] at h
      cases z2 : mapRefF f ds with
      | none => rw [z2] at h; cases h
      | some es' =>
        rw [z2] at h
        cases h
        unfold RepF at r ⊢
        obtain ⟨v, vr, e1, e2, e3⟩ := r
        exact ⟨v, vr, e1, mapRef_ok F z e2, mapRefF_ok F z2 e3⟩
theorem mapRefK_ok {f : Nat → Option D} (F : ThOk g w H f) : ∀ {ds es : List (Key × D)}, mapRefK f ds = some es → ∀ {vs : List (Key × V)}, RepK g w ds vs → RepK g ⟨[], thG w H⟩ es vs
  | [], es, h, vs, r => by
    unfold mapRefK at h
    cases h
    unfold RepK at r ⊢
    exact r
  | (x, d) :: ds, es, h, vs, r => by
    unfold mapRefK at h
    cases z : mapRef f d with
    | none => rw [z] at h; cases h
    | some e =>
      rw [z] at h
      cases z2 : mapRefK f ds with
      | none => rw [z2] at h; cases h
      | some es' =>
        rw [z2] at h
        cases h
        unfold RepK at r ⊢
        obtain ⟨v, vr, e1, e2, e3⟩ := r
        exact ⟨v, vr, e1, mapRef_ok F z e2, mapRefK_ok F z2 e3⟩
end
theorem cell_th {f : Nat → Option D} (F : ThOk g w H f) {a : Addr} (hG : w.G a = none) (ma : a ∈ w.rho) {c : Cell} {e : D} (q : CellR g w H a c) (h : mapRef f c.d = some e) : Rep g ⟨[], thG w H⟩ e (.ref a) := by
  have hc : ∀ {o : HO}, H a = some o → thG w H a = some o := fun q => (thG_cell hG ma).trans q
  cases c with
  | lst ds =>
    obtain ⟨vs, f1, f2⟩ := q
    have h : (mapRefL f ds).map .lst = some e := by unfold Cell.d mapRef at h; exact h
    cases z : mapRefL f ds with
    | none => rw [z] at h; cases h
    | some es =>
      rw [z] at h
      cases h
      unfold Rep
      exact ⟨a, vs, rfl, hc f1, mapRefL_ok F z f2⟩
  | ins c fs =>
    obtain ⟨dx, gs, f1, f2⟩ := q
    have h : (mapRefF f fs).map (.ins c) = some e := by unfold Cell.d mapRef at h; exact h
    cases z : mapRefF f fs with
    | none => rw [z] at h; cases h
    | some es =>
      rw [z] at h
      cases h
      unfold Rep
      exact ⟨a, dx, gs, rfl, hc f1, mapRefF_ok F z f2⟩
  | dic ks =>
    obtain ⟨gs, f1, f2⟩ := q
    have h : (mapRefK f ks).map .dic = some e := by unfold Cell.d mapRef at h; exact h
    cases z : mapRefK f ks with
    | none => rw [z] at h; cases h
    | some es =>
      rw [z] at h
      cases h
      unfold Rep
      exact ⟨a, gs, rfl, .inl (hc f1), mapRefK_ok F z f2⟩
  | mem ks =>
    have h : some D.any = some e := by unfold Cell.d mapRef at h; exact h
    cases h
    unfold Rep
    exact ⟨a, rfl⟩
  | lkl ks =>
    have h : some D.any = some e := by unfold Cell.d mapRef at h; exact h
    cases h
    unfold Rep
    exact ⟨a, rfl⟩
  | tdc ks =>
    have q : H a = some (.dT (tdV ks)) := q
    have h : some (D.tdc ks) = some e := by unfold Cell.d mapRef at h; exact h
    cases h
    unfold Rep
    exact ⟨a, rfl, hc q⟩
  | lck ks =>
    obtain ⟨o, gs, f1, f2⟩ := q
    have h : (mapRefK f ks).map .dic = some e := by unfold Cell.d mapRef at h; exact h
    cases z : mapRefK f ks with
    | none => rw [z] at h; cases h
    | some es =>
      rw [z] at h
      cases h
      unfold Rep
      exact ⟨a, gs, rfl, .inr ⟨o, hc f1⟩, mapRefK_ok F z f2⟩
theorem thF_ok (k : Ok g w H S) : ∀ j, ThOk g w H (thF S j)
  | 0 => fun n d h => nomatch h
  | j + 1 => fun n d h v r => by
    obtain ⟨a, e1, e2⟩ : ∃ a, w.rho[n]? = some a ∧ v = .ref a := by unfold Rep at r; exact r
    have h : (S[n]?).bind (fun c => mapRef (thF S j) c.d) = some d := h
    cases z : S[n]? with
    | none => rw [z] at h; cases h
    | some c =>
      rw [z] at h
      obtain ⟨q1, q2⟩ := k.cells.at_ n a c e1 z
      rw [e2]
      exact cell_th (thF_ok k j) q1 (List.mem_of_getElem? e1) q2 h
theorem thD_ok (k : Ok g w H S) {d e : D} (h : thD S d = some e) {v : V} (r : Rep g w d v) : Rep g ⟨[], thG w H⟩ e v := mapRef_ok (thF_ok k 3) h r
end
mutual
theorem mapRef_no {f : Nat → Option D} : ∀ {d : D}, noRef d = true → mapRef f d = some d
  | .lst ds, h => by unfold noRef at h; unfold mapRef; rw [mapRefL_no h]; rfl
  | .tup ds, h => by unfold noRef at h; unfold mapRef; rw [mapRefL_no h]; rfl
  | .ins c fs, h => by unfold noRef at h; unfold mapRef; rw [mapRefF_no h]; rfl
  | .dic ks, h => by unfold noRef at h; unfold mapRef; rw [mapRefK_no h]; rfl
  | .ref n, h => by unfold noRef at h; cases h
  | .non, _ => by unfold mapRef; rfl
  | .bl _, _ => by unfold mapRef; rfl
  | .int _, _ => by unfold mapRef; rfl
  | .str _, _ => by unfold mapRef; rfl
  | .scr _, _ => by unfold mapRef; rfl
  | .ty _, _ => by unfold mapRef; rfl
  | .cls _, _ => by unfold mapRef; rfl
  | .adr _, _ => by unfold mapRef; rfl
  | .set _, _ => by unfold mapRef; rfl
  | .tdc _, _ => by unfold mapRef; rfl
  | .tds _, _ => by unfold mapRef; rfl
  | .any, _ => by unfold mapRef; rfl
theorem mapRefL_no {f : Nat → Option D} : ∀ {ds : List D}, noRefL ds = true → mapRefL f ds = some ds
  | [], _ => by unfold mapRefL; rfl
  | d :: ds, h => by
    unfold noRefL at h
    rw [Bool.and_eq_true] at h
    unfold mapRefL
    rw [mapRef_no h.1, mapRefL_no h.2]
    rfl
theorem mapRefF_no {f : Nat → Option D} : ∀ {ds : List (Str × D)}, noRefF ds = true → mapRefF f ds = some ds
  | [], _ => by unfold mapRefF; rfl
  | (_, d) :: ds, h => by
    unfold noRefF at h
    rw [Bool.and_eq_true] at h
    unfold mapRefF
    rw [mapRef_no h.1, mapRefF_no h.2]
    rfl
theorem mapRefK_no {f : Nat → Option D} : ∀ {ds : List (Key × D)}, noRefK ds = true → mapRefK f ds = some ds
  | [], _ => by unfold mapRefK; rfl
  | (_, d) :: ds, h => by
    unfold noRefK at h
    rw [Bool.and_eq_true] at h
    unfold mapRefK
    rw [mapRef_no h.1, mapRefK_no h.2]
    rfl
end
end Mm
namespace Mm
open PySem L2
section
variable {g : Gam} {w w2 : Wd} {H H2 : Hp} {S S2 : Sto}
theorem th_sub (k : Ok g w H S) : Same (thG w H) H := fun a o e => by
  cases z : w.G a with
  | some o' =>
    rw [thG_old z] at e
    rw [← e]
    exact k.ex a o' z
  | none =>
    unfold thG at e
    rw [z] at e
    have e : (open Classical in if a ∈ w.rho then H a else none) = some o := e
    split at e
    · exact e
    · cases e
theorem th_nt (k : Ok g w H S) : ∀ a ps, thG w H a ≠ some (.tbl ps) := fun a ps e => by
  cases z : w.G a with
  | some o' =>
    rw [thG_old z] at e
    rw [e] at z
    exact k.notab a ps z
  | none =>
    by_cases m : a ∈ w.rho
    · obtain ⟨n, hn⟩ := List.getElem?_of_mem m
      have ln : n < S.length := by
        rw [← k.cells.len]
        exact (List.getElem?_eq_some_iff.mp hn).1
      obtain ⟨q1, q2⟩ := k.cells.at_ n a S[n] hn (List.getElem?_eq_getElem ln)
      obtain ⟨x, q3, q4⟩ := q2.some_
      rw [th_sub k a _ e] at q3
      cases q3
      exact q4 ps rfl
    · unfold thG at e
      rw [z] at e
      have e : (open Classical in if a ∈ w.rho then H a else none) = some (.tbl ps) := e
      rw [if_neg m] at e
      cases e
theorem th_ok (k : Ok g w H S) : Ok g ⟨[], thG w H⟩ H [] := ⟨th_sub k, ⟨fun i j a h _ => by simp at h, rfl, fun n a c h _ => by simp at h⟩, k.tabs, th_nt k⟩
end
end Mm
namespace Mm
open PySem L2
def eKV (mk mv : ME) : ME := fun env S => (mk env S).bind fun k S1 => match keyD k with
  | some _ => (mv env S1).bind fun v S2 => .ok (.tup [k, v]) S2
  | none => .stuck
def kvsOf : List D → List (Key × D) → Option (List (Key × D))
  | [], acc => some acc
  | .tup [k, v] :: ds, acc => (match keyD k with
    | some kk => kvsOf ds (putD acc kk v)
    | none => none)
  | _ :: _, _ => none
theorem putD_le (ks : List (Key × D)) (k : Key) (d : D) : ks.length ≤ (putD ks k d).length := by
  unfold putD
  split
  · rw [List.length_map]
    exact Nat.le_refl _
  · simp
theorem kvsOf_le : ∀ {ds : List D} {acc ks : List (Key × D)}, kvsOf ds acc = some ks → acc.length ≤ ks.length
  | [], acc, ks, h => by
    unfold kvsOf at h
    cases h
    exact Nat.le_refl _
  | d :: ds, acc, ks, h => by
    cases d with
    | tup xs =>
      match xs, h with
      | [k, v], h =>
        unfold kvsOf at h
        cases z : keyD k with
        | none => rw [z] at h; cases h
        | some kk =>
          rw [z] at h
          exact Nat.le_trans (putD_le acc kk v) (kvsOf_le h)
      | [], h => unfold kvsOf at h; cases h
      | [_], h => unfold kvsOf at h; cases h
      | _ :: _ :: _ :: _, h => unfold kvsOf at h; cases h
    | _ => unfold kvsOf at h; cases h
def finDc (acc : List (Key × D)) (ys : List D) (S : Sto) : R D := match kvsOf ys acc with
  | some ks => if decide (ks.length ≤ 1000) then .ok (.dic ks) S else .stuck
  | none => .stuck
def eDc (mi : MI) (g : MG) (tt : MT) (mk mv : ME) (vs : List Nat) : ME := fun env S => (mi env S).bind fun ds S1 => (lcR g tt (eKV mk mv) (wipeE env vs) ds S1).bind (finDc [])
section
variable {X : Cx} {Y : Gam} {W : WX} {e a b c tg iter elt kx vx : Expr} {es rest ifs : List Expr} {ta tb te tk tv : TE} {tt tu : TT} {ma mb me mk mv : ME} {mt mu : MT} {mf : MF} {t : TA} {m : MA} {pos : Pos} {wi : TI} {mi : MI} {scope : Scope} {own : List (Str × Nat)} {is : List Nat} {g : TG} {mg : MG}
theorem ok_updK {g : Gam} {w : Wd} {H : Hp} {S : Sto} {p : Addr} {vs : List (Key × V)} {o : HO} (k : Ok g w H S) (e : H p = some (.dK vs)) (hg : w.G p = none) (hr : p ∉ w.rho) : Ok g w (upd H p o) S := by
  refine ⟨fun b u q => ?_, ⟨k.cells.nd, k.cells.len, fun m b q e9 e10 => ?_⟩, tabs_upd k.tabs (fun ps z => by rw [e] at z; cases z) (fun φ _ z => by rw [e] at z; cases z), k.notab⟩
  · rw [upd_ne (fun z => by rw [z, hg] at q; cases q)]
    exact k.ex b u q
  · obtain ⟨q1, q2⟩ := k.cells.at_ m b q e9 e10
    exact ⟨q1, q2.move (.refl w) (upd_ne fun z => hr (by rw [← z]; exact List.mem_of_getElem? e9))⟩
end
@[simp] theorem eDc_eq (mi : MI) (g : MG) (tt : MT) (mk mv : ME) (vs : List Nat) (env : Envr) (S : Sto) : eDc mi g tt mk mv vs env S = (mi env S).bind fun ds S1 => (lcR g tt (eKV mk mv) (wipeE env vs) ds S1).bind (finDc []) := rfl
@[simp] theorem eKV_eq (mk mv : ME) (env : Envr) (S : Sto) : eKV mk mv env S = (mk env S).bind fun k S1 => match keyD k with
  | some _ => (mv env S1).bind fun v S2 => .ok (.tup [k, v]) S2
  | none => .stuck := rfl
end Mm
namespace Fb
open PySem L2 Mm Gf
structure E4 where
  name : Str
  A : List Nat
  v : Nat
  cs : List Int
def mTb (e : E4) : D := .tup [.tup (nl e.A), .lst (e.cs.map D.int), .non]
def kTs (f : E4 → D) (T : List E4) : List (Key × D) := T.map fun e => (.inr e.name, f e)
abbrev bTs (T : List E4) : List (Key × D) := kTs (fun e => tab e.A e.v e.cs) T
abbrev mTs (T : List E4) : List (Key × D) := kTs mTb T
structure EOk (d : Nat) (e : E4) : Prop where
  nm : PyData.strOk e.name = true
  lin : Lin d e.v e.A
  vle : e.v ≤ d
  len : e.cs.length = 2 ^ e.v
structure TOk (d : Nat) (T : List E4) : Prop where
  nod : (T.map (·.name)).Nodup
  len : T.length ≤ 6
  ok : ∀ e ∈ T, EOk d e
def mRec (x y z t s : Nat) (p q : Int) : List (Key × D) := [(.inr "wide", .tup [nd x, nd y, nd z]), (.inr "tables", .ref t), (.inr "store", .ref s), (.inr "paid", .tup [.int p, .int q])]
section
variable (x y z t s : Nat) (p q : Int) (d : D)
@[simp] theorem mRec_wide : lookK (mRec x y z t s p q) (.inr "wide") = some (.tup [nd x, nd y, nd z]) := rfl
@[simp] theorem mRec_tables : lookK (mRec x y z t s p q) (.inr "tables") = some (.ref t) := rfl
@[simp] theorem mRec_store : lookK (mRec x y z t s p q) (.inr "store") = some (.ref s) := rfl
@[simp] theorem mRec_paid : lookK (mRec x y z t s p q) (.inr "paid") = some (.tup [.int p, .int q]) := rfl
end
theorem plain_l {n : Nat} {ds : List D} (hl : ds.length ≤ 1000) (h : ∀ d ∈ ds, plainN n d = true) : plainN (n + 1) (.lst ds) = true := by
  unfold plainN
  rw [Bool.and_eq_true, List.all_eq_true]
  exact ⟨decide_eq_true hl, h⟩
theorem plain_t {n : Nat} {ds : List D} (hl : ds.length ≤ 1000) (h : ∀ d ∈ ds, plainN n d = true) : plainN (n + 1) (.tup ds) = true := by
  unfold plainN
  rw [Bool.and_eq_true, List.all_eq_true]
  exact ⟨decide_eq_true hl, h⟩
structure Ml (S : Sto) (m t s x y z : Nat) (ts : List (Key × D)) (p q : Int) : Prop where
  at0 : S[m]? = some (.dic (mRec x y z t s p q))
  at1 : S[t]? = some (.dic ts)
  at2 : S[s]? = some (.dic [])
theorem kTs_len (f : E4 → D) (T : List E4) : (kTs f T).length = T.length := by simp [kTs]
theorem lookK_at {f : E4 → D} : ∀ {T : List E4} {e : E4}, e ∈ T → (T.map (·.name)).Nodup → lookK (kTs f T) (.inr e.name) = some (f e)
  | [], e, h, _ => by cases h
  | a :: T, e, h, nd => by
    rw [List.map_cons, List.nodup_cons] at nd
    rcases List.mem_cons.mp h with rfl | h
    · simp [lookK, kTs]
    · have ne : ¬ a.name = e.name := fun z => nd.1 (z ▸ List.mem_map.mpr ⟨e, h, rfl⟩)
      have ih := lookK_at (f := f) h nd.2
      unfold lookK kTs at ih ⊢
      rw [List.map_cons, List.find?_cons_of_neg (by simpa using ne)]
      exact ih
theorem lookK_no {f : E4 → D} : ∀ {T : List E4} {x : Str}, x ∉ T.map (·.name) → lookK (kTs f T) (.inr x) = none
  | [], x, _ => rfl
  | a :: T, x, h => by
    rw [List.map_cons, List.mem_cons, not_or] at h
    have ih := lookK_no (f := f) h.2
    have ne : ¬ a.name = x := fun z => h.1 z.symm
    unfold lookK kTs at ih ⊢
    rw [List.map_cons, List.find?_cons_of_neg (by simpa using ne)]
    exact ih
theorem txts_at (f : E4 → D) : ∀ T : List E4, txtsK (kTs f T) = some (T.map (·.name))
  | [] => rfl
  | a :: T => by
    have ih := txts_at f T
    unfold kTs at ih ⊢
    rw [List.map_cons, txtsK, ih]
    rfl
theorem srt_mem {T : List E4} {x : Str} (h : x ∈ srtX (T.map (·.name))) : ∃ e ∈ T, e.name = x := by
  have h := (srtX_perm _).mem_iff.mp h
  obtain ⟨e, he, ex⟩ := List.mem_map.mp h
  exact ⟨e, he, ex⟩
theorem srt_len (T : List E4) : (srtX (T.map (·.name))).length = T.length := by
  rw [(srtX_perm _).length_eq, List.length_map]
theorem sortedK {S : Sto} {t : Nat} {f : E4 → D} {T : List E4} (h : S[t]? = some (.dic (kTs f T))) (hl : T.length ≤ 6) : fSortedD S [.ref t] = some (.lst ((srtX (T.map (·.name))).map D.str)) := by
  have tx := txts_at f T
  have l : T.length < 64 := by omega
  simp [h, tx, l]
section
variable {S : Sto} {n b l k : Nat} {ts ss : List (Key × D)} {p q : Int}
theorem movingB_no (h : Bd S n b l k ts ss p q) {x : Str} {A : List Nat} {v : Nat} {gr : List Int} (hn : lookK ts (.inr x) = some (tbl A v gr .non)) : m_Body_moving [.ref n, .str x] S = .ok (.val .non) S := by
  have i := h.ins
  have N := bneed_ok h hn
  simp [m_Body_moving, i, N]
theorem namesB_ok {f : E4 → D} {T : List E4} (h : Bd S n b l k (kTs f T) ss p q) (hl : T.length ≤ 6) : m_Body_names [.ref n] S = .ok (.own (.lst ((srtX (T.map (·.name))).map D.str))) S := by
  have i := h.ins
  have q := sortedK h.at1 hl
  simp [m_Body_names, i, q, -fSortedD_eq]
theorem storedB_no (h : Bd S n b l k ts [] p q) : m_Body_stored [.ref n] S = .ok (.own (.lst [])) S := by
  have i := h.ins
  have t := h.at2
  simp [m_Body_stored, i, t, txtsK, srtX]
theorem paidB_ok (h : Bd S n b l k ts ss p q) : m_Body_paid [.ref n] S = .ok (.val (.tup [.int p, .int q])) S := by
  have i := h.ins
  simp [m_Body_paid, i]
theorem lenB_ok (h : Bd S n b l k ts ss p q) : m_BodyU_lenU [.ref n] S = .ok (.val (.int ts.length)) S := by
  have i := h.ins
  have t := h.at1
  simp [m_BodyU_lenU, i, t]
end
def rA (s : Nat) : Str := "Body(" ++ Str.ofString ((2 : Int) ^ s).repr
def rB (s : Nat) : Str := rA s ++ " berths, "
def rC (s k : Nat) : Str := rB s ++ Str.ofString (k : Int).repr
def rD (s k : Nat) : Str := rC s k ++ " tables)"
def rOkB (s k : Nat) : Bool := (szB (rA s).length && szB (rB s).length && szB (rC s k).length && szB (rD s k).length && PyData.strOk (rD s k)) && (szB (Str.ofString ((2 : Int) ^ s).repr).length && szB (Str.ofString (k : Int).repr).length) &&
  (szB (("Body(" : Str).length + (Str.ofString ((2 : Int) ^ s).repr).length) && szB ((rA s).length + (" berths, " : Str).length) && szB ((rB s).length + (Str.ofString (k : Int).repr).length) && szB ((rC s k).length + (" tables)" : Str).length))
theorem rOk {s k : Nat} (hs : s ≤ 7) (hk : k ≤ 6) : rOkB s k = true := by
  have h : ((List.range 8).all fun s => (List.range 7).all fun k => rOkB s k) = true := by decide +kernel
  rw [List.all_eq_true] at h
  have h := h s (List.mem_range.mpr (by omega))
  rw [List.all_eq_true] at h
  exact h k (List.mem_range.mpr (by omega))
theorem body0 : (Str.empty ++ ("Body(" : Str)) = "Body(" := by decide +kernel
theorem sz_body : szB ("Body(" : Str).length = true := by decide +kernel
theorem sz_berths : szB (" berths, " : Str).length = true := by decide +kernel
section
variable {S : Sto} {n x y z : Nat} {ts ss : List (Key × D)} {p q : Int}
theorem reprB_ok (h : Bd S n x y z ts ss p q) (hs : x + y ≤ 7) (hk : ts.length ≤ 6) : m_BodyU_reprU [.ref n] S = .ok (.val (.str (rD (x + y) ts.length))) S := by
  have i := h.ins
  have t := h.at1
  have o := rOk hs hk
  unfold rOkB at o
  simp only [Bool.and_eq_true] at o
  obtain ⟨⟨⟨⟨⟨⟨o1, o2⟩, o3⟩, o4⟩, o5⟩, o6, o7⟩, _⟩ := o
  have pw := powB_nat (i := 1) (by decide) (x + y) (by omega)
  rw [Int.natCast_add] at pw
  have e1 : ((x : Int) + (y : Int)).toNat = x + y := by omega
  have fA : ("Body(" ++ Str.ofString ((2 : Int) ^ (x + y)).repr : Str) = rA (x + y) := rfl
  have fB : rA (x + y) ++ " berths, " = rB (x + y) := rfl
  have fC : rB (x + y) ++ Str.ofString (ts.length : Int).repr = rC (x + y) ts.length := rfl
  have fD : rC (x + y) ts.length ++ " tables)" = rD (x + y) ts.length := rfl
  have l1 : x + y < 1920 := by omega
  have l2 : ts.length.log2 < 1920 := Nat.lt_of_le_of_lt (Nat.log2_le_self _) (by omega)
  simp [m_BodyU_reprU, m_BodyU_lenU, i, t, pw, e1, body0, sz_body, sz_berths, fA, fB, fC, fD, o1, o2, o3, o4, o6, o7, l1, l2]
end
theorem NX_step {a b : MS} {env : Envr} {S : Sto} {Q : Envr → Sto → Prop} (e1 : Envr) (S1 : Sto) (h : a env S = .nx e1 S1) (k : NX (b e1 S1) Q) : NX (sSeq a b env S) Q := NX_seq (by rw [h]; exact k)
theorem set_back {S : Sto} {s : Nat} {c c' : Cell} (h : S[s]? = some c) : (S.set s c').set s c = S := by
  rw [List.set_set]
  refine List.ext_getElem? fun i => ?_
  rw [List.getElem?_set]
  by_cases e : s = i
  · rw [if_pos e]
    have hs := (List.getElem?_eq_some_iff.mp h).1
    rw [if_pos hs, ← e, h]
  · rw [if_neg e]
theorem forD_nil {md : ME} {g : MG} {b : MS} {env : Envr} {S : Sto} {s : Nat} (h : md env S = .ok (.ref s) S) (h2 : md (wipeE env []) (S.set s (.lck [])) = .ok (.ref s) (S.set s (.lck []))) (h3 : S[s]? = some (.dic [])) : sForD md g b env S = .nx (wipeE env []) S := by
  have hs := (List.getElem?_eq_some_iff.mp h3).1
  rw [sForD_eq, h]
  simp only [h3, h2, out_ok', if_true, keysV, List.map_nil, forL]
  have u : (S.set s (Cell.lck []))[s]? = some (.lck []) := List.getElem?_set_self hs
  unfold unlk
  simp [u, set_back h3, hs]
section
variable {S : Sto} {n m t s x y z : Nat} {T : List E4} {p q : Int}
theorem deepM_ok {ts : List (Key × D)} (M : Ml S m t s x y z ts p q) : m__law_deep [.ref m] S = .ok (.val (.int ((x : Int) + y))) S := by
  have a := M.at0
  simp [m__law_deep, a, hasA, dicA, keyD]
theorem strs_plain {k : Nat} {xs : List Str} (h : ∀ x ∈ xs, PyData.strOk x = true) (hl : xs.length ≤ 1000) : plainN (k + 2) (.lst (xs.map D.str)) = true := by
  unfold plainN
  rw [Bool.and_eq_true, List.all_eq_true]
  refine ⟨decide_eq_true (by simpa using hl), fun d hd => ?_⟩
  obtain ⟨a, ha, rfl⟩ := List.mem_map.mp hd
  exact h a ha
theorem ints_plain {k : Nat} {d : D} {xs : List Int} (e : d = .lst (xs.map D.int) ∨ d = .tup (xs.map D.int)) (hl : xs.length ≤ 1000) : plainN (k + 2) d = true := by
  rcases e with rfl | rfl
  all_goals
    unfold plainN
    rw [Bool.and_eq_true, List.all_eq_true]
    refine ⟨decide_eq_true (by simpa using hl), fun d hd => ?_⟩
    obtain ⟨a, ha, rfl⟩ := List.mem_map.mp hd
    rfl
abbrev E11 (n m : Nat) (s2 s3 s4 s5 s6 s7 s8 s9 s10 : Sl) : Envr := [.v (.ref n), .v (.ref m), s2, s3, s4, s5, s6, s7, s8, s9, s10]
theorem stands_ok (B : Bd S n x y z (bTs T) [] p q) (M : Ml S m t s x y z (mTs T) p q) (ok : TOk (x + y) T) (hx : x ≤ 4) (hy : y ≤ 3) : m__law_stands [.ref n, .ref m] S = .ok (.val (.bl true)) S := by
  have key : RX (m__law_stands [.ref n, .ref m] S) fun r S' => r = .val (.bl true) ∧ S' = S := by
    have ib := B.ins
    have a0 := M.at0
    have a1 := M.at1
    have a2 := M.at2
    have hl := ok.len
    have sT := sortedK M.at1 hl
    have nB := namesB_ok B hl
    have stB := storedB_no B
    have pB := paidB_ok B
    have lB := lenB_ok B
    have rB := reprB_ok B (by omega) (by rw [kTs_len]; exact hl)
    rw [kTs_len] at rB lB
    have dM := deepM_ok M
    have nl1 := srt_len T
    have z4 := szB_of (n := 4) (by omega)
    have z3 := szB_of (n := 3) (by omega)
    have z0 := szB_of (n := 0) (by omega)
    have bb : bBnd (T.length : Int) 9223372036854775807 = true := bBnd_iff.mpr (by rw [Int.natAbs_natCast]; omega)
    generalize hN : srtX (T.map (·.name)) = N at *
    have hN1 : ∀ a ∈ N, ∃ e ∈ T, e.name = a := fun a ha => srt_mem (hN ▸ ha)
    have so : ∀ a ∈ N, PyData.strOk a = true := fun a ha => by
      obtain ⟨e, he, ea⟩ := hN1 a ha
      exact ea ▸ (ok.ok e he).nm
    unfold m__law_stands
    refine EX_fn ?_
    rw [show startE 11 [D.ref n, D.ref m] = E11 n m .no .no .no .no .no .no .no .no .no from rfl]
    refine EX_step (E11 n m (.v (.lst (N.map D.str))) .no .no .no .no .no .no .no .no) S (by simp [a0, hasA, dicA, keyD, sT, -fSortedD_eq]) ?_
    refine EX_step (E11 n m (.v (.lst (N.map D.str))) (.v (.lst [.lst (N.map D.str), .lst [], .tup [.int p, .int q], .int T.length])) .no .no .no .no .no .no .no) S (by simp [ib, nB, stB, pB, lB, bb, z4]) ?_
    have pl : plainN 4 (.lst [.lst (N.map D.str), .lst [], .tup [.int p, .int q], .int T.length]) = true := by
      refine plain_l (by simp) fun d hd => ?_
      simp only [List.mem_cons, List.not_mem_nil, or_false] at hd
      rcases hd with rfl | rfl | rfl | rfl
      · exact strs_plain (k := 1) so (by omega : N.length ≤ 1000)
      · rfl
      · rfl
      · rfl
    have sm := same_refl S 4 _ pl
    have sS : fSortedD S [.ref s] = some (.lst []) := by simp [a2, txtsK, srtX]
    refine EX_step (E11 n m (.v (.lst (N.map D.str))) (.v (.lst [.lst (N.map D.str), .lst [], .tup [.int p, .int q], .int T.length])) .no .no .no .no .no .no .no) S (by simp [a0, hasA, dicA, keyD, sS, nl1, sm, z4, -fSortedD_eq]) ?_
    have sh : ∃ i : Int, i = 2 ^ (x + y) := ⟨_, rfl⟩
    have pw := powB_nat (i := 1) (by decide) (x + y) (by omega)
    rw [Int.natCast_add] at pw
    have e1 : ((x : Int) + (y : Int)).toNat = x + y := by omega
    refine EX_step (E11 n m (.v (.lst (N.map D.str))) (.v (.lst [.lst (N.map D.str), .lst [], .tup [.int p, .int q], .int T.length])) (.v (.int (2 ^ (x + y)))) .no .no .no .no .no .no) S (by simp [dM, pw, e1]) ?_
    have o := rOk (s := x + y) (k := T.length) (by omega) hl
    unfold rOkB at o
    simp only [Bool.and_eq_true] at o
    obtain ⟨⟨⟨⟨⟨⟨o1, o2⟩, o3⟩, o4⟩, o5⟩, o6, o7⟩, ⟨⟨o8, o9⟩, o10⟩, o11⟩ := o
    have ne := fNe_str S o5 o5
    have fs : ∀ i : Int, fStrI S [.int i] = if decide (i.natAbs.log2 < 1920) then some (.str (toString i)) else none := fun _ => rfl
    have qs : ∀ a c : Str, fAddS S (.str a) (.str c) = if szB (a.length + c.length) then some (.str (a ++ c)) else none := fun _ _ => rfl
    have l1 : x + y < 1920 := by omega
    have l2 : T.length.log2 < 1920 := Nat.lt_of_le_of_lt (Nat.log2_le_self _) (by omega)
    have fA : ("Body(" ++ Str.ofString ((2 : Int) ^ (x + y)).repr : Str) = rA (x + y) := rfl
    have fB : rA (x + y) ++ " berths, " = Fb.rB (x + y) := rfl
    have fC : Fb.rB (x + y) ++ Str.ofString (T.length : Int).repr = rC (x + y) T.length := rfl
    have fD : rC (x + y) T.length ++ " tables)" = rD (x + y) T.length := rfl
    refine EX_step (E11 n m (.v (.lst (N.map D.str))) (.v (.lst [.lst (N.map D.str), .lst [], .tup [.int p, .int q], .int T.length])) (.v (.int (2 ^ (x + y)))) .no .no .no .no .no .no) S (by simp [ib, rB, fs, qs, l1, l2, nl1, o8, o9, o10, o11, fA, fB, fC, fD, ne]) ?_
    refine EX_seq ?_
    show NX (forL (gN 5) _ (N.map D.str) (E11 n m (.v (.lst (N.map D.str))) (.v (.lst [.lst (N.map D.str), .lst [], .tup [.int p, .int q], .int T.length])) (.v (.int (2 ^ (x + y)))) .no .no .no .no .no .no) S) _
    refine NX_for (fun ds e S' => S' = S ∧ (∀ d ∈ ds, ∃ a ∈ N, d = .str a) ∧ ∃ s3 s5 s6 s7 s8, e = E11 n m (.v (.lst (N.map D.str))) s3 (.v (.int (2 ^ (x + y)))) s5 s6 s7 s8 .no .no) ⟨rfl, fun d hd => ?_, _, _, _, _, _, rfl⟩ (fun d ds env S' h => ?_) (fun e S' h => ?_)
    · obtain ⟨a, ha, rfl⟩ := List.mem_map.mp hd
      exact ⟨a, ha, rfl⟩
    · obtain ⟨rfl, hd, s3, s5, s6, s7, s8, rfl⟩ := h
      obtain ⟨a, ha, rfl⟩ := hd _ List.mem_cons_self
      obtain ⟨e, he, rfl⟩ := hN1 a ha
      have ek := ok.ok e he
      refine ⟨_, rfl, ?_⟩
      have lkB := lookK_at (f := fun e => tab e.A e.v e.cs) he ok.nod
      have lkM := lookK_at (f := mTb) he ok.nod
      have ro := rowsB_ok B lkB
      have ce := cellsB_ok B lkB ek.lin (by omega) (by have := ek.vle; omega) ek.len
      have mo := movingB_no B lkB
      refine NX_step (E11 n m (.v (.lst (N.map D.str))) s3 (.v (.int (2 ^ (x + y)))) (.v (.str e.name)) (.v (.tup (nl e.A))) (.v (.lst (e.cs.map D.int))) (.v .non) .no .no) S' (by simp [a0, a1, lkM, mTb, hasA, dicA, keyD]) ?_
      refine NX_step (E11 n m (.v (.lst (N.map D.str))) (.v (.lst [.tup (nl e.A), .lst (e.cs.map D.int), .non])) (.v (.int (2 ^ (x + y)))) (.v (.str e.name)) (.v (.tup (nl e.A))) (.v (.lst (e.cs.map D.int))) (.v .non) .no .no) S' (by simp [ib, ro, ce, mo, z3]) ?_
      have l7 : 2 ^ e.v ≤ 2 ^ 7 := Nat.pow_le_pow_right (by decide) (by have := ek.vle; omega)
      have pl : plainN 4 (.lst [.tup (nl e.A), .lst (e.cs.map D.int), .non]) = true := by
        refine plain_l (by simp) fun d hd => ?_
        simp only [List.mem_cons, List.not_mem_nil, or_false] at hd
        rcases hd with rfl | rfl | rfl
        · have := ints_plain (k := 1) (xs := e.A.map Int.ofNat) (.inr rfl) (by rw [List.length_map, ek.lin.len]; omega)
          rw [List.map_map] at this
          exact this
        · exact ints_plain (k := 1) (.inl rfl) (by rw [ek.len]; omega)
        · rfl
      have sm := same_refl S' 4 _ pl
      have le : fListOf S' [.lst (e.cs.map D.int)] = some (.lst (e.cs.map D.int)) := by simp
      rw [show (sIf _ _ _ : MS) _ _ = _ from (by simp [le, sm, z3] : _ = Out.nx (E11 n m (.v (.lst (N.map D.str))) (.v (.lst [.tup (nl e.A), .lst (e.cs.map D.int), .non])) (.v (.int (2 ^ (x + y)))) (.v (.str e.name)) (.v (.tup (nl e.A))) (.v (.lst (e.cs.map D.int))) (.v .non) .no .no) S')]
      exact ⟨rfl, fun d hd' => hd d (List.mem_cons_of_mem _ hd'), _, _, _, _, _, rfl⟩
    · obtain ⟨rfl, _, s3, s5, s6, s7, s8, rfl⟩ := h
      have ms : s ≠ m := fun e => by
        rw [e, a0] at a2
        cases a2
      have a0' : (S'.set s (Cell.lck []))[m]? = some (.dic (mRec x y z t s p q)) := by
        rw [List.getElem?_set_ne ms]
        exact a0
      refine EX_step _ S' (forD_nil (by simp [a0, hasA, dicA, keyD]) (by simp [a0', hasA, dicA, keyD, wipeE]) a2) ?_
      simp
  obtain ⟨r, S', e, e1, e2⟩ := RX_iff.mp key
  rw [e, e1, e2]
end
end Fb
namespace Fb
open PySem L2 Mm Gf
abbrev E12 (n m : Nat) (s2 s3 s4 s5 s6 s7 s8 s9 s10 s11 : Sl) : Envr := [.v (.ref n), .v (.ref m), s2, s3, s4, s5, s6, s7, s8, s9, s10, s11]
def dueC (A : List Nat) (cs : List Int) : List Int := (List.range (2 ^ A.length)).map fun y => cs.getD (app A y) 0
theorem dueC_len (A : List Nat) (cs : List Int) : (dueC A cs).length = 2 ^ A.length := by simp [dueC]
section
variable {S : Sto} {n m t s x y z : Nat} {T : List E4} {p q : Int}
theorem held_ok (B : Bd S n x y z (bTs T) [] p q) (M : Ml S m t s x y z (mTs T) p q) (ok : TOk (x + y) T) (hx : x ≤ 4) (hy : y ≤ 3) : m__law_held_right [.ref n, .ref m] S = .ok (.val (.bl true)) S := by
  have key : RX (m__law_held_right [.ref n, .ref m] S) fun r S' => r = .val (.bl true) ∧ S' = S := by
    have ib := B.ins
    have a0 := M.at0
    have a1 := M.at1
    have hl := ok.len
    have sT := sortedK M.at1 hl
    generalize hN : srtX (T.map (·.name)) = N at *
    have hN1 : ∀ a ∈ N, ∃ e ∈ T, e.name = a := fun a ha => srt_mem (hN ▸ ha)
    unfold m__law_held_right
    refine EX_fn ?_
    rw [show startE 12 [D.ref n, D.ref m] = E12 n m .no .no .no .no .no .no .no .no .no .no from rfl]
    refine EX_seq ?_
    have it : itL (mFrz (fCB fSortedD (aCons (eDGetA 1 (eC (.str "tables"))) aNil))) (E12 n m .no .no .no .no .no .no .no .no .no .no) S = .ok (N.map D.str) S := by
      simp [a0, hasA, dicA, keyD, sT, -fSortedD_eq]
    rw [sFor_eq, it]
    show NX (forL (gN 2) _ (N.map D.str) (E12 n m .no .no .no .no .no .no .no .no .no .no) S) _
    refine NX_for (fun ds e S' => S' = S ∧ (∀ d ∈ ds, ∃ a ∈ N, d = .str a) ∧ ∃ s2 s3 s4 s5 s6 s7 s8 s9 s10 s11, e = E12 n m s2 s3 s4 s5 s6 s7 s8 s9 s10 s11) ⟨rfl, fun d hd => ?_, _, _, _, _, _, _, _, _, _, _, rfl⟩ (fun d ds env S' h => ?_) (fun e S' h => ?_)
    · obtain ⟨a, ha, rfl⟩ := List.mem_map.mp hd
      exact ⟨a, ha, rfl⟩
    · obtain ⟨rfl, hd, s2, s3, s4, s5, s6, s7, s8, s9, s10, s11, rfl⟩ := h
      obtain ⟨a, ha, rfl⟩ := hd _ List.mem_cons_self
      obtain ⟨e, he, rfl⟩ := hN1 a ha
      have ek := ok.ok e he
      refine ⟨_, rfl, ?_⟩
      have lkB := lookK_at (f := fun e => tab e.A e.v e.cs) he ok.nod
      have lkM := lookK_at (f := mTb) he ok.nod
      have z3 := szB_of (n := 3) (by omega)
      refine NX_step (E12 n m (.v (.str e.name)) (.v (.tup (nl e.A))) (.v (.lst (e.cs.map D.int))) (.v .non) s6 s7 s8 s9 s10 s11) S' (by simp [a0, a1, lkM, mTb, hasA, dicA, keyD]) ?_
      have la : e.A.length ≤ 7 := by rw [ek.lin.len]; omega
      have im := images_ok S' e.A (by omega) (.tup (nl e.A)) (.inl rfl)
      rw [spl_app] at im
      have l7 : 2 ^ e.A.length ≤ 2 ^ 7 := Nat.pow_le_pow_right (by decide) la
      have lc : fLc (itL (eCall m__law_images [] (aCons (eV 3) aNil))) (gN 10) cYes (eOp fIx (eV 4) (eV 10)) [10] (E12 n m (.v (.str e.name)) (.v (.tup (nl e.A))) (.v (.lst (e.cs.map D.int))) (.v .non) s6 s7 s8 s9 s10 s11) S' = .ok (.lst ((dueC e.A e.cs).map D.int)) S' := by
        unfold dueC
        rw [List.map_map]
        refine flc_of (fun y => nd (app e.A y)) _ (List.range (2 ^ e.A.length)) (by
          rw [show List.map (fun y => nd (app e.A y)) (List.range (2 ^ e.A.length)) = nl (List.map (app e.A) (List.range (2 ^ e.A.length))) from by simp [nl, Function.comp_def]]
          simp [im]) (by simp; omega) fun y hy => ?_
        have lt : app e.A y < e.cs.length := by
          rw [ek.len]
          exact app_lt y ek.lin.lt
        have at_ := atI_il (xs := e.cs) lt
        simp [wipeE, hideS, at_]
      refine NX_step (E12 n m (.v (.str e.name)) (.v (.tup (nl e.A))) (.v (.lst (e.cs.map D.int))) (.v .non) (.o (.lst ((dueC e.A e.cs).map D.int))) s7 s8 s9 s10 s11) S' (by simp [lc, -fLc_eq, sOwn_eq]) ?_
      refine NX_step (E12 n m (.v (.str e.name)) (.v (.tup (nl e.A))) (.v (.lst (e.cs.map D.int))) (.v .non) (.o (.lst ((dueC e.A e.cs).map D.int))) s7 s8 s9 s10 s11) S' (by simp) ?_
      have hb : ∀ y, y < 2 ^ e.A.length → m_Body_held [.ref n, .str e.name, .int (y : Nat)] S' = .ok (.val (.int (e.cs.getD (app e.A y) 0))) S' := fun y hy => heldB_ok B lkB hy
      have ld := dueC_len e.A e.cs
      have lc2 : fLc (itR1 (aCons (eLenA 6) aNil)) (gN 9) cYes (eMeth "Body" "held" m_Body_held [] (eV 0) (aCons (eV 2) (aCons (eV 9) aNil))) [9] (E12 n m (.v (.str e.name)) (.v (.tup (nl e.A))) (.v (.lst (e.cs.map D.int))) (.v .non) (.v (.lst ((dueC e.A e.cs).map D.int))) s7 s8 s9 s10 s11) S' = .ok (.lst ((dueC e.A e.cs).map D.int)) S' := by
        conv => rhs; unfold dueC
        rw [List.map_map]
        refine flc_of (fun y : Nat => nd y) _ (List.range (2 ^ e.A.length)) (itR1_nat (by simp [eLenA, ld]) (by omega)) (by simp; omega) fun y hy => ?_
        have h1 := hb y (List.mem_range.mp hy)
        simp [wipeE, hideS, ib, h1]
      have pl : plainN 4 (.lst ((dueC e.A e.cs).map D.int)) = true := ints_plain (k := 2) (.inl rfl) (by omega)
      have sm := same_refl S' 4 _ pl
      rw [sFrz_eq]
      rw [show (sIf _ _ _ : MS) _ _ = _ from (by simp [lc2, sm, -fLc_eq] : _ = Out.nx (E12 n m (.v (.str e.name)) (.v (.tup (nl e.A))) (.v (.lst (e.cs.map D.int))) (.v .non) (.v (.lst ((dueC e.A e.cs).map D.int))) s7 s8 s9 s10 s11) S')]
      exact ⟨rfl, fun d hd' => hd d (List.mem_cons_of_mem _ hd'), _, _, _, _, _, _, _, _, _, _, rfl⟩
    · obtain ⟨rfl, _, s2, s3, s4, s5, s6, s7, s8, s9, s10, s11, rfl⟩ := h
      simp
  obtain ⟨r, S', e, e1, e2⟩ := RX_iff.mp key
  rw [e, e1, e2]
end
end Fb
namespace Fb
open PySem L2 Mm Gf
def names8 : List Str := ["a", "box", "c", "ab", "azzzzz", "zzzzzz", "zzzzzy", "lane"]
theorem names8_nameB : ∀ x ∈ names8, nameB x = true ∧ PyData.strOk x = true := by decide +kernel
theorem new_name_ok {R : Sto} {b : Cell} (hb : Bx b) : ∃ b' x, m__law_new_name [.ref 0] (b :: R) = .ok (.val (.str x)) (b' :: R) ∧ Bx b' ∧ x ∈ names8 := by
  obtain ⟨b1, z, t, hb1, hz⟩ := ofLR (R := R) hb (names8.map D.str) (by decide) (by decide)
  obtain ⟨x, hx, rfl⟩ := List.mem_map.mp hz
  have t' : m__law_of [.ref 0, .lst [.str "a", .str "box", .str "c", .str "ab", .str "azzzzz", .str "zzzzzz", .str "zzzzzy", .str "lane"]] (b :: R) = .ok (.val (.str x)) (b1 :: R) := t
  have z8 := szB_of (n := 8) (by omega)
  exact ⟨b1, x, by simp [m__law_new_name, t', z8], hb1, hx⟩
theorem lay_draw {R : Sto} {b : Cell} (hb : Bx b) {d : Nat} (hd : d ≤ 7) (Dd : Int) (eD : Dd = (d : Int)) : ∃ (b' : Cell) (nm : Str) (A : List Nat) (v : Nat) (cs : List Int), m__law_lay [.ref 0, .int Dd] (b :: R) = .ok (.val (.tup [.str "lay", .str nm, .tup (nl A), .tup (cs.map D.int)])) (b' :: R) ∧ Bx b' ∧ nm ∈ names8 ∧ Lin d v A ∧ v ≤ d ∧ cs.length = 2 ^ v ∧ ∀ z ∈ cs, z.natAbs ≤ 5000 := by
  subst eD
  obtain ⟨b1, zz, t1, hb1, h1⟩ := ofLR (R := R) hb [nd d, nd d, .int 2, .int 3, .int 1, .int 0, .int 4] (by simp) (by simp)
  have hv : ∃ w : Nat, zz = nd w := by
    simp only [List.mem_cons, List.not_mem_nil, or_false] at h1
    rcases h1 with rfl | rfl | rfl | rfl | rfl | rfl | rfl
    · exact ⟨d, rfl⟩
    · exact ⟨d, rfl⟩
    · exact ⟨2, rfl⟩
    · exact ⟨3, rfl⟩
    · exact ⟨1, rfl⟩
    · exact ⟨0, rfl⟩
    · exact ⟨4, rfl⟩
  obtain ⟨w, rfl⟩ := hv
  have mn : (if (w : Int) < (d : Int) then (w : Int) else (d : Int)) = ((min w d : Nat) : Int) := by
    split <;> omega
  have mn2 : (if w < d then (w : Int) else (d : Int)) = ((min w d : Nat) : Int) := by
    split <;> omega
  generalize hV : min w d = v at mn mn2
  have hvd : v ≤ d := by omega
  obtain ⟨b2, nm, t2, hb2, hnm⟩ := new_name_ok (R := R) hb1
  obtain ⟨b3, A, t3, hb3, hA⟩ := lines_okR (R := R) hb2 (n := d) (w := v) (by omega) hvd
  obtain ⟨b4, cs, t4, hb4, hc, hz⟩ := cells_ok (R := R) hb3 (v := v) (by omega) v rfl
  have z7 := szB_of (n := 7) (by omega)
  have z4 := szB_of (n := 4) (by omega)
  exact ⟨b4, nm, A, v, cs, by simp [m__law_lay, t1, t2, t3, t4, z7, z4, mn2], hb4, hnm, hA, hvd, hc, hz⟩
structure Ws (S : Sto) (n m t s x y z : Nat) (T : List E4) (p q : Int) : Prop where
  bx : ∃ b R, S = b :: R ∧ Bx b
  bd : Bd S n x y z (bTs T) [] p q
  ml : Ml S m t s x y z (mTs T) p q
  ok : TOk (x + y) T
  ne : [0, m, t, s, n, n + 1, n + 2].Nodup
  hx : x ≤ 4
  hy : y ≤ 3
  hz : 1 ≤ z ∧ z ≤ 3
theorem Ml.head {b b' : Cell} {R : Sto} {m t s x y z : Nat} {ts : List (Key × D)} {p q : Int} (h : Ml (b :: R) m t s x y z ts p q) (h0 : 0 < m) (h1 : 0 < t) (h2 : 0 < s) : Ml (b' :: R) m t s x y z ts p q := by
  obtain ⟨m', rfl⟩ := Nat.exists_eq_succ_of_ne_zero (Nat.ne_of_gt h0)
  obtain ⟨t', rfl⟩ := Nat.exists_eq_succ_of_ne_zero (Nat.ne_of_gt h1)
  obtain ⟨s', rfl⟩ := Nat.exists_eq_succ_of_ne_zero (Nat.ne_of_gt h2)
  exact ⟨h.at0, h.at1, h.at2⟩
theorem Ws.pos {S : Sto} {n m t s x y z : Nat} {T : List E4} {p q : Int} (h : Ws S n m t s x y z T p q) : 0 < m ∧ 0 < t ∧ 0 < s ∧ 0 < n := by
  have := h.ne
  simp only [List.nodup_cons, List.mem_cons, List.not_mem_nil, or_false, not_or] at this
  omega
theorem Ws.head {b b' : Cell} {R : Sto} {n m t s x y z : Nat} {T : List E4} {p q : Int} (h : Ws (b :: R) n m t s x y z T p q) (hb : Bx b') : Ws (b' :: R) n m t s x y z T p q := by
  obtain ⟨h1, h2, h3, h4⟩ := h.pos
  obtain ⟨n', rfl⟩ := Nat.exists_eq_succ_of_ne_zero (Nat.ne_of_gt h4)
  exact ⟨⟨b', R, rfl, hb⟩, h.bd.head, h.ml.head h1 h2 h3, h.ok, h.ne, h.hx, h.hy, h.hz⟩
theorem putD_new {f : E4 → D} {T : List E4} {e : E4} (h : e.name ∉ T.map (·.name)) : putD (kTs f T) (.inr e.name) (f e) = kTs f (T ++ [e]) := by
  have na : ((kTs f T).any fun kv => decide (kv.1 = Sum.inr e.name)) = false := by
    rw [List.any_eq_false]
    intro kv hkv
    obtain ⟨a, ha, rfl⟩ := List.mem_map.mp hkv
    simp only [decide_eq_true_eq]
    intro z
    exact h (List.mem_map.mpr ⟨a, ha, Sum.inr.inj z⟩)
  unfold putD
  rw [na]
  simp [kTs]
theorem Ws.lay {S : Sto} {n m t s x y z : Nat} {T : List E4} {p q : Int} (h : Ws S n m t s x y z T p q) {e : E4} (he : EOk (x + y) e) (hn : e.name ∉ T.map (·.name)) (hl : T.length < 6) : Ws ((S.set (n + 1) (.dic (bTs (T ++ [e])))).set t (.dic (mTs (T ++ [e])))) n m t s x y z (T ++ [e]) p q := by
  obtain ⟨b, R, rfl, hb⟩ := h.bx
  have ne := h.ne
  simp only [List.nodup_cons, List.mem_cons, List.not_mem_nil, or_false, not_or] at ne
  have hd := h.bd
  have hm := h.ml
  have lt : t < (b :: R).length := (List.getElem?_eq_some_iff.mp hm.at1).1
  have ln : n + 1 < (b :: R).length := (List.getElem?_eq_some_iff.mp hd.at1).1
  have get : ∀ {i : Nat}, i ≠ n + 1 → i ≠ t → (((b :: R).set (n + 1) (.dic (bTs (T ++ [e])))).set t (.dic (mTs (T ++ [e]))))[i]? = (b :: R)[i]? := fun h1 h2 => by
    rw [List.getElem?_set_ne (Ne.symm h2), List.getElem?_set_ne (Ne.symm h1)]
  have bx : ∃ b' R', (((b :: R).set (n + 1) (.dic (bTs (T ++ [e])))).set t (.dic (mTs (T ++ [e])))) = b' :: R' ∧ Bx b' := by
    have t0 : t ≠ 0 := by omega
    clear get lt hm
    cases t with
    | zero => exact absurd rfl t0
    | succ t' => exact ⟨b, _, rfl, hb⟩
  refine ⟨bx, ⟨?_, ?_, ?_⟩, ⟨?_, ?_, ?_⟩, ⟨?_, by simp; omega, fun a ha => ?_⟩, h.ne, h.hx, h.hy, h.hz⟩
  · rw [get (by omega) (by omega)]; exact hd.at0
  · rw [List.getElem?_set_ne (by omega), List.getElem?_set_self ln]
  · rw [get (by omega) (by omega)]; exact hd.at2
  · rw [get (by omega) (by omega)]; exact hm.at0
  · rw [List.getElem?_set_self (by rw [List.length_set]; exact lt)]
  · rw [get (by omega) (by omega)]; exact hm.at2
  · rw [List.map_append, List.nodup_append]
    exact ⟨h.ok.nod, by simp, fun a ha c hc => by
      simp only [List.map_cons, List.map_nil, List.mem_singleton] at hc
      subst hc
      exact fun z => hn (z ▸ ha)⟩
  · rcases List.mem_append.mp ha with ha | ha
    · exact h.ok.ok a ha
    · rw [List.mem_singleton.mp ha]
      exact he
end Fb
namespace Fb
open PySem L2 Mm Gf
theorem model_ok (S : Sto) (x y z : Nat) : m__law_model [.tup [nd x, nd y, nd z]] S = .ok (.own (.dic (mRec x y z S.length (S.length + 1) 0 0))) (S ++ [.dic [], .dic []]) := by
  have nb : nodB ["wide", "tables", "store", "paid"] = true := by decide +kernel
  have z2 := szB_of (n := 2) (by omega)
  simp [m__law_model, nb, z2, wipeE, hideS, mRec]
theorem start_ws {A : Sto} {x y z : Nat} (hA : ∃ b R, A = b :: R ∧ Bx b) (hx : x ≤ 4) (hy : y ≤ 3) (hz : 1 ≤ z ∧ z ≤ 3) : Ws (A ++ [.dic [], .dic [], .dic (mRec x y z A.length (A.length + 1) 0 0), bodyC (A.length + 3) x y z 0 0, .dic [], .dic []]) (A.length + 3) (A.length + 2) A.length (A.length + 1) x y z [] 0 0 := by
  have pos : 0 < A.length := by
    obtain ⟨b, R, rfl, _⟩ := hA
    simp
  refine ⟨?_, ⟨by simp, by show (A ++ _)[A.length + 4]? = _; simp [kTs], by show (A ++ _)[A.length + 5]? = _; simp⟩, ⟨by simp, by simp [kTs], by simp⟩, ⟨by simp, by simp, by simp⟩, by simp; omega, hx, hy, hz⟩
  obtain ⟨b, R, rfl, hb⟩ := hA
  exact ⟨b, _, rfl, hb⟩
end Fb
namespace Fb
open PySem L2 Mm Gf
def lgF : Nat → Nat → Nat → Nat
  | 0, k, _ => k
  | n + 1, k, c => if 2 ^ k < c then lgF n (k + 1) c else k
def lg (c : Nat) : Nat := lgF 40 0 c
theorem manyM_go (S : Sto) (c : Nat) : ∀ (n k f : Nat), c ≤ 2 ^ (k + n) → k + n ≤ 60 → n < f → whL (cB (eOp iLt (eOp iShl (eC (.int 1)) (eV 1)) (eV 0))) (sAug 1 (fun i j => i + j) (eC (.int 1))) f [.v (nd c), .v (nd k)] S = .nx [.v (nd c), .v (nd (lgF n k c))] S
  | _, _, 0, _, _, h => by omega
  | n, k, f + 1, hc, hk, hf => by
    have pw := powB_nat (i := 1) (by decide) k (by omega)
    have e1 : (1 : Int) * 2 ^ k = ((2 ^ k : Nat) : Int) := by simp
    by_cases h : 2 ^ k < c
    · have h3 : (2 : Int) ^ k < (c : Int) := by
        have := Int.ofNat_lt.mpr h
        simpa using this
      cases n with
      | zero =>
        rw [Nat.add_zero] at hc
        omega
      | succ n =>
        have ih := manyM_go S c n (k + 1) f (by rw [show k + 1 + n = k + (n + 1) by omega]; exact hc) (by omega) (by omega)
        unfold whL
        rw [show lgF (n + 1) k c = lgF n (k + 1) c from by rw [lgF, if_pos h]]
        simp [pw, h3]
        exact ih
    · have h3 : ¬ (2 : Int) ^ k < (c : Int) := by
        intro z
        have z2 : ((2 ^ k : Nat) : Int) < (c : Int) := by simpa using z
        exact h (Int.ofNat_lt.mp z2)
      have e : lgF n k c = k := by
        cases n with
        | zero => rfl
        | succ n => rw [lgF, if_neg h]
      unfold whL
      rw [e]
      simp [pw, h3]
theorem manyM_any (S : Sto) {c : Nat} (hc : c ≤ 1000000) (C : Int) (eC' : C = (c : Int)) : m__law_many [.int C] S = .ok (.val (nd (lg c))) S := by
  subst eC'
  have g := manyM_go S c 40 0 100 (Nat.le_trans hc (by decide)) (by omega) (by omega)
  have g' : whL (cB (eOp iLt (eOp iShl (eC (.int 1)) (eV 1)) (eV 0))) (sAug 1 (fun i j => i + j) (eC (.int 1))) 100 [.v (.int c), .v (.int 0)] S = .nx [.v (nd c), .v (nd (lg c))] S := g
  simp [m__law_many, g']
end Fb
namespace Fb
open PySem L2 Mm Gf
def hL (k : Nat) (A : List Nat) (cs : List Int) : List Int := (List.range (2 ^ k)).map fun y => cs.getD (app A y) 0
end Fb
namespace Fb
open PySem L2 Mm Gf
theorem Ws.app {S : Sto} {n m t s x y z : Nat} {T : List E4} {p q : Int} (h : Ws S n m t s x y z T p q) (Q : List Cell) : Ws (S ++ Q) n m t s x y z T p q := by
  obtain ⟨b, R, e, hb⟩ := h.bx
  have up : ∀ {i : Nat} {v : Cell}, S[i]? = some v → (S ++ Q)[i]? = some v := fun {i v} h => by
    rw [List.getElem?_append_left (List.getElem?_eq_some_iff.mp h).1]
    exact h
  exact ⟨⟨b, R ++ Q, by rw [e]; rfl, hb⟩, ⟨up h.bd.at0, up h.bd.at1, up h.bd.at2⟩, ⟨up h.ml.at0, up h.ml.at1, up h.ml.at2⟩, h.ok, h.ne, h.hx, h.hy, h.hz⟩
def Off (c n m t s : Nat) : Prop := c ∉ [0, m, t, s, n, n + 1, n + 2]
theorem Ws.setC {S : Sto} {n m t s x y z : Nat} {T : List E4} {p q : Int} (h : Ws S n m t s x y z T p q) {c : Nat} (hc : Off c n m t s) (v : Cell) : Ws (S.set c v) n m t s x y z T p q := by
  unfold Off at hc
  simp only [List.mem_cons, List.not_mem_nil, or_false, not_or] at hc
  obtain ⟨b, R, rfl, hb⟩ := h.bx
  have up : ∀ {i : Nat} {v' : Cell}, i ≠ c → (b :: R)[i]? = some v' → ((b :: R).set c v)[i]? = some v' := fun {i v'} h1 h2 => by
    rw [List.getElem?_set_ne (Ne.symm h1)]
    exact h2
  have bx : ∃ b' R', (b :: R).set c v = b' :: R' ∧ Bx b' := by
    have c0 := hc.1
    cases c with
    | zero => exact absurd rfl c0
    | succ c => exact ⟨b, _, rfl, hb⟩
  exact ⟨bx, ⟨up (by omega) h.bd.at0, up (by omega) h.bd.at1, up (by omega) h.bd.at2⟩, ⟨up (by omega) h.ml.at0, up (by omega) h.ml.at1, up (by omega) h.ml.at2⟩, h.ok, h.ne, h.hx, h.hy, h.hz⟩
end Fb
namespace Fb
open PySem L2 Mm Gf
section
variable {S : Sto} {n b l k : Nat} {ts ss : List (Key × D)} {p q : Int} {T : List E4} {f : E4 → D}
def frD (x : Str) (o : Option Str) : Str := o.getD x
def otD (o : Option Str) : D := match o with
  | none => .non
  | some s => .str s
end
end Fb
namespace Fb
open PySem L2 Mm Gf
theorem hm_lc (S : Sto) {A : List Nat} {v d : Nat} (hA : Lin d v A) (hd : d ≤ 12) (hv : v ≤ 12) (a0 a1 : D) {c : Nat} : fLc (itR1 (aCons (eOp iShl (eC (.int 1)) (eMeth "Fold" "many" m_Fold_many [] (eV 3) aNil)) aNil)) (gN 4) (cB (eOp fEq (eMeth "Fold" "to" m_Fold_to [] (eV 3) (aCons (eV 4) aNil)) (eV 2))) (eV 4) [4] [.v a0, .v a1, .v (nd c), .v (fold A v), .no] S = .ok (.lst (nl (hmL A (List.range (2 ^ A.length)) c))) S := by
  have hl := hA.len
  have FO : FOk A v := ⟨by rw [hA.len]; exact hd, hv, hA.lt⟩
  have p12 := pow_le (n := 12) (d := A.length) (by omega)
  have e12 : (2 : Nat) ^ 12 = 4096 := by decide
  have mo := many_ok S A v
  have pw := powB_nat (i := 1) (by decide) A.length (by omega)
  have it : itR1 (aCons (eOp iShl (eC (.int 1)) (eMeth "Fold" "many" m_Fold_many [] (eV 3) aNil)) aNil) [.v a0, .v a1, .v (nd c), .v (fold A v), .no] S = .ok (nl (List.range (2 ^ A.length))) S := itR1_nat (by simp [mo, pw]) (by omega)
  have lc := lcR_map (g := gN 4) (tt := cB (eOp fEq (eMeth "Fold" "to" m_Fold_to [] (eV 3) (aCons (eV 4) aNil)) (eV 2))) (te := eV 4) (env := [.v a0, .v a1, .v (nd c), .v (fold A v), .no]) (S := S) (fun e => match e with | .int z => decide (app A z.toNat = c) | _ => false) (fun e => e) (nl (List.range (2 ^ A.length))) fun e he => by
    rw [nl, List.mem_map] at he
    obtain ⟨y, hy, rfl⟩ := he
    have t := to_ok S FO (x := y) (List.mem_range.mp hy)
    refine ⟨_, rfl, ?_, fun _ => rfl⟩
    have ee : ((app A y : Nat) : Int) = (c : Int) ↔ app A y = c := by omega
    simp [t, ee]
  have ef : ((nl (List.range (2 ^ A.length))).filter (fun e => match e with | .int z => decide (app A z.toNat = c) | _ => false)).map (fun e : D => e) = nl (hmL A (List.range (2 ^ A.length)) c) := by
    rw [List.map_id']
    unfold nl hmL
    rw [List.filter_map]
    rfl
  rw [ef] at lc
  have zl := szB_of (n := (nl (hmL A (List.range (2 ^ A.length)) c)).length) (by
    have := hm_len A (List.range (2 ^ A.length)) c
    rw [List.length_range] at this
    simp [nl]
    omega)
  rw [fLc_eq, it, bind_ok']
  show (lcR _ _ _ [.v a0, .v a1, .v (nd c), .v (fold A v), .no] _ _).bind _ = _
  rw [lc, bind_ok', fin_eq, if_pos zl]
theorem berthsB_ok {S : Sto} {n b l k : Nat} {ts ss : List (Key × D)} {p q : Int} (h : Bd S n b l k ts ss p q) {nm : Str} {A : List Nat} {v : Nat} {gr : List Int} {mv : D} (hn : lookK ts (.inr nm) = some (tbl A v gr mv)) {d : Nat} (hA : Lin d v A) (hd : d ≤ 12) (hv : v ≤ 12) {c : Nat} (hc : c < 2 ^ v) : m_Body_berths [.ref n, .str nm, nd c] S = .ok (.own (.lst (nl (hmL A (List.range (2 ^ A.length)) c)))) S := by
  have i := h.ins
  have N := bneed_ok h hn
  have Z := size_ok S A v
  have lc := hm_lc S hA hd hv (.ref n) (.str nm) (c := c)
  have sh : c >>> v = 0 := by rw [Nat.shiftRight_eq_div_pow]; exact Nat.div_eq_of_lt hc
  have n1 : ¬ ((c : Int) < 0) := by omega
  have n2 : ¬ ((0 : Int) < (((c >>> v : Nat)) : Int)) := by rw [sh]; omega
  have n3 : ((c : Int) < 0) = False := eq_false n1
  simp [m_Body_berths, i, N, Z, lc, sh, n3, -fLc_eq]
end Fb
namespace Fb
open PySem L2 Mm Gf
inductive Dd where
  | lay (nm : Str) (qs cs : List Int)
  | lead (nm : Str) (qs : List Int)
  | beg (nm : Str) (qs : List Int)
  | turn (nm : Str) (qs : List Int)
  | total (nm : Str) (qs : List Int)
  | stash (nm : Str) (qs : List Int)
  | fetch (nm : Str) (qs : List Int) (o : Option Str)
  | merge (w a c : Str)
  | drop (nm : Str)
  | beat (nm : Str)
  | off (nm : Str)
  | forget (nm : Str)
def sqD (l : Bool) (qs : List Int) : D := if l = true then .lst (qs.map D.int) else .tup (qs.map D.int)
def Dd.w : Dd → Str
  | .lay .. => "lay" | .lead .. => "lead" | .beg .. => "begin" | .turn .. => "turn" | .total .. => "total" | .stash .. => "stash" | .fetch .. => "fetch" | .merge .. => "merge" | .drop _ => "drop" | .beat _ => "beat" | .off _ => "off" | .forget _ => "forget"
def Dd.rest (l : Bool) : Dd → List D
  | .lay nm qs cs => [.str nm, sqD l qs, sqD l cs]
  | .lead nm qs | .beg nm qs | .turn nm qs | .total nm qs | .stash nm qs => [.str nm, sqD l qs]
  | .fetch nm qs o => [.str nm, sqD l qs, otD o]
  | .merge w a c => [.str w, .str a, .str c]
  | .drop nm | .beat nm | .off nm | .forget nm => [.str nm]
def GoodNm (a : Str) : Prop := PyData.strOk a = true ∧ a.cps.size ≤ 100000
def Dd.Ok : Dd → Prop
  | .lay nm qs cs => GoodNm nm ∧ qs.length ≤ 1000 ∧ cs.length ≤ 1000
  | .lead nm qs | .beg nm qs | .turn nm qs | .total nm qs | .stash nm qs => GoodNm nm ∧ qs.length ≤ 1000
  | .fetch nm qs o => GoodNm nm ∧ GoodNm (frD nm o) ∧ qs.length ≤ 1000
  | .merge w a c => GoodNm w ∧ GoodNm a ∧ GoodNm c
  | .drop nm | .beat nm | .off nm | .forget nm => GoodNm nm
end Fb
namespace Fb
open PySem L2 Mm Gf
def Drawn (f : MFn) (as : List D) (R : Sto) (b : Cell) (W : Dd → Prop) : Prop := ∃ b' dd, f as (b :: R) = .ok (.val (.tup (.str dd.w :: dd.rest false))) (b' :: R) ∧ Bx b' ∧ dd.Ok ∧ W dd
end Fb
namespace Fb
open PySem L2 Mm Fb Gf
abbrev nms (l : List (Str × Nat)) : List Str := l.map (·.1)
end Fb
namespace Fb
open PySem L2 Mm Gf
def selW (ws : List Str) (r : Nat) : List Str := (ws.zipIdx.filter fun p => r.testBit p.2).map (·.1)
def itm (w : Str) (ws : List Str) (r : Nat) : Str := w ++ " = " ++ Txt.join " + " (selW ws r)
def parts (bw ws : List Str) (rs : List Nat) : List Str := (bw.zip rs).filterMap fun p => if p.2 = 0 then none else some (itm p.1 ws p.2)
end Fb
namespace Fb
open PySem L2 Mm Gf
def al (c : Nat) : Bool := Txt.isalnum ⟨#[c]⟩
theorem dw_le (p : Nat → Bool) : ∀ cs : List Nat, (cs.dropWhile p).length ≤ cs.length
  | [] => Nat.le_refl _
  | c :: cs => by
    rw [List.dropWhile_cons]
    split
    · have := dw_le p cs
      simp only [List.length_cons]
      omega
    · exact Nat.le_refl _
def toks : List Nat → Nat → List (Str × Nat)
  | [], _ => []
  | c :: cs, p => if al c = true then (⟨(c :: cs.takeWhile al).toArray⟩, p) :: toks (cs.dropWhile al) (p + 1 + (cs.takeWhile al).length) else if c = 32 then toks cs (p + 1) else (⟨#[c]⟩, p) :: toks cs (p + 1)
termination_by cs => cs.length
decreasing_by
  · have := dw_le al cs
    simp only [List.length_cons]
    omega
  · simp
  · simp
end Fb
namespace Fb
open PySem L2 Mm Gf
abbrev Tok := Str × Nat
end Fb
namespace Fb
open PySem L2 Mm Gf
def lk (ks : List (Str × Nat)) (w : Str) : Nat := ((ks.find? fun p => decide (p.1 = w)).map (·.2)).getD 0
end Fb
namespace Fb
open PySem L2 Mm Gf
abbrev Fl := Nat × Option Nat
def sec (o : Option Nat) (c : Nat) : Bool := match o with
  | none => false
  | some j => c.testBit j
def fl (f : Fl) (c : Nat) : Bool := c.testBit f.1 ^^ sec f.2 c
end Fb
namespace Mm
open PySem L2
@[simp] theorem cLend_eq' (is : List Nat) (m : MT) (env : Envr) (S : Sto) : cLend is m env S = (match m (lendE is env) [] with
  | .ok b _ => .ok b S
  | _ => .stuck) := rfl
end Mm
namespace Fb
open PySem L2 Mm Gf
def tree (w : Nat) : Nat → Nat
  | 0 => 1
  | n + 1 => 1 + w * tree w n
end Fb
namespace Mm
open PySem L2
section
variable {mk mv : ME} {e1 : Envr} {S5 S6 : Sto} {kd : D}
theorem eKV_stuck (u : mk e1 S5 = .stuck) : eKV mk mv e1 S5 = .stuck := by
  unfold eKV
  rw [u]
  rfl
theorem eKV_exc {c : Str} {q : Option D} (u : mk e1 S5 = .exc c q S6) : eKV mk mv e1 S5 = .exc c q S6 := by
  unfold eKV
  rw [u]
  rfl
theorem eKV_none (u : mk e1 S5 = .ok kd S6) (kk : keyD kd = none) : eKV mk mv e1 S5 = .stuck := by
  unfold eKV
  rw [u]
  show (match keyD kd with
    | some _ => (mv e1 S6).bind fun v S2 => R.ok (D.tup [kd, v]) S2
    | none => .stuck) = _
  rw [kk]
theorem eKV_some {key : Key} (u : mk e1 S5 = .ok kd S6) (kk : keyD kd = some key) : eKV mk mv e1 S5 = (mv e1 S6).bind fun v S2 => R.ok (D.tup [kd, v]) S2 := by
  unfold eKV
  rw [u]
  show (match keyD kd with
    | some _ => (mv e1 S6).bind fun v S2 => R.ok (D.tup [kd, v]) S2
    | none => .stuck) = _
  rw [kk]
end
section
variable {X : Cx} {Y : Gam} {W : WX} {e a b c iter elt kx vx o : Expr} {es rest ifs : List Expr} {td ta tb te tk tv to : TE} {tt tu : TT} {md ma mb me mk mv mo : ME} {mt mu : MT} {mf : MF} {t : TA} {m : MA} {pos : Pos} {wi : TI} {mi : MI} {scope : Scope} {own : List (Str × Nat)} {is : List Nat} {g : TG} {mg : MG} {apos cpos : Pos}
theorem sim_dcF {g : Gam} {is vs : List Nat} {tg : TG} {mg : MG} (hi : SimIF g W wi mi) (hg : SimG g is tg mg) (hv : ∀ i ∈ is, i ∈ vs) (ht : SimT g W0 tt mt) (hk : SimE g W0 tk mk) (he : SimE g W0 tv mv) : SimE g W (tDc wi tg tt tk tv vs) (eDc mi mg mt mk mv vs) := fun w0 H0 w H σ env S O Q st p => by
  unfold eDc at p
  generalize hme : eKV mk mv = me' at p
  refine hi w0 H0 w H σ env S O _ st ((PostX.bind p).imp fun ds S1 w1 H1 st1 l1 p1 J hJ Z hD => ?_)
  obtain ⟨o1, o2, o3, o4⟩ := st1.out hD
  refine ⟨fun i m H => m + i = ds.length ∧ ∃ w' S' acc us, Frame w1 H1 w' H ∧ Ok g w' H S' ∧ H Z = some (.dK us) ∧ RepK g w' acc us ∧ w'.G Z = none ∧ Z ∉ w'.rho ∧
    PostX g W w0 H0 w' σ env O ((lcR mg mt me' (wipeE env vs) (ds.drop i) S').bind (finDc acc)) (fun d _ w' H' => ∀ v, Rep g w' d v → Q v H'), ?_, ?_⟩
  · obtain ⟨k2, f2⟩ := ok_lay (o := .dK []) st1.ok hD nt_dK
    exact ⟨ds.length, by omega, w1, S1, [], [], f2, k2, upd_same, RepK.nil_, o2, o3, p1⟩
  · rintro i k H2 ⟨hk', w2, S2, acc, us, f2, k2, e2, hf, g2, r2, p2⟩
    obtain ⟨hgo, hstop⟩ := hJ w2 H2 f2 k2.ex
    have st2 : StR g w0 H0 w2 H2 σ env S2 O := st1.after f2 k2
    have stb : StR g w2 H2 w2 H2 (wipe σ vs) (wipeE env vs) S2 (List.replicate σ.length none) := st2.hide vs
    by_cases hlt : i < ds.length
    · have ed : ds.drop i = ds[i] :: ds.drop (i + 1) := List.drop_eq_getElem_cons hlt
      obtain ⟨go, yld⟩ := hgo i ds[i] (List.getElem?_eq_getElem hlt)
      refine .inr ⟨go, fun H => ∃ w' S' acc us, Frame w1 H1 w' H ∧ Ok g w' H S' ∧ H Z = some (.dK us) ∧ RepK g w' acc us ∧ w'.G Z = none ∧ Z ∉ w'.rho ∧
        PostX g W w0 H0 w' σ env O ((lcR mg mt me' (wipeE env vs) (ds.drop (i + 1)) S').bind (finDc acc)) (fun d _ w' H' => ∀ v, Rep g w' d v → Q v H'), fun H' h' => ⟨k - 1, by omega, by omega, h'⟩, fun x H' hy => ?_⟩
      obtain ⟨w3, gr, rx⟩ := yld x H' hy
      have st3 := stb.grow gr
      rw [ed] at p2
      unfold lcR at p2
      cases z : mg ds[i] (wipeE env vs) with
      | none => rw [z] at p2; exact False.elim p2
      | some e1 =>
        simp only [z] at p2
        refine hg w2 H2 w3 H' _ _ S2 _ ds[i] x _ e1 st3 rx z fun σ4 O4 st4 sl4 => ⟨?_, ?_⟩
        · rw [wipe_slots sl4 hv, wipe_wipe]
        · refine ht w2 H2 w3 H' σ4 e1 S2 O4 _ st4 ?_
          cases y : mt e1 S2 with
          | stuck => simp only [y] at p2; exact p2
          | exc c q s => simp only [y] at p2; exact False.elim p2
          | ok bb S5 =>
            intro w5 H5 st5 l5
            have keepD : ∀ {w6 : Wd} {H6 : Hp}, Frame w2 H2 w6 H6 → H6 Z = some (.dK us) ∧ w6.G Z = none ∧ Z ∉ w6.rho := fun {w6 H6} f6 =>
              ⟨f6.keep Z _ e2 r2 nt_dK, (f6.newG Z (by rw [e2]; exact fun z => nomatch z)).trans g2, fun q => by
                rcases f6.rho Z q with z | z
                · exact r2 z
                · rw [e2] at z; cases z⟩
            cases bb with
            | false =>
              simp only [y] at p2
              simp only [Bool.false_eq_true, if_false]
              obtain ⟨q1, q2, q3⟩ := keepD st5.fr
              exact ⟨w5, S5, acc, us, f2.trans st5.fr, st5.ok, q1, hf.mono st5.fr.le, q2, q3, PostX.mono p2 st5.fr.le⟩
            | true =>
              simp only [y] at p2
              simp only [if_true]
              rw [← hme] at p2
              refine hk w2 H2 w5 H5 σ4 e1 S5 O4 _ st5 ?_
              cases u : mk e1 S5 with
              | stuck => rw [eKV_stuck u] at p2; exact p2
              | exc c q s => rw [eKV_exc u] at p2; exact False.elim p2
              | ok kd S6 =>
                intro w6 H6 st6 l6 v6 r6
                cases kk : keyD kd with
                | none =>
                  rw [eKV_none u kk] at p2
                  exact False.elim p2
                | some key =>
                  have p2 : PostX g W w0 H0 w2 σ env O ((match (mv e1 S6).bind fun v S2 => R.ok (D.tup [kd, v]) S2 with
                    | .ok y S3 => (lcR mg mt (eKV mk mv) (wipeE env vs) (ds.drop (i + 1)) S3).bind fun ys S4 => R.ok (y :: ys) S4
                    | _ => .stuck).bind (finDc acc)) (fun d _ w' H' => ∀ v, Rep g w' d v → Q v H') := by
                    rw [eKV_some u kk] at p2
                    exact p2
                  refine he w2 H2 w6 H6 σ4 e1 S6 O4 _ st6 ?_
                  cases u2 : mv e1 S6 with
                  | stuck => rw [u2] at p2; exact p2
                  | exc c q s => rw [u2] at p2; exact False.elim p2
                  | ok vd S7 =>
                    rw [u2] at p2
                    intro w7 H7 st7 l7 v7 r7
                    obtain ⟨q1, q2, q3⟩ := keepD st7.fr
                    have p3 : PostX g W w0 H0 w2 σ env O (((lcR mg mt (eKV mk mv) (wipeE env vs) (ds.drop (i + 1)) S7).bind fun ys S3 => R.ok (D.tup [kd, vd] :: ys) S3).bind (finDc acc)) (fun d _ w' H' => ∀ v, Rep g w' d v → Q v H') := p2
                    rw [hme] at p3
                    have p4 : PostX g W w0 H0 w2 σ env O ((lcR mg mt me' (wipeE env vs) (ds.drop (i + 1)) S7).bind (finDc (putD acc key vd))) (fun d _ w' H' => ∀ v, Rep g w' d v → Q v H') := by
                      cases q : lcR mg mt me' (wipeE env vs) (ds.drop (i + 1)) S7 with
                      | stuck => rw [q] at p3; exact p3
                      | exc c a s => rw [q] at p3; exact p3
                      | ok ys s =>
                        rw [q] at p3
                        have p3 : PostX g W w0 H0 w2 σ env O (finDc acc (D.tup [kd, vd] :: ys) s) _ := p3
                        show PostX g W w0 H0 w2 σ env O (finDc (putD acc key vd) ys s) _
                        have e : finDc acc (D.tup [kd, vd] :: ys) s = finDc (putD acc key vd) ys s := by
                          unfold finDc
                          rw [kvsOf, kk]
                        rw [← e]
                        exact p3
                    have hsz : acc.length ≤ 1000 := by
                      cases q : lcR mg mt me' (wipeE env vs) (ds.drop (i + 1)) S7 with
                      | stuck => rw [q] at p4; exact False.elim p4
                      | exc c a s => exact absurd q (lcR_noexc _ _ _ _ _)
                      | ok ys s =>
                        rw [q] at p4
                        have p4 : PostX g W w0 H0 w2 σ env O (finDc (putD acc key vd) ys s) _ := p4
                        unfold finDc at p4
                        cases hns : kvsOf ys (putD acc key vd) with
                        | none => rw [hns] at p4; exact False.elim p4
                        | some ks =>
                          rw [hns] at p4
                          simp only at p4
                          split at p4
                          · rename_i hz
                            exact Nat.le_trans (putD_le acc key vd) (Nat.le_trans (kvsOf_le hns) (of_decide_eq_true hz))
                          · exact False.elim p4
                    have hf7 := hf.mono st7.fr.le
                    refine ⟨us, key, rep_key r6 kk, q1, by rw [← hf7.len]; exact Nat.lt_of_le_of_lt hsz (by decide), ?_⟩
                    have f7 := (f2.trans st7.fr).upd_new (o := .dK (putK us key v7)) hD
                    have k7 := ok_updK (o := .dK (putK us key v7)) st7.ok q1 q2 q3
                    exact ⟨w7, S7, putD acc key vd, putK us key v7, f7, k7, upd_same, hf7.put_ r7, q2, q3, PostX.mono p4 st7.fr.le⟩
    · have ei : i = ds.length := by omega
      refine .inl ⟨by rw [ei]; exact hstop, ?_⟩
      have ed : ds.drop i = [] := by rw [ei]; exact List.drop_length
      rw [ed] at p2
      have p2 : PostX g W w0 H0 w2 σ env O (finDc acc [] S2) _ := p2
      unfold finDc kvsOf at p2
      simp only [] at p2
      split at p2
      · obtain ⟨st3, l3⟩ := any_freeze st2 e2 nt_dK o1 g2 r2 o4
        refine p2 _ H2 st3 l3 (.ref Z) ?_
        unfold Rep
        exact ⟨Z, us, rfl, .inl upd_same, hf.mono l3⟩
      · exact False.elim p2
def unlkE (n : Nat) : R D → R D
  | .ok c S => (match S[n]? with
    | some (.lck ks) => .ok c (S.set n (.dic ks))
    | _ => .stuck)
  | _ => .stuck
def eLockD (md : ME) (m : ME) : ME := fun env S => match md env S with
  | .ok (.ref n) _ => (match S[n]? with
    | some (.dic ks) => unlkE n (m (wipeE env []) (S.set n (.lck ks)))
    | _ => .stuck)
  | _ => .stuck
def itItems (md : ME) : MI := fun env S => (md env S).bind fun d S1 => match d with
  | .ref n => (match S1[n]? with
    | some (.lck ks) => .ok (ks.map fun p => .tup [keyV p.1, p.2]) S1
    | _ => .stuck)
  | _ => .stuck
def sClrE (mo : ME) : MS := fun env S => (mo env S).out env fun d0 S0 => (match d0 with
  | .ref n => (match S0[n]? with
    | some (.lst _) => .nx env (S0.set n (.lst []))
    | _ => .stuck)
  | _ => .stuck)
theorem t_clrE (ho : SE X Y W o to mo) (hK : X.K = Y.K := by rfl)
    (hbase : attributeBase o "clear" X.env (eval o X.env) = eval o X.env := by rfl) (hline : (apos.endLine == cpos.line) = true := by rfl)
    (hsw : swapsWith (.Call (.Attribute o "clear" apos) [] [] cpos) none pos.line X.env = pure false := by rfl) :
    SS X Y W (.Expr (.Call (.Attribute o "clear" apos) [] [] cpos) pos) (tDrop (tBM0 Y.K "list" rClear to)) (sClrE mo) :=
  ⟨hK ▸ ps_expr (pe_bm0 PySem.F.plainAttrs_list PySem.F.slot_list_clear PySem.F.type_list_clear mt_clear ho.pe hbase hline) hsw, fun w0 H0 w H σ env S O Dn st p => by
    unfold sClrE at p
    refine ho.sim w0 H0 w H σ env S O _ st ((PostS.out p).imp fun d0 S0 w1 H1 st1 l1 p1 v0 r0 => ?_)
    split at p1
    · rename_i n
      split at p1
      · rename_i ds0 hS0
        obtain ⟨a, us, x1, x2, x3, x4⟩ := cell_lst st1.ok r0 hS0
        refine ⟨by rw [x1]; exact tyV_lst x3, a, us, x1, rfl, x3, ?_⟩
        obtain ⟨k3, f3⟩ := ok_cell (c' := .lst []) st1.ok x2 hS0 (o := .lst []) ⟨_, upd_same, RepL.nil_⟩ nt_lst
        exact p1 w1 _ σ O (st1.after f3 k3) (.refl w1)
      · exact p1.elim
    · exact p1.elim⟩
end
end Mm
namespace Mm
open PySem L2
mutual
def flatD : D → Bool
  | .tup ds => flatL ds
  | d => scal d
def flatL : List D → Bool
  | [] => true
  | d :: ds => flatD d && flatL ds
end
noncomputable def bkG (w : Wd) (H : Hp) (w2 : Wd) : Hp := fun a => match w.G a with
  | some o => some o
  | none => open Classical in if H a = none then w2.G a else none
section
variable {g : Gam} {w w2 : Wd} {H H2 : Hp} {S S2 : Sto}
theorem bk_old {a : Addr} {o : HO} (h : w.G a = some o) : bkG w H w2 a = some o := by
  unfold bkG
  rw [h]
theorem bk_new {a : Addr} (k : Ok g w H S) (h : H a = none) : bkG w H w2 a = w2.G a := by
  unfold bkG
  cases z : w.G a with
  | some o =>
    have := k.ex a o z
    rw [h] at this
    cases this
  | none => exact if_pos h
theorem bk_no {a : Addr} (h : H a ≠ none) : bkG w H w2 a = w.G a := by
  unfold bkG
  cases z : w.G a with
  | some o => rfl
  | none => exact if_neg h
theorem cell_notup {a : Addr} {c : Cell} {vs : List V} {x : HO} (hx : x = .tup vs ∨ ∃ o, x = .frz o (.tup vs)) (h : CellR g w H a c) : H a ≠ some x := fun e => by
  cases c with
  | lst ds => obtain ⟨_, q, _⟩ := h; rw [e] at q; cases q; rcases hx with hx | ⟨o, hx⟩ <;> cases hx
  | ins c fs => obtain ⟨_, _, q, _⟩ := h; rw [e] at q; cases q; rcases hx with hx | ⟨o, hx⟩ <;> cases hx
  | dic ks => obtain ⟨_, q, _⟩ := h; rw [e] at q; cases q; rcases hx with hx | ⟨o, hx⟩ <;> cases hx
  | tdc ks => have q : H a = some _ := h; rw [e] at q; cases q; rcases hx with hx | ⟨o, hx⟩ <;> cases hx
  | lck ks => obtain ⟨_, _, q, _⟩ := h; rw [e] at q; cases q; rcases hx with hx | ⟨o, hx⟩ <;> cases hx
  | mem ks => obtain ⟨_, _, _, _, q, _⟩ := h; rw [e] at q; cases q; rcases hx with hx | ⟨o, hx⟩ <;> cases hx
  | lkl ks => obtain ⟨_, _, q, _⟩ := h; rw [e] at q; cases q; rcases hx with hx | ⟨o, hx⟩ <;> cases hx
theorem tup_back (k : Ok g w H S) (f : Frame ⟨[], thG w H⟩ H w2 H2) {a : Addr} {vs : List V} (h : TupR g.K w2.G a vs) : TupR g.K (bkG w H w2) a vs := by
  have one : ∀ x : HO, (x = .tup vs ∨ ∃ o, x = .frz o (.tup vs)) → w2.G a = some x → bkG w H w2 a = some x := fun x hx h => by
    by_cases n : H a = none
    · rw [bk_new k n]
      exact h
    · rw [bk_no n]
      have e : w2.G a = thG w H a := f.newG a n
      rw [h] at e
      cases z : w.G a with
      | some o =>
        rw [thG_old z] at e
        exact e.symm
      | none =>
        exfalso
        by_cases m : a ∈ w.rho
        · rw [thG_cell z m] at e
          obtain ⟨i, hi⟩ := List.getElem?_of_mem m
          have ln : i < S.length := by
            rw [← k.cells.len]
            exact (List.getElem?_eq_some_iff.mp hi).1
          exact cell_notup hx (k.cells.at_ i a S[i] hi (List.getElem?_eq_getElem ln)).2 e.symm
        · unfold thG at e
          rw [z] at e
          have e : some x = (open Classical in if a ∈ w.rho then H a else none) := e
          rw [if_neg m] at e
          cases e
  rcases h with (h | h) | h
  · exact .inl (.inl (one _ (.inl rfl) h))
  · exact h.elim
  · obtain ⟨q, r⟩ := h
    refine .inr ⟨?_, r⟩
    rcases q with q | q
    · rcases q with q | ⟨o, q⟩
      · exact .inl (.inl (one _ (.inl rfl) q))
      · exact .inl (.inr ⟨o, one _ (.inr ⟨o, rfl⟩) q⟩)
    · exact .inr q
mutual
theorem flat_back (k : Ok g w H S) (f : Frame ⟨[], thG w H⟩ H w2 H2) : ∀ {d : D} {v : V}, flatD d = true → Rep g w2 d v → Rep g ⟨w.rho, bkG w H w2⟩ d v
  | .tup ds, v, h, r => by
    unfold flatD at h
    unfold Rep at r ⊢
    obtain ⟨a, vs, e1, e2, e3⟩ := r
    exact ⟨a, vs, e1, tup_back k f e2, flat_backL k f h e3⟩
  | .non, v, h, r => by unfold Rep at r ⊢; exact r
  | .bl b, v, h, r => by unfold Rep at r ⊢; exact r
  | .int b, v, h, r => by unfold Rep at r ⊢; exact r
  | .str b, v, h, r => by unfold Rep at r ⊢; exact r
  | .ty b, v, h, r => by unfold Rep at r ⊢; exact r
  | .cls b, v, h, r => by unfold Rep at r ⊢; exact r
  | .adr b, v, h, r => by unfold Rep at r ⊢; exact r
  | .lst _, v, h, r => by unfold flatD at h; cases h
  | .ins _ _, v, h, r => by unfold flatD at h; cases h
  | .ref _, v, h, r => by unfold flatD at h; cases h
  | .scr _, v, h, r => by unfold flatD at h; cases h
  | .set _, v, h, r => by unfold flatD at h; cases h
  | .dic _, v, h, r => by unfold flatD at h; cases h
  | .tdc _, v, h, r => by unfold flatD at h; cases h
  | .tds _, v, h, r => by unfold flatD at h; cases h
  | .any, v, h, r => by unfold flatD at h; cases h
theorem flat_backL (k : Ok g w H S) (f : Frame ⟨[], thG w H⟩ H w2 H2) : ∀ {ds : List D} {vs : List V}, flatL ds = true → RepL g w2 ds vs → RepL g ⟨w.rho, bkG w H w2⟩ ds vs
  | [], vs, h, r => by
    unfold RepL at r ⊢
    exact r
  | d :: ds, vs, h, r => by
    unfold flatL at h
    rw [Bool.and_eq_true] at h
    unfold RepL at r
    obtain ⟨v, us, rfl, a, b⟩ := r
    exact RepL.cons_ (flat_back k f h.1 a) (flat_backL k f h.2 b)
end
theorem bk_frame (k : Ok g w H S) (f : Frame ⟨[], thG w H⟩ H w2 H2) (k2 : Ok g w2 H2 S2) : Frame w H ⟨w.rho, bkG w H w2⟩ H2 ∧ Ok g ⟨w.rho, bkG w H w2⟩ H2 S := by
  have kp : ∀ a o, H a = some o → (∀ ps, o ≠ .tbl ps) → H2 a = some o := fun a o e n => f.keep a o e (by simp) n
  have le : w.le ⟨w.rho, bkG w H w2⟩ := ⟨⟨[], by simp⟩, fun a o e => bk_old e⟩
  have inv : ∀ a o, bkG w H w2 a = some o → w.G a = some o ∨ (H a = none ∧ w2.G a = some o) := fun a o e => by
    by_cases n : H a = none
    · rw [bk_new k n] at e
      exact .inr ⟨n, e⟩
    · rw [bk_no n] at e
      exact .inl e
  refine ⟨⟨le, fun a o e _ n => kp a o e n, fun a n => bk_no n, fun _ z => .inl z, f.dom, f.tb, f.fz⟩, ⟨fun a o e => ?_, ⟨k.cells.nd, k.cells.len, fun m a c e1 e2 => ?_⟩, k2.tabs, fun a ps e => ?_⟩⟩
  · rcases inv a o e with e | ⟨_, e⟩
    · exact kp a o (k.ex a o e) (fun ps z => k.notab a ps (by rw [e, z]))
    · exact k2.ex a o e
  · obtain ⟨q1, q2⟩ := k.cells.at_ m a c e1 e2
    obtain ⟨x, q3, q4⟩ := q2.some_
    exact ⟨by
      show bkG w H w2 a = none
      rw [bk_no (by rw [q3]; exact fun z => nomatch z)]
      exact q1, q2.move le (by rw [q3, kp a x q3 q4])⟩
  · rcases inv a _ e with e | ⟨_, e⟩
    · exact k.notab a ps e
    · exact k2.notab a ps e
end
def fThaw (m : MF) : MF := fun env S => match m (env.map (thV S)) [] with
  | .ok (.lst ds) _ => if flatL ds then .ok (.lst ds) S else .stuck
  | _ => .stuck
theorem StR.thaw0 {g : Gam} {w0 w : Wd} {H0 H : Hp} {σ : L2.St} {env : Envr} {S : Sto} {O : List (Option Addr)} (st : StR g w0 H0 w H σ env S O) :
    StR g ⟨[], thG w H⟩ H ⟨[], thG w H⟩ H σ (env.map (thV S)) [] (List.replicate σ.length none) := by
  refine ⟨th_ok st.ok, .refl _ _, by rw [List.length_map]; exact st.l1, List.length_replicate, fun i s x o e1 e2 e3 => ?_, fun i j p e _ => ?_, fun i p e => ?_⟩
  · have eo : o = none := by
      rw [List.getElem?_replicate] at e3
      split at e3
      · exact (Option.some.inj e3).symm
      · cases e3
    rw [List.getElem?_map] at e1
    cases q : env[i]? with
    | none => rw [q] at e1; cases e1
    | some s' =>
      rw [q] at e1
      have e1 : thV S s' = s := Option.some.inj e1
      cases s' with
      | no => rw [← e1]; exact eo
      | o c => rw [← e1]; exact eo
      | v d =>
        have e1 : (match thD S d with
          | some e => Sl.v e
          | none => .no) = s := e1
        cases hd : thD S d with
        | some e =>
          rw [hd] at e1
          rw [← e1]
          have hO : i < O.length := by
            rw [st.l2, ← st.l1]
            exact (List.getElem?_eq_some_iff.mp q).1
          obtain ⟨_, v, q1, q2⟩ := st.sl i (.v d) x O[i] q e2 (List.getElem?_eq_getElem hO)
          exact ⟨eo, v, q1, thD_ok st.ok hd q2⟩
        | none =>
          rw [hd] at e1
          rw [← e1]
          exact eo
  · rw [List.getElem?_replicate] at e
    split at e <;> cases e
  · rw [List.getElem?_replicate] at e
    split at e <;> cases e
section
variable {X : Cx} {Y : Gam} {W : WX} {e : Expr} {te : TE} {mf : MF}
theorem f_thaw (h : SF X Y W e te mf) : SF X Y W e te (fThaw mf) := ⟨h.pe, fun w0 H0 w H σ env S O Q st p => by
  have st1 := st.thaw0
  refine h.sim _ _ _ _ σ _ [] _ Q st1 ?_
  unfold fThaw at p
  cases z : mf (env.map (thV S)) [] with
  | stuck => rw [z] at p; exact p
  | exc c q S2 => rw [z] at p; exact False.elim p
  | ok c S2 =>
    rw [z] at p
    cases c with
    | lst ds =>
      have p : PostX Y W w0 H0 w σ env O (if flatL ds = true then R.ok (Cell.lst ds) S else .stuck) _ := p
      split at p
      · rename_i hc
        intro w2 H2 st2 l2 q ow
        obtain ⟨f1, k1⟩ := bk_frame st.ok st2.fr st2.ok
        have hn : H q = none := ow.n0
        refine p _ H2 (st.after f1 k1) f1.le q ⟨?_, ?_, fun z => ?_, fun i z => ?_, ?_⟩
        · cases e : H0 q with
          | none => rfl
          | some o => exact absurd hn (st.fr.dom q (by rw [e]; exact fun z => by cases z))
        · show bkG w H w2 q = none
          rw [bk_new st.ok hn]
          exact ow.ng
        · obtain ⟨n, hn'⟩ := List.getElem?_of_mem z
          have ln : n < S.length := by
            rw [← st.ok.cells.len]
            exact (List.getElem?_eq_some_iff.mp hn').1
          obtain ⟨x, q3, _⟩ := (st.ok.cells.at_ n q S[n] hn' (List.getElem?_eq_getElem ln)).2.some_
          rw [hn] at q3
          cases q3
        · obtain ⟨_, _, c', hc'⟩ := st.fresh i q z
          obtain ⟨p', e1, e2, _, e4, _⟩ := st.own_at hc'
          rw [z] at e2
          cases e2
          obtain ⟨x, q3, _⟩ := e4.some_
          rw [hn] at q3
          cases q3
        · obtain ⟨vs, e1, e2⟩ := ow.at_
          exact ⟨vs, e1, flat_backL st.ok st2.fr hc e2⟩
      · exact False.elim p
    | ins c fs => exact False.elim p
    | dic ks => exact False.elim p
    | tdc ks => exact False.elim p
    | lck ks => exact False.elim p
    | mem ks => exact False.elim p
    | lkl ks => exact False.elim p⟩
end
end Mm
namespace K29
open PySem L2 Mm Fb
noncomputable def m_FoldU_initU_t : MFn := mFn 4 (sSeq (sIf (cOr (cB (eOp iLt (eV 2) (eC (.int 0)))) (cOr (cB (eOp iGt (eV 2) (eC (.int 12)))) (cB (eOp iGt (eCB fLen (aCons (eV 1) aNil)) (eC (.int 12)))))) (sRaise "BadFold") sNil)
    (sSeq (sForA (eV 1) (gN 3) (sIf (cOr (cB (eOp iLt (eV 3) (eC (.int 0)))) (cB (eOp iGt (eOp iShr (eV 3) (eV 2)) (eC (.int 0))))) (sRaise "BadFold") sNil))
    (sSeq (sFldC "Fold" "lines" (eV 0) (eCB fTupA (aCons (eV 1) aNil)))
    (sFldC "Fold" "wide" (eV 0) (eV 2)))))
noncomputable def m_Body_need_spread_t : MFn := mFn 5 (sSeq (sIf (cOr (cB (eOp fNe (eCB fLen (aCons (eV 1) aNil)) (eOp dAdd (eOp fIx (eFld "Body" "wide" (eV 0)) (eC (.int 0))) (eOp fIx (eFld "Body" "wide" (eV 0)) (eC (.int 1)))))) (cB (eCB fAny (aCons (mFrz (fThaw (fLc (itL (eV 1)) (gN 4) cYes (eOr (eOp iLt (eV 4) (eC (.int 0))) (eOp iGt (eOp iShr (eV 4) (eV 2)) (eC (.int 0)))) [4]))) aNil)))) (sRaise "BadRows") sNil)
    (sSeq (sAsg (eNew "Fold" m_FoldU_initU_t [] (aCons (eV 1) (aCons (eV 2) aNil))) (gN 3))
    (sSeq (sIf (cNot (cB (eMeth "Fold" "onto" m_Fold_onto [] (eV 3) aNil))) (sRaise "BadRows") sNil)
    (sRet (eV 3)))))
noncomputable def m_Body_lay_t : MFn := mFn 6 (sSeq (sExpr (eMeth "Body" "need_new" m_Body_need_new [] (eV 0) (aCons (eV 1) aNil)))
    (sSeq (sAsg (eCall m_digits_of [] (aCons (eCB fLen (aCons (eV 3) aNil)) (aCons (eOp dAdd (eOp fIx (eFld "Body" "wide" (eV 0)) (eC (.int 0))) (eOp fIx (eFld "Body" "wide" (eV 0)) (eC (.int 1)))) aNil))) (gN 4))
    (sSeq (sIf (cB (eCB fAny (aCons (mFrz (fThaw (fLc (itL (eV 3)) (gN 5) cYes (eOr (eOp iLt (eV 5) (eUn fNeg (eC (.int 1000000000)))) (eOp iGt (eV 5) (eC (.int 1000000000)))) [5]))) aNil))) (sRaise "BadCells") sNil)
    (sDPut (eFld "Body" "tables" (eV 0)) (eV 1) (eCall m_laid [] (aCons (eMeth "Body" "need_spread" m_Body_need_spread_t [] (eV 0) (aCons (eV 2) (aCons (eV 4) aNil))) (aCons (mFrz (fCB fListOf (aCons (eV 3) aNil))) aNil)))))))
noncomputable def m_law : MFn := mFn 17 (sSeq (sCell 1 (fCall m__law_box [] (aCons (eV 0) aNil)))
    (sSeq (sCell 2 (fCall m__law_model [] (aCons (eCall m__law_wide [] (aCons (eV 1) aNil)) aNil)))
    (sSeq (sAsg (eNewC "Body" m_BodyU_initU [] (aCat (aCons (eOp fIx (eDGetA 2 (eC (.str "wide"))) (eC (.int 0))) (aCons (eOp fIx (eDGetA 2 (eC (.str "wide"))) (eC (.int 1))) aNil)) (aCons (eOp fIx (eDGetA 2 (eC (.str "wide"))) (eC (.int 2))) aNil))) (gN 3))
    (sSeq (sFor (itR1 (aCons (eOp dAdd (eC (.int 1)) (eCall m__law_take [] (aCons (eV 1) (aCons (eC (.int 4)) aNil)))) aNil)) (gN 4) (sSeq (sAsg (eCall m__law_lay [] (aCons (eV 1) (aCons (eCall m__law_deep [] (aCons (eV 2) aNil)) aNil))) (gT (gNC (gN 5) (gNC (gN 6) (gNC (gN 7) (gNC (gN 8) gN0))))))
    (sIf (cB (eDIn true (eV 6) (eDGetA 2 (eC (.str "tables"))))) (sSeq (sAsg (mFrz (fLst (aCons (eCellOf (fCB fListOf (aCons (eV 7) aNil))) (aCons (eCellOf (fCB fListOf (aCons (eV 8) aNil))) aNil)))) (gN 9))
    (sSeq (sAsg (eIf (cB (eOp fEq (eCall m__law_take [] (aCons (eV 1) (aCons (eC (.int 2)) aNil))) (eC (.int 0)))) (eMeth "Body" "lay" m_Body_lay_t [] (eV 3) (aCons (eV 6) (aCons (eOp fIx (eV 9) (eC (.int 0))) (aCons (eOp fIx (eV 9) (eC (.int 1))) aNil)))) (eMeth "Body" "lay" m_Body_lay [] (eV 3) (aCons (eV 6) (aCons (eV 7) (aCons (eV 8) aNil))))) (gN 10))
    (sSeq (sClrE (eOp fIx (eV 9) (eC (.int 0))))
    (sSeq (sClrE (eOp fIx (eV 9) (eC (.int 1))))
    (sSeq (sDPut (eDGetA 2 (eC (.str "tables"))) (eV 6) (eTup (aCons (eV 7) (aCons (mFrz (fCB fListOf (aCons (eV 8) aNil))) (aCons (eC .non) aNil)))))
    (sIf (cB (eOp fIsNot (eV 10) (eC .non))) (sRet (eC (.bl false))) sNil)))))) sNil)))
    (sSeq (sForD (eDGetA 2 (eC (.str "tables"))) (gN 6) (sSeq (sAsg (eDGet (eDGetA 2 (eC (.str "tables"))) (eV 6)) (gT (gNC (gN 7) (gNC (gN 8) (gNC (gN 11) gN0)))))
    (sSeq (sAsg (eCall m__law_many [] (aCons (eCB fLen (aCons (eV 8) aNil)) aNil)) (gN 12))
    (sSeq (sAsg (eCall m__law_homes [] (aCons (eV 7) aNil)) (gN 13))
    (sFor (itR1 (aCons (eC (.int 2)) aNil)) (gN 14) (sSeq (sIf (cNot (cB (eCall (m__law_same 4) [] (aCons (mFrz (fLst (aCons (eMeth "Body" "digits" m_Body_digits [] (eV 3) (aCons (eV 6) aNil)) (aCons (eMeth "Body" "rows" m_Body_rows [] (eV 3) (aCons (eV 6) aNil)) (aCons (eMeth "Body" "moving" m_Body_moving [] (eV 3) (aCons (eV 6) aNil)) aNil))))) (aCons (mFrz (fLst (aCons (eV 12) (aCons (eV 7) (aCons (eC .non) aNil))))) aNil))))) (sRet (eC (.bl false))) sNil)
    (sSeq (sOwn 15 (fMeth "Body" "cells" m_Body_cells [] (eV 3) (aCons (eV 6) aNil)))
    (sSeq (sIf (cLend [15] (cNot (cB (eCall (m__law_same 4) [] (aCons (eV 15) (aCons (eV 8) aNil)))))) (sRet (eC (.bl false))) sNil)
    (sSeq (sClr 15)
    (sFor (itR1 (aCons (eOp iShl (eC (.int 1)) (eV 12)) aNil)) (gN 16) (sSeq (sOwn 15 (fMeth "Body" "berths" m_Body_berths [] (eV 3) (aCons (eV 6) (aCons (eV 16) aNil))))
    (sSeq (sIf (cLend [15] (cNot (cB (eCall (m__law_same 4) [] (aCons (eV 15) (aCons (eDGetA 13 (eV 16)) aNil)))))) (sRet (eC (.bl false))) sNil)
    (sApp 15 (eC (.int 0)))))))))))))))
    (sRet (eAnd (eCall m__law_stands [] (aCons (eV 3) (aCons (eV 2) aNil))) (eCall m__law_held_right [] (aCons (eV 3) (aCons (eV 2) aNil))))))))))
end K29
namespace K29
open PySem L2 Mm Fb
section
variable {P : Program} {w : World} {K : PySem.W.Frag} {mg : Str → Option Value} {base : Heap} {ca : Str → Addr} {T : List (Addr × Str)}
abbrev N_NoTableU_initU : List Str := ["self", "name"]
theorem sc_NoTableU_initU : FnScope N_NoTableU_initU ["self", "name"] (defScope s_NoTableU_initU) := ⟨rfl, rfl, rfl, by decide +kernel, rfl, by decide +kernel, by decide +kernel⟩
theorem ok_NoTableU_initU {f : Addr} {fd : FuncData} (F : FnPk K "__init__" "NoTable.__init__" s_NoTableU_initU [] [] f fd) (gB : mg "FoldError" = some (.ref ((GY K ca T).ca "FoldError"))) (b : BasI K ((GY K ca T).ca "FoldError")) : FnOk P w K mg base (L2N.CX P w) 1 f fd ["self", "name"] (spX K "name") :=
  F.ok sc_NoTableU_initU (fun vs H Q E h => by obtain ⟨_, _, _, rfl, _⟩ := h; rfl) fun cdv A outer s H vs Q E hr h => ⟨_, pss_cons (ps_expr (pe_feinit (x := "FoldError") rfl gB b (pa_cons (sv (Y := GY K ca T) (W := W0) 0).pe (pa_cons (s_str (Y := GY K ca T) (W := W0)).pe pa_nil)))) (pss_one (ps_ost (sv (Y := GY K ca T) (W := W0) 0).pe (sv (Y := GY K ca T) (W := W0) 1).pe)), xinit_post rfl h⟩
abbrev N_NoStashU_initU : List Str := ["self", "name"]
theorem sc_NoStashU_initU : FnScope N_NoStashU_initU ["self", "name"] (defScope s_NoStashU_initU) := ⟨rfl, rfl, rfl, by decide +kernel, rfl, by decide +kernel, by decide +kernel⟩
theorem ok_NoStashU_initU {f : Addr} {fd : FuncData} (F : FnPk K "__init__" "NoStash.__init__" s_NoStashU_initU [] [] f fd) (gB : mg "FoldError" = some (.ref ((GY K ca T).ca "FoldError"))) (b : BasI K ((GY K ca T).ca "FoldError")) : FnOk P w K mg base (L2N.CX P w) 1 f fd ["self", "name"] (spX K "name") :=
  F.ok sc_NoStashU_initU (fun vs H Q E h => by obtain ⟨_, _, _, rfl, _⟩ := h; rfl) fun cdv A outer s H vs Q E hr h => ⟨_, pss_cons (ps_expr (pe_feinit (x := "FoldError") rfl gB b (pa_cons (sv (Y := GY K ca T) (W := W0) 0).pe (pa_cons (s_str (Y := GY K ca T) (W := W0)).pe pa_nil)))) (pss_one (ps_ost (sv (Y := GY K ca T) (W := W0) 0).pe (sv (Y := GY K ca T) (W := W0) 1).pe)), xinit_post rfl h⟩
abbrev N__law_box : List Str := ["_law_script"]
theorem sc__law_box : FnScope N__law_box ["_law_script"] (defScope s__law_box) := ⟨rfl, rfl, rfl, by decide +kernel, rfl, by decide +kernel, by decide +kernel⟩
theorem ok__law_box {f : Addr} {fd : FuncData} (F : FnPk K "_law_box" "_law_box" s__law_box [] [] f fd) (B : Bl mg) : FnOk P w K mg base (L2N.CX P w) 1 f fd ["_law_script"] (spOf (GY K ca T) 1 m__law_box) :=
  fn_sim (GY K ca T) F sc__law_box rfl fun cdv A outer s H E hr tk po => by
  have nd := sc__law_box.nd
  exact ⟨_, (b_one (t_retF (f_lst (a_cons (SF.val (f_ct co_list call_list_of B.list PyProof.Rows.boot_list (a_cons (SF.val (f_sl (sv 0) o_none (o_some s_int))) a_nil))) (a_cons s_int (a_cons s_int (a_cons s_int a_nil)))))))⟩
abbrev N__law_model : List Str := ["_law_wide_here"]
theorem sc__law_model : FnScope N__law_model ["_law_wide_here"] (defScope s__law_model) := ⟨rfl, rfl, rfl, by decide +kernel, rfl, by decide +kernel, by decide +kernel⟩
theorem ok__law_model {f : Addr} {fd : FuncData} (F : FnPk K "_law_model" "_law_model" s__law_model [] [] f fd) : FnOk P w K mg base (L2N.CX P w) 1 f fd ["_law_wide_here"] (spOf (GY K ca T) 1 m__law_model) :=
  fn_sim (GY K ca T) F sc__law_model rfl fun cdv A outer s H E hr tk po => by
  have nd := sc__law_model.nd
  exact ⟨_, (b_one (t_retF (f_dispN (sd_cons (k := "wide") (sv 0) (sd_cons (k := "tables") (s_cellOf (f_dic0)) (sd_cons (k := "store") (s_cellOf (f_dic0)) (sd_cons (k := "paid") (s_tup (a_cons s_int (a_cons s_int a_nil))) sd_nil)))))))⟩
abbrev N__law_take : List Str := ["_law_box_here", "_law_sides", "_law_tail", "_law_cell", "_law_seed"]
theorem sc__law_take : FnScope N__law_take ["_law_box_here", "_law_sides"] (defScope s__law_take) := ⟨rfl, rfl, rfl, by decide +kernel, rfl, by decide +kernel, by decide +kernel⟩
theorem ok__law_take {f : Addr} {fd : FuncData} (F : FnPk K "_law_take" "_law_take" s__law_take [] [] f fd) (B : Bl mg) : FnOk P w K mg base (L2N.CX P w) 1 f fd ["_law_box_here", "_law_sides"] (spOf (GY K ca T) 2 m__law_take) :=
  fn_sim (GY K ca T) F sc__law_take rfl fun cdv A outer s H E hr tk po => by
  have nd := sc__law_take.nd
  exact ⟨_, (b_cons (t_if (c_cmp od_gt op_gt (s_ix od_ix ix_lt (sv 0) s_int (fun _ _ => rfl)) s_int (nomark _)) (b_cons (u_set 2 (s_ix od_ix ix_lt (sv 0) s_int (fun _ _ => rfl)) nd)
    (b_cons (t_put 0 s_int (s_op od_div op_fdivN (sv 2) (sv 1)))
    (b_one (t_ret (s_op od_mod op_modN (sv 2) (sv 1)))))) b_nil)
    (b_cons (u_set 3 s_int nd)
    (b_cons (t_if (c_cmp od_lt op_lt (s_ix od_ix ix_lt (sv 0) s_int (fun _ _ => rfl)) (s_cb cd_len cr_len B.len PySem.boot_len (a_cons (s_ix od_ix ix_lt (sv 0) s_int (fun _ _ => rfl)) a_nil)) (nomark _)) (b_cons (u_set 3 (s_ix od_ix ix_lt (s_ix od_ix ix_lt (sv 0) s_int (fun _ _ => rfl)) (s_ix od_ix ix_lt (sv 0) s_int (fun _ _ => rfl)) (fun _ _ => rfl)) nd)
    (b_one (t_augC ip_add (sv 0) s_int s_int))) b_nil)
    (b_cons (t_if (c_cmp od_ge op_ge (sv 3) (s_op od_pow op_pow s_int s_int) (nomark _)) (b_cons (t_put 0 s_int (s_op od_div op_fdivN (sv 3) (sv 1)))
    (b_one (t_ret (s_op od_mod op_modN (sv 3) (sv 1))))) b_nil)
    (b_cons (u_set 4 (s_ix od_ix ix_lt (sv 0) s_int (fun _ _ => rfl)) nd)
    (b_cons (t_put 0 s_int (s_op od_mod op_modN (s_op od_add op_addD (s_op od_add op_addD (s_op od_add op_addD (s_op od_pow op_pow (sv 4) s_int) (s_op od_mul op_mul s_int (sv 4))) (s_op od_mul op_mul s_int (s_op od_mod op_modN (sv 3) s_int))) s_int) s_int))
    (b_one (t_ret (s_op od_mod op_modN (s_op od_div op_fdivN (s_ix od_ix ix_lt (sv 0) s_int (fun _ _ => rfl)) s_int) (sv 1))))))))))⟩
abbrev N__law_of : List Str := ["_law_box_here", "_law_some"]
theorem sc__law_of : FnScope N__law_of ["_law_box_here", "_law_some"] (defScope s__law_of) := ⟨rfl, rfl, rfl, by decide +kernel, rfl, by decide +kernel, by decide +kernel⟩
theorem ok__law_of {f : Addr} {fd : FuncData} (F : FnPk K "_law_of" "_law_of" s__law_of [] [] f fd) (B : Bl mg) (h__law_take : Kn P w K mg base (GY K ca T) 1 "_law_take" 2 m__law_take [] []) : FnOk P w K mg base (L2N.CX P w) 2 f fd ["_law_box_here", "_law_some"] (spOf (GY K ca T) 2 m__law_of) :=
  fn_sim (GY K ca T) F sc__law_of rfl fun cdv A outer s H E hr tk po => by
  have nd := sc__law_of.nd
  exact ⟨_, (b_one (t_ret (s_ix od_ix ix_lt (sv 1) (u_call h__law_take (hr.mono (by decide)) tk (a_cons (sv 0) (a_cons (s_cb cd_len cr_len B.len PySem.boot_len (a_cons (sv 1) a_nil)) a_nil))) (fun _ _ => rfl))))⟩
abbrev N__law_wide : List Str := ["_law_box_here", "_law_some"]
theorem sc__law_wide : FnScope N__law_wide ["_law_box_here"] (defScope s__law_wide) := ⟨rfl, rfl, rfl, by decide +kernel, rfl, by decide +kernel, by decide +kernel⟩
theorem ok__law_wide {f : Addr} {fd : FuncData} (F : FnPk K "_law_wide" "_law_wide" s__law_wide [] [] f fd) (h__law_of : Kn P w K mg base (GY K ca T) 2 "_law_of" 2 m__law_of [] []) : FnOk P w K mg base (L2N.CX P w) 3 f fd ["_law_box_here"] (spOf (GY K ca T) 1 m__law_wide) :=
  fn_sim (GY K ca T) F sc__law_wide rfl fun cdv A outer s H E hr tk po => by
  have nd := sc__law_wide.nd
  exact ⟨_, (b_cons (u_own 1 (f_lst (a_cons (s_tup (a_cons s_int (a_cons s_int (a_cons s_int a_nil)))) (a_cons (s_tup (a_cons s_int (a_cons s_int (a_cons s_int a_nil)))) (a_cons (s_tup (a_cons s_int (a_cons s_int (a_cons s_int a_nil)))) (a_cons (s_tup (a_cons s_int (a_cons s_int (a_cons s_int a_nil)))) (a_cons (s_tup (a_cons s_int (a_cons s_int (a_cons s_int a_nil)))) a_nil)))))) nd)
    (b_cons (t_ext 1 (SF.val (f_lst (a_cons (s_tup (a_cons s_int (a_cons s_int (a_cons s_int a_nil)))) (a_cons (s_tup (a_cons s_int (a_cons s_int (a_cons s_int a_nil)))) (a_cons (s_tup (a_cons s_int (a_cons s_int (a_cons s_int a_nil)))) (a_cons (s_tup (a_cons s_int (a_cons s_int (a_cons s_int a_nil)))) (a_cons (s_tup (a_cons s_int (a_cons s_int (a_cons s_int a_nil)))) a_nil))))))) nd)
    (b_frz 1 (b_one (t_ret (u_call h__law_of (hr.mono (by decide)) tk (a_cons (sv 0) (a_cons (sv 1) a_nil))))))))⟩
abbrev N_BodyU_initU : List Str := ["self", "box", "lane", "banks"]
theorem sc_BodyU_initU : FnScope N_BodyU_initU ["self", "box", "lane", "banks"] (defScope s_BodyU_initU) := ⟨rfl, rfl, rfl, by decide +kernel, rfl, by decide +kernel, by decide +kernel⟩
theorem ok_BodyU_initU {f : Addr} {fd : FuncData} (F : FnPk K "__init__" "Body.__init__" s_BodyU_initU [] [("banks", .int 2)] f fd) (x_BadSize : KnX K mg (GY K ca T) "BadSize") (C_Body : Cls K ((GY K ca T).ca "Body")) (n_Body_wide : NoAttr K ((GY K ca T).ca "Body") "wide") (n_Body_tables : NoAttr K ((GY K ca T).ca "Body") "tables") (n_Body_store : NoAttr K ((GY K ca T).ca "Body") "store") (n_Body_dues : NoAttr K ((GY K ca T).ca "Body") "dues") : FnOk P w K mg base (L2N.CX P w) 1 f fd ["self", "box", "lane", "banks"] (spOf (GY K ca T) 4 m_BodyU_initU) :=
  fn_sim (GY K ca T) F sc_BodyU_initU rfl fun cdv A outer s H E hr tk po => by
  have nd := sc_BodyU_initU.nd
  exact ⟨_, (b_cons (t_if (SW.sc (w_or (c_cmp od_lt op_lt (sv 1) s_int (nomark _)) (w_or (c_cmp od_gt op_gt (sv 1) s_int (nomark _)) (w_or (c_cmp od_lt op_lt (sv 2) s_int (nomark _)) (w_or (c_cmp od_gt op_gt (sv 2) s_int (nomark _)) (w_or (c_cmp od_lt op_lt (sv 3) s_int (nomark _)) (w_or1 (c_cmp od_gt op_gt (sv 3) s_int (nomark _))))))))) (b_one (u_raise x_BadSize tk)) b_nil)
    (b_cons (t_fld "Body" C_Body n_Body_wide (sv 0) (s_tup (a_cons (sv 1) (a_cons (sv 2) (a_cons (sv 3) a_nil)))))
    (b_cons (t_fld "Body" C_Body n_Body_tables (sv 0) (s_cellOf f_dic0))
    (b_cons (t_fld "Body" C_Body n_Body_store (sv 0) (s_cellOf f_dic0))
    (b_one (t_fld "Body" C_Body n_Body_dues (sv 0) (s_tup (a_cons s_int (a_cons s_int a_nil)))))))))⟩
abbrev N__law_cells : List Str := ["_law_box_here", "_law_many_here", "_law_top", "_law_cell"]
theorem sc__law_cells : FnScope N__law_cells ["_law_box_here", "_law_many_here"] (defScope s__law_cells) := ⟨rfl, rfl, rfl, by decide +kernel, rfl, by decide +kernel, by decide +kernel⟩
theorem ok__law_cells {f : Addr} {fd : FuncData} (F : FnPk K "_law_cells" "_law_cells" s__law_cells [] [] f fd) (B : Bl mg) (h__law_of : Kn P w K mg base (GY K ca T) 2 "_law_of" 2 m__law_of [] []) (h__law_take : Kn P w K mg base (GY K ca T) 1 "_law_take" 2 m__law_take [] []) : FnOk P w K mg base (L2N.CX P w) 3 f fd ["_law_box_here", "_law_many_here"] (spOf (GY K ca T) 2 m__law_cells) :=
  fn_sim (GY K ca T) F sc__law_cells rfl fun cdv A outer s H E hr tk po => by
  have nd := sc__law_cells.nd
  exact ⟨_, (b_cons (u_set 2 (u_call h__law_of (hr.mono (by decide)) tk (a_cons (sv 0) (a_cons (SF.val (f_lst (a_cons s_int (a_cons s_int (a_cons s_int a_nil))))) a_nil))) nd)
    (b_one (t_ret (s_ct cd_tup call_tuple_of B.tuple PyProof.Rows.boot_tuple (a_cons (SF.val (f_lc (own := [("_law_cell", 3)]) nd (i_range1 B.range (a_cons (s_op od_shl op_shl s_int (sv 1)) a_nil)) (blkOk_by (own := [("_law_cell", 3)]) (N := N__law_cells) (sc := defScope s__law_cells) (by decide +kernel)) (fun _ _ _ _ _ => (u_g 3 nd)) (fun _ _ _ _ _ => ts_nil) (fun _ _ _ _ _ => (s_op od_sub op_sub (u_call h__law_take (hr.mono (by decide)) takesN (a_cons (sv 0) (a_cons (sv 2) a_nil))) (s_op od_div op_fdivN (sv 2) s_int))))) a_nil)))))⟩
abbrev N__law_shuffled : List Str := ["_law_box_here", "_law_some", "_law_found", "_law_one"]
theorem sc__law_shuffled : FnScope N__law_shuffled ["_law_box_here", "_law_some"] (defScope s__law_shuffled) := ⟨rfl, rfl, rfl, by decide +kernel, rfl, by decide +kernel, by decide +kernel⟩
theorem ok__law_shuffled {f : Addr} {fd : FuncData} (F : FnPk K "_law_shuffled" "_law_shuffled" s__law_shuffled [] [] f fd) (B : Bl mg) (h__law_take : Kn P w K mg base (GY K ca T) 1 "_law_take" 2 m__law_take [] []) : FnOk P w K mg base (L2N.CX P w) 2 f fd ["_law_box_here", "_law_some"] (spOf (GY K ca T) 2 m__law_shuffled) :=
  fn_sim (GY K ca T) F sc__law_shuffled rfl fun cdv A outer s H E hr tk po => by
  have nd := sc__law_shuffled.nd
  exact ⟨_, (b_cons (u_own 2 (f_lst a_nil) nd)
    (b_cons (t_for po (i_seq (sv 1)) (u_g 3 nd) (b_one (t_ins 2 (u_call h__law_take (hr.mono (by decide)) tk (a_cons (sv 0) (a_cons (s_op od_add op_addD (u_lenA 2 B.len) s_int) a_nil))) (sv 3))))
    (b_one (t_retO 2))))⟩
abbrev N__law_numbers : List Str := ["_law_box_here", "_law_count", "_law_many_here", "_law_at"]
theorem sc__law_numbers : FnScope N__law_numbers ["_law_box_here", "_law_count", "_law_many_here"] (defScope s__law_numbers) := ⟨rfl, rfl, rfl, by decide +kernel, rfl, by decide +kernel, by decide +kernel⟩
theorem ok__law_numbers {f : Addr} {fd : FuncData} (F : FnPk K "_law_numbers" "_law_numbers" s__law_numbers [] [] f fd) (B : Bl mg) (h__law_take : Kn P w K mg base (GY K ca T) 1 "_law_take" 2 m__law_take [] []) : FnOk P w K mg base (L2N.CX P w) 2 f fd ["_law_box_here", "_law_count", "_law_many_here"] (spOf (GY K ca T) 3 m__law_numbers) :=
  fn_sim (GY K ca T) F sc__law_numbers rfl fun cdv A outer s H E hr tk po => by
  have nd := sc__law_numbers.nd
  exact ⟨_, (b_one (t_retF (f_lc (own := [("_law_at", 3)]) nd (i_range1 B.range (a_cons (sv 1) a_nil)) (blkOk_by (own := [("_law_at", 3)]) (N := N__law_numbers) (sc := defScope s__law_numbers) (by decide +kernel)) (fun _ _ _ _ _ => (u_g 3 nd)) (fun _ _ _ _ _ => ts_nil) (fun _ _ _ _ _ => (u_call h__law_take (hr.mono (by decide)) takesN (a_cons (sv 0) (a_cons (s_op od_shl op_shl s_int (sv 2)) a_nil)))))))⟩
abbrev N__law_lines : List Str := ["_law_box_here", "_law_deep_here", "_law_many_here", "_law_lines_here", "_law_turn", "_law_one", "_law_far", "_law_at", "_law_line"]
theorem sc__law_lines : FnScope N__law_lines ["_law_box_here", "_law_deep_here", "_law_many_here"] (defScope s__law_lines) := ⟨rfl, rfl, rfl, by decide +kernel, rfl, by decide +kernel, by decide +kernel⟩
theorem ok__law_lines {f : Addr} {fd : FuncData} (F : FnPk K "_law_lines" "_law_lines" s__law_lines [] [] f fd) (B : Bl mg) (h__law_numbers : Kn P w K mg base (GY K ca T) 2 "_law_numbers" 3 m__law_numbers [] []) (h__law_shuffled : Kn P w K mg base (GY K ca T) 2 "_law_shuffled" 2 m__law_shuffled [] []) (h__law_take : Kn P w K mg base (GY K ca T) 1 "_law_take" 2 m__law_take [] []) : FnOk P w K mg base (L2N.CX P w) 3 f fd ["_law_box_here", "_law_deep_here", "_law_many_here"] (spOf (GY K ca T) 3 m__law_lines) :=
  fn_sim (GY K ca T) F sc__law_lines rfl fun cdv A outer s H E hr tk po => by
  have nd := sc__law_lines.nd
  exact ⟨_, (b_cons (t_ownLc (i := 3) (own := [("_law_at", 7)]) nd rfl rfl (sw_true rfl rfl rfl (by decide +kernel)) (i_range1 B.range (a_cons (sv 2) a_nil)) (blkOk_by (own := [("_law_at", 7)]) (N := N__law_lines) (sc := defScope s__law_lines) (by decide +kernel)) (fun _ _ _ _ _ => (u_g 7 nd)) (fun _ _ _ _ _ => ts_nil) (fun _ _ _ _ _ => (s_op od_shl op_shl s_int (sv 7))))
    (b_frz 3 (b_cons (u_own 3 (v_call h__law_shuffled (hr.mono (by decide)) tk (a_cons (sv 0) (a_cons (s_op od_add op_addD (sv 3) (u_call h__law_numbers (hr.mono (by decide)) tk (a_cons (sv 0) (a_cons (s_op od_sub op_sub (sv 1) (sv 2)) (a_cons (sv 2) a_nil))))) a_nil))) nd)
    (b_cons (t_for po (i_range1 B.range (a_cons (s_op od_mul op_mul (u_call h__law_take (hr.mono (by decide)) tk (a_cons (sv 0) (a_cons s_int a_nil))) (s_ct cd_int call_int1 B.int PyProof.Rows.boot_int (a_cons (s_cmp od_gt op_gt (sv 1) s_int (nomark _)) a_nil))) a_nil)) (u_g 4 nd) (b_cons (u_set 5 (u_call h__law_take (hr.mono (by decide)) tk (a_cons (sv 0) (a_cons (sv 1) a_nil))) nd)
    (b_cons (u_set 6 (s_op od_add op_addD (s_op od_add op_addD (sv 5) s_int) (u_call h__law_take (hr.mono (by decide)) tk (a_cons (sv 0) (a_cons (s_op od_sub op_sub (sv 1) s_int) a_nil)))) nd)
    (b_one (t_put 3 (sv 5) (s_op od_xor op_xor (u_ixA 3 (sv 5) (fun _ _ => rfl)) (u_ixA 3 (s_op od_mod op_modN (sv 6) (sv 1)) (fun _ _ => rfl))))))))
    (b_cons (t_for po (i_range1 B.range (a_cons (s_op od_mul op_mul (u_call h__law_take (hr.mono (by decide)) tk (a_cons (sv 0) (a_cons s_int a_nil))) (s_ct cd_int call_int1 B.int PyProof.Rows.boot_int (a_cons (s_cmp od_gt op_gt (sv 2) s_int (nomark _)) a_nil))) a_nil)) (u_g 4 nd) (b_cons (u_set 5 (u_call h__law_take (hr.mono (by decide)) tk (a_cons (sv 0) (a_cons (sv 2) a_nil))) nd)
    (b_cons (u_set 6 (s_op od_mod op_modN (s_op od_add op_addD (s_op od_add op_addD (sv 5) s_int) (u_call h__law_take (hr.mono (by decide)) tk (a_cons (sv 0) (a_cons (s_op od_sub op_sub (sv 2) s_int) a_nil)))) (sv 2)) nd)
    (b_frz 3 (b_one (t_ownLc (i := 3) (own := [("_law_line", 8)]) nd rfl rfl (sw_true rfl rfl rfl (by decide +kernel)) (i_seq (sv 3)) (blkOk_by (own := [("_law_line", 8)]) (N := N__law_lines) (sc := defScope s__law_lines) (by decide +kernel)) (fun _ _ _ _ _ => (u_g 8 nd)) (fun _ _ _ _ _ => ts_nil) (fun _ _ _ _ _ => (s_op od_xor op_xor (sv 8) (s_op od_shl op_shl (s_op od_and op_and (s_op od_shr op_shr (sv 8) (sv 5)) s_int) (sv 6))))))))))
    (b_frz 3 (b_one (t_ret (s_ct cd_tup call_tuple_of B.tuple PyProof.Rows.boot_tuple (a_cons (sv 3) a_nil))))))))))⟩
abbrev N__law_new_name : List Str := ["_law_box_here"]
theorem sc__law_new_name : FnScope N__law_new_name ["_law_box_here"] (defScope s__law_new_name) := ⟨rfl, rfl, rfl, by decide +kernel, rfl, by decide +kernel, by decide +kernel⟩
theorem ok__law_new_name {f : Addr} {fd : FuncData} (F : FnPk K "_law_new_name" "_law_new_name" s__law_new_name [] [] f fd) (h__law_of : Kn P w K mg base (GY K ca T) 2 "_law_of" 2 m__law_of [] []) : FnOk P w K mg base (L2N.CX P w) 3 f fd ["_law_box_here"] (spOf (GY K ca T) 1 m__law_new_name) :=
  fn_sim (GY K ca T) F sc__law_new_name rfl fun cdv A outer s H E hr tk po => by
  have nd := sc__law_new_name.nd
  exact ⟨_, (b_one (t_ret (u_call h__law_of (hr.mono (by decide)) tk (a_cons (sv 0) (a_cons (SF.val (f_lst (a_cons s_str (a_cons s_str (a_cons s_str (a_cons s_str (a_cons s_str (a_cons s_str (a_cons s_str (a_cons s_str a_nil)))))))))) a_nil)))))⟩
abbrev N__law_lay : List Str := ["_law_box_here", "_law_deep_here", "_law_many_here"]
theorem sc__law_lay : FnScope N__law_lay ["_law_box_here", "_law_deep_here"] (defScope s__law_lay) := ⟨rfl, rfl, rfl, by decide +kernel, rfl, by decide +kernel, by decide +kernel⟩
theorem ok__law_lay {f : Addr} {fd : FuncData} (F : FnPk K "_law_lay" "_law_lay" s__law_lay [] [] f fd) (B : Bl mg) (h__law_of : Kn P w K mg base (GY K ca T) 2 "_law_of" 2 m__law_of [] []) (h__law_cells : Kn P w K mg base (GY K ca T) 3 "_law_cells" 2 m__law_cells [] []) (h__law_lines : Kn P w K mg base (GY K ca T) 3 "_law_lines" 3 m__law_lines [] []) (h__law_new_name : Kn P w K mg base (GY K ca T) 3 "_law_new_name" 1 m__law_new_name [] []) : FnOk P w K mg base (L2N.CX P w) 4 f fd ["_law_box_here", "_law_deep_here"] (spOf (GY K ca T) 2 m__law_lay) :=
  fn_sim (GY K ca T) F sc__law_lay rfl fun cdv A outer s H E hr tk po => by
  have nd := sc__law_lay.nd
  exact ⟨_, (b_cons (u_set 2 (s_cb cd_min2 (call_min2 rfl) B.min (by decide +kernel : bootBuiltins "min" = some (.builtin "min")) (a_cons (sv 1) (a_cons (u_call h__law_of (hr.mono (by decide)) tk (a_cons (sv 0) (a_cons (SF.val (f_lst (a_cons (sv 1) (a_cons (sv 1) (a_cons s_int (a_cons s_int (a_cons s_int (a_cons s_int (a_cons s_int a_nil))))))))) a_nil))) a_nil))) nd)
    (b_one (t_ret (s_tup (a_cons s_str (a_cons (u_call h__law_new_name (hr.mono (by decide)) tk (a_cons (sv 0) a_nil)) (a_cons (u_call h__law_lines (hr.mono (by decide)) tk (a_cons (sv 0) (a_cons (sv 1) (a_cons (sv 2) a_nil)))) (a_cons (u_call h__law_cells (hr.mono (by decide)) tk (a_cons (sv 0) (a_cons (sv 2) a_nil))) a_nil))))))))⟩
abbrev N__law_deep : List Str := ["_law_m"]
theorem sc__law_deep : FnScope N__law_deep ["_law_m"] (defScope s__law_deep) := ⟨rfl, rfl, rfl, by decide +kernel, rfl, by decide +kernel, by decide +kernel⟩
theorem ok__law_deep {f : Addr} {fd : FuncData} (F : FnPk K "_law_deep" "_law_deep" s__law_deep [] [] f fd) : FnOk P w K mg base (L2N.CX P w) 1 f fd ["_law_m"] (spOf (GY K ca T) 1 m__law_deep) :=
  fn_sim (GY K ca T) F sc__law_deep rfl fun cdv A outer s H E hr tk po => by
  have nd := sc__law_deep.nd
  exact ⟨_, (b_one (t_ret (s_op od_add op_addD (s_ix od_ix ix_lt (s_dgetA 0 hr.units s_str (fun _ _ => rfl)) s_int (fun _ _ => rfl)) (s_ix od_ix ix_lt (s_dgetA 0 hr.units s_str (fun _ _ => rfl)) s_int (fun _ _ => rfl)))))⟩
abbrev N_is_name : List Str := ["name", "sign"]
theorem sc_is_name : FnScope N_is_name ["name"] (defScope s_is_name) := ⟨rfl, rfl, rfl, by decide +kernel, rfl, by decide +kernel, by decide +kernel⟩
theorem ok_is_name {f : Addr} {fd : FuncData} (F : FnPk K "is_name" "is_name" s_is_name [] [] f fd) (B : Bl mg) (c_SMALL : ∃ u, mg "SMALL" = some (.str "abcdefghijklmnopqrstuvwxyz" u)) : FnOk P w K mg base (L2N.CX P w) 1 f fd ["name"] (spOf (GY K ca T) 1 m_is_name) :=
  fn_sim (GY K ca T) F sc_is_name rfl fun cdv A outer s H E hr tk po => by
  have nd := sc_is_name.nd
  exact ⟨_, (b_one (t_ret (s_and (s_chain od_le od_le op_le op_le s_int (s_cb cd_len cr_len B.len PySem.boot_len (a_cons (sv 0) a_nil)) s_int) (s_one (s_cb cd_all (cr_all rfl) B.all (by decide +kernel : bootBuiltins "all" = some (.builtin "all")) (a_cons (SF.val (f_lc (own := [("sign", 1)]) nd (i_str (sv 0)) (blkOk_by (own := [("sign", 1)]) (N := N_is_name) (sc := defScope s_is_name) (by decide +kernel)) (fun _ _ _ _ _ => (u_g 1 nd)) (fun _ _ _ _ _ => ts_nil) (fun _ _ _ _ _ => (s_cmp od_sign or_sign (sv 1) (u_gstr c_SMALL) rfl)))) a_nil))))))⟩
abbrev N_Body_need_new : List Str := ["self", "name"]
theorem sc_Body_need_new : FnScope N_Body_need_new ["self", "name"] (defScope s_Body_need_new) := ⟨rfl, rfl, rfl, by decide +kernel, rfl, by decide +kernel, by decide +kernel⟩
theorem ok_Body_need_new {f : Addr} {fd : FuncData} (F : FnPk K "need_new" "Body.need_new" s_Body_need_new [] [] f fd) (B : Bl mg) (h_is_name : Kn P w K mg base (GY K ca T) 1 "is_name" 1 m_is_name [] []) (x_BadName : KnX K mg (GY K ca T) "BadName") (C_Body : Cls K ((GY K ca T).ca "Body")) (n_Body_tables : NoAttr K ((GY K ca T).ca "Body") "tables") (x_Taken : KnX K mg (GY K ca T) "Taken") (c_MOST_TABLES : ∃ u, mg "MOST_TABLES" = some (.int 6 u)) (x_Full : KnX K mg (GY K ca T) "Full") : FnOk P w K mg base (L2N.CX P w) 2 f fd ["self", "name"] (spOf (GY K ca T) 2 m_Body_need_new) :=
  fn_sim (GY K ca T) F sc_Body_need_new rfl fun cdv A outer s H E hr tk po => by
  have nd := sc_Body_need_new.nd
  exact ⟨_, (b_cons (t_if (c_not (c_val (u_call h_is_name (hr.mono (by decide)) tk (a_cons (sv 1) a_nil)))) (b_one (u_raise x_BadName tk)) b_nil)
    (b_cons (t_if (c_din hr.units (sv 1) (s_fld "Body" C_Body n_Body_tables (sv 0))) (b_one (u_raise x_Taken tk)) b_nil)
    (b_one (t_if (c_cmp od_ge op_ge (s_cb cd_lenD call_lenD B.len PySem.boot_len (a_cons (s_fld "Body" C_Body n_Body_tables (sv 0)) a_nil)) (u_int c_MOST_TABLES) (nomark _)) (b_one (u_raise x_Full tk)) b_nil))))⟩
abbrev N_digits_of : List Str := ["count", "most", "many"]
theorem sc_digits_of : FnScope N_digits_of ["count", "most"] (defScope s_digits_of) := ⟨rfl, rfl, rfl, by decide +kernel, rfl, by decide +kernel, by decide +kernel⟩
theorem ok_digits_of {f : Addr} {fd : FuncData} (F : FnPk K "digits_of" "digits_of" s_digits_of [] [] f fd) (x_BadCells : KnX K mg (GY K ca T) "BadCells") : FnOk P w K mg base (L2N.CX P w) 1 f fd ["count", "most"] (spOf (GY K ca T) 2 m_digits_of) :=
  fn_sim (GY K ca T) F sc_digits_of rfl fun cdv A outer s H E hr tk po => by
  have nd := sc_digits_of.nd
  exact ⟨_, (b_cons (u_set 2 s_int nd)
    (b_cons (t_while 100 po (SW.sc (w_and (c_cmp od_lt op_lt (sv 2) (sv 1) (nomark _)) (w_and1 (c_cmp od_lt op_lt (s_op od_shl op_shl s_int (sv 2)) (sv 0) (nomark _))))) (b_one (u_aug 2 ip_add s_int nd)))
    (b_cons (t_if (c_cmp od_ne (op_neD hr.units) (s_op od_shl op_shl s_int (sv 2)) (sv 0) (nomark _)) (b_one (u_raise x_BadCells tk)) b_nil)
    (b_one (t_ret (sv 2))))))⟩
abbrev N_TableU_initU : List Str := ["self", "spread", "grip", "move"]
theorem sc_TableU_initU : FnScope N_TableU_initU ["self", "spread", "grip", "move"] (defScope s_TableU_initU) := ⟨rfl, rfl, rfl, by decide +kernel, rfl, by decide +kernel, by decide +kernel⟩
theorem ok_TableU_initU {f : Addr} {fd : FuncData} (F : FnPk K "__init__" "Table.__init__" s_TableU_initU [] [("move", .non)] f fd) (C_Table : Cls K ((GY K ca T).ca "Table")) (n_Table_spread : NoAttr K ((GY K ca T).ca "Table") "spread") (n_Table_grip : NoAttr K ((GY K ca T).ca "Table") "grip") (n_Table_move : NoAttr K ((GY K ca T).ca "Table") "move") : FnOk P w K mg base (L2N.CX P w) 1 f fd ["self", "spread", "grip", "move"] (spOf (GY K ca T) 4 m_TableU_initU) :=
  fn_sim (GY K ca T) F sc_TableU_initU rfl fun cdv A outer s H E hr tk po => by
  have nd := sc_TableU_initU.nd
  exact ⟨_, (b_cons (t_fld "Table" C_Table n_Table_spread (sv 0) (sv 1))
    (b_cons (t_fld "Table" C_Table n_Table_grip (sv 0) (sv 2))
    (b_one (t_fld "Table" C_Table n_Table_move (sv 0) (sv 3)))))⟩
abbrev N_Fold_many : List Str := ["self"]
theorem sc_Fold_many : FnScope N_Fold_many ["self"] (defScope s_Fold_many) := ⟨rfl, rfl, rfl, by decide +kernel, rfl, by decide +kernel, by decide +kernel⟩
theorem ok_Fold_many {f : Addr} {fd : FuncData} (F : FnPk K "many" "Fold.many" s_Fold_many [] [] f fd) (B : Bl mg) (C_Fold : Cls K ((GY K ca T).ca "Fold")) (n_Fold_lines : NoAttr K ((GY K ca T).ca "Fold") "lines") : FnOk P w K mg base (L2N.CX P w) 1 f fd ["self"] (spOf (GY K ca T) 1 m_Fold_many) :=
  fn_sim (GY K ca T) F sc_Fold_many rfl fun cdv A outer s H E hr tk po => by
  have nd := sc_Fold_many.nd
  exact ⟨_, (b_one (t_ret (s_cb cd_len cr_len B.len PySem.boot_len (a_cons (s_fld "Fold" C_Fold n_Fold_lines (sv 0)) a_nil))))⟩
abbrev N_blended : List Str := ["numbers", "found", "one"]
theorem sc_blended : FnScope N_blended ["numbers"] (defScope s_blended) := ⟨rfl, rfl, rfl, by decide +kernel, rfl, by decide +kernel, by decide +kernel⟩
theorem ok_blended {f : Addr} {fd : FuncData} (F : FnPk K "blended" "blended" s_blended [] [] f fd) : FnOk P w K mg base (L2N.CX P w) 1 f fd ["numbers"] (spOf (GY K ca T) 1 m_blended) :=
  fn_sim (GY K ca T) F sc_blended rfl fun cdv A outer s H E hr tk po => by
  have nd := sc_blended.nd
  exact ⟨_, (b_cons (u_set 1 s_int nd)
    (b_cons (t_for po (i_seq (sv 0)) (u_g 2 nd) (b_one (u_set 1 (s_op od_xor op_xor (sv 1) (sv 2)) nd)))
    (b_one (t_ret (sv 1)))))⟩
abbrev N_picked : List Str := ["rows", "number", "at", "row"]
theorem sc_picked : FnScope N_picked ["rows", "number"] (defScope s_picked) := ⟨rfl, rfl, rfl, by decide +kernel, rfl, by decide +kernel, by decide +kernel⟩
theorem ok_picked {f : Addr} {fd : FuncData} (F : FnPk K "picked" "picked" s_picked [] [] f fd) (B : Bl mg) (h_blended : Kn P w K mg base (GY K ca T) 1 "blended" 1 m_blended [] []) : FnOk P w K mg base (L2N.CX P w) 2 f fd ["rows", "number"] (spOf (GY K ca T) 2 m_picked) :=
  fn_sim (GY K ca T) F sc_picked rfl fun cdv A outer s H E hr tk po => by
  have nd := sc_picked.nd
  exact ⟨_, (b_one (t_ret (u_call h_blended (hr.mono (by decide)) tk (a_cons (SF.val (f_lc (own := [("at", 2), ("row", 3)]) nd (i_enumS B.enumerate (a_cons (sv 0) a_nil)) (blkOk_by (own := [("at", 2), ("row", 3)]) (N := N_picked) (sc := defScope s_picked) (by decide +kernel)) (fun _ _ _ _ _ => (g_tup (gs_cons (u_g 2 nd) (gs_cons (u_g 3 nd) gs_nil)))) (fun _ _ _ _ _ => (ts_one (c_cmp od_eq (op_eqD hr.units) (s_op od_and op_and (s_op od_shr op_shr (sv 1) (sv 2)) s_int) s_int (nomark _)))) (fun _ _ _ _ _ => (sv 3)))) a_nil))))⟩
abbrev N_Fold_to : List Str := ["self", "number"]
theorem sc_Fold_to : FnScope N_Fold_to ["self", "number"] (defScope s_Fold_to) := ⟨rfl, rfl, rfl, by decide +kernel, rfl, by decide +kernel, by decide +kernel⟩
theorem ok_Fold_to {f : Addr} {fd : FuncData} (F : FnPk K "to" "Fold.to" s_Fold_to [] [] f fd) (B : Bl mg) (C_Fold : Cls K ((GY K ca T).ca "Fold")) (n_Fold_lines : NoAttr K ((GY K ca T).ca "Fold") "lines") (x_BadNumber : KnX K mg (GY K ca T) "BadNumber") (h_picked : Kn P w K mg base (GY K ca T) 2 "picked" 2 m_picked [] []) : FnOk P w K mg base (L2N.CX P w) 3 f fd ["self", "number"] (spOf (GY K ca T) 2 m_Fold_to) :=
  fn_sim (GY K ca T) F sc_Fold_to rfl fun cdv A outer s H E hr tk po => by
  have nd := sc_Fold_to.nd
  exact ⟨_, (b_cons (t_if (SW.sc (w_or (c_cmp od_lt op_lt (sv 1) s_int (nomark _)) (w_or1 (c_cmp od_gt op_gt (s_op od_shr op_shr (sv 1) (s_cb cd_len cr_len B.len PySem.boot_len (a_cons (s_fld "Fold" C_Fold n_Fold_lines (sv 0)) a_nil))) s_int (nomark _))))) (b_one (u_raise x_BadNumber tk)) b_nil)
    (b_one (t_ret (u_call h_picked (hr.mono (by decide)) tk (a_cons (s_fld "Fold" C_Fold n_Fold_lines (sv 0)) (a_cons (sv 1) a_nil))))))⟩
abbrev N_laid : List Str := ["spread", "cells", "berth"]
theorem sc_laid : FnScope N_laid ["spread", "cells"] (defScope s_laid) := ⟨rfl, rfl, rfl, by decide +kernel, rfl, by decide +kernel, by decide +kernel⟩
theorem ok_laid {f : Addr} {fd : FuncData} (F : FnPk K "laid" "laid" s_laid [] [] f fd) (B : Bl mg) (k_Table_d : KnC P w K mg base (GY K ca T) 1 "Table" 4 m_TableU_initU [.non] [.non]) (h_Fold_many : KnM P w K mg base (GY K ca T) 1 "Fold" "many" 1 m_Fold_many [] []) (h_Fold_to : KnM P w K mg base (GY K ca T) 3 "Fold" "to" 2 m_Fold_to [] []) : FnOk P w K mg base (L2N.CX P w) 4 f fd ["spread", "cells"] (spOf (GY K ca T) 2 m_laid) :=
  fn_sim (GY K ca T) F sc_laid rfl fun cdv A outer s H E hr tk po => by
  have nd := sc_laid.nd
  exact ⟨_, (b_one (t_ret (u_new k_Table_d (hr.mono (by decide)) tk (a_cons (sv 0) (a_cons (s_ct cd_tup call_tuple_of B.tuple PyProof.Rows.boot_tuple (a_cons (SF.val (f_lc (own := [("berth", 2)]) nd (i_range1 B.range (a_cons (s_op od_shl op_shl s_int (u_meth0 "Fold" h_Fold_many (hr.mono (by decide)) tk (sv 0))) a_nil)) (blkOk_by (own := [("berth", 2)]) (N := N_laid) (sc := defScope s_laid) (by decide +kernel)) (fun _ _ _ _ _ => (u_g 2 nd)) (fun _ _ _ _ _ => ts_nil) (fun _ _ _ _ _ => (s_ix od_ix ix_lt (sv 1) (u_meth "Fold" h_Fold_to (hr.mono (by decide)) takesN (sv 0) (a_cons (sv 2) a_nil)) (fun _ _ => rfl))))) a_nil)) a_nil)))))⟩
abbrev N_FoldU_initU : List Str := ["self", "rows", "size", "row"]
theorem sc_FoldU_initU : FnScope N_FoldU_initU ["self", "rows", "size"] (defScope s_FoldU_initU) := ⟨rfl, rfl, rfl, by decide +kernel, rfl, by decide +kernel, by decide +kernel⟩
theorem ok_FoldU_initU {f : Addr} {fd : FuncData} (F : FnPk K "__init__" "Fold.__init__" s_FoldU_initU [] [] f fd) (B : Bl mg) (c_MOST_DIGITS : ∃ u, mg "MOST_DIGITS" = some (.int 12 u)) (x_BadFold : KnX K mg (GY K ca T) "BadFold") (C_Fold : Cls K ((GY K ca T).ca "Fold")) (n_Fold_lines : NoAttr K ((GY K ca T).ca "Fold") "lines") (n_Fold_wide : NoAttr K ((GY K ca T).ca "Fold") "wide") : FnOk P w K mg base (L2N.CX P w) 1 f fd ["self", "rows", "size"] (spOf (GY K ca T) 3 m_FoldU_initU) :=
  fn_sim (GY K ca T) F sc_FoldU_initU rfl fun cdv A outer s H E hr tk po => by
  have nd := sc_FoldU_initU.nd
  exact ⟨_, (b_cons (t_if (SW.sc (w_or (c_cmp od_lt op_lt (sv 2) s_int (nomark _)) (w_or (c_cmp od_gt op_gt (sv 2) (u_int c_MOST_DIGITS) (nomark _)) (w_or1 (c_cmp od_gt op_gt (s_cb cd_len cr_len B.len PySem.boot_len (a_cons (sv 1) a_nil)) (u_int c_MOST_DIGITS) (nomark _)))))) (b_one (u_raise x_BadFold tk)) b_nil)
    (b_cons (t_for po (i_seq (sv 1)) (u_g 3 nd) (b_one (t_if (SW.sc (w_or (c_cmp od_lt op_lt (sv 3) s_int (nomark _)) (w_or1 (c_cmp od_gt op_gt (s_op od_shr op_shr (sv 3) (sv 2)) s_int (nomark _))))) (b_one (u_raise x_BadFold tk)) b_nil)))
    (b_cons (t_fld "Fold" C_Fold n_Fold_lines (sv 0) (s_ct cd_tup call_tuple_of B.tuple PyProof.Rows.boot_tuple (a_cons (sv 1) a_nil)))
    (b_one (t_fld "Fold" C_Fold n_Fold_wide (sv 0) (sv 2))))))⟩
theorem ok_FoldU_initU_t {f : Addr} {fd : FuncData} (F : FnPk K "__init__" "Fold.__init__" s_FoldU_initU [] [] f fd) (B : Bl mg) (c_MOST_DIGITS : ∃ u, mg "MOST_DIGITS" = some (.int 12 u)) (x_BadFold : KnX K mg (GY K ca T) "BadFold") (C_Fold : Cls K ((GY K ca T).ca "Fold")) (n_Fold_lines : NoAttr K ((GY K ca T).ca "Fold") "lines") (n_Fold_wide : NoAttr K ((GY K ca T).ca "Fold") "wide") : FnOk P w K mg base (L2N.CX P w) 1 f fd ["self", "rows", "size"] (spOf (GY K ca T) 3 m_FoldU_initU_t) :=
  fn_sim (GY K ca T) F sc_FoldU_initU rfl fun cdv A outer s H E hr tk po => by
  have nd := sc_FoldU_initU.nd
  exact ⟨_, (b_cons (t_if (SW.sc (w_or (c_cmp od_lt op_lt (sv 2) s_int (nomark _)) (w_or (c_cmp od_gt op_gt (sv 2) (u_int c_MOST_DIGITS) (nomark _)) (w_or1 (c_cmp od_gt op_gt (s_cb cd_len cr_len B.len PySem.boot_len (a_cons (sv 1) a_nil)) (u_int c_MOST_DIGITS) (nomark _)))))) (b_one (u_raise x_BadFold tk)) b_nil)
    (b_cons (t_forA po (sv 1) (u_g 3 nd) (b_one (t_if (SW.sc (w_or (c_cmp od_lt op_lt (sv 3) s_int (nomark _)) (w_or1 (c_cmp od_gt op_gt (s_op od_shr op_shr (sv 3) (sv 2)) s_int (nomark _))))) (b_one (u_raise x_BadFold tk)) b_nil)))
    (b_cons (t_fld "Fold" C_Fold n_Fold_lines (sv 0) (s_ct cd_tupA call_tuple_of B.tuple PyProof.Rows.boot_tuple (a_cons (sv 1) a_nil)))
    (b_one (t_fld "Fold" C_Fold n_Fold_wide (sv 0) (sv 2))))))⟩
abbrev N_top_of : List Str := ["one"]
theorem sc_top_of : FnScope N_top_of ["one"] (defScope s_top_of) := ⟨rfl, rfl, rfl, by decide +kernel, rfl, by decide +kernel, by decide +kernel⟩
theorem ok_top_of {f : Addr} {fd : FuncData} (F : FnPk K "top_of" "top_of" s_top_of [] [] f fd) : FnOk P w K mg base (L2N.CX P w) 1 f fd ["one"] (spOf (GY K ca T) 1 m_top_of) :=
  fn_sim (GY K ca T) F sc_top_of rfl fun cdv A outer s H E hr tk po => by
  have nd := sc_top_of.nd
  exact ⟨_, (b_one (t_ret (s_op od_shl op_shl s_int (s_op od_sub op_sub (s_bits (sv 0)) s_int))))⟩
abbrev N_reduced : List Str := ["one", "found", "left", "other"]
theorem sc_reduced : FnScope N_reduced ["one", "found"] (defScope s_reduced) := ⟨rfl, rfl, rfl, by decide +kernel, rfl, by decide +kernel, by decide +kernel⟩
theorem ok_reduced {f : Addr} {fd : FuncData} (F : FnPk K "reduced" "reduced" s_reduced [] [] f fd) (h_top_of : Kn P w K mg base (GY K ca T) 1 "top_of" 1 m_top_of [] []) : FnOk P w K mg base (L2N.CX P w) 2 f fd ["one", "found"] (spOf (GY K ca T) 2 m_reduced) :=
  fn_sim (GY K ca T) F sc_reduced rfl fun cdv A outer s H E hr tk po => by
  have nd := sc_reduced.nd
  exact ⟨_, (b_cons (u_set 2 (sv 0) nd)
    (b_cons (t_for po (i_seq (sv 1)) (u_g 3 nd) (b_one (t_if (c_cmp od_gt op_gt (s_op od_and op_and (sv 2) (u_call h_top_of (hr.mono (by decide)) tk (a_cons (sv 3) a_nil))) s_int (nomark _)) (b_one (u_set 2 (s_op od_xor op_xor (sv 2) (sv 3)) nd)) b_nil)))
    (b_one (t_ret (sv 2)))))⟩
abbrev N_basis_of : List Str := ["numbers", "found", "one", "left", "top", "other"]
theorem sc_basis_of : FnScope N_basis_of ["numbers"] (defScope s_basis_of) := ⟨rfl, rfl, rfl, by decide +kernel, rfl, by decide +kernel, by decide +kernel⟩
theorem ok_basis_of {f : Addr} {fd : FuncData} (F : FnPk K "basis_of" "basis_of" s_basis_of [] [] f fd) (B : Bl mg) (h_reduced : Kn P w K mg base (GY K ca T) 2 "reduced" 2 m_reduced [] []) (h_top_of : Kn P w K mg base (GY K ca T) 1 "top_of" 1 m_top_of [] []) : FnOk P w K mg base (L2N.CX P w) 3 f fd ["numbers"] (spOf (GY K ca T) 1 m_basis_of) :=
  fn_sim (GY K ca T) F sc_basis_of rfl fun cdv A outer s H E hr tk po => by
  have nd := sc_basis_of.nd
  exact ⟨_, (b_cons (u_set 1 (SF.val (f_lst a_nil)) nd)
    (b_cons (t_for po (i_seq (sv 0)) (u_g 2 nd) (b_cons (u_set 3 (u_call h_reduced (hr.mono (by decide)) tk (a_cons (sv 2) (a_cons (sv 1) a_nil))) nd)
    (b_one (t_if (c_cmp od_gt op_gt (sv 3) s_int (nomark _)) (b_cons (u_set 4 (u_call h_top_of (hr.mono (by decide)) tk (a_cons (sv 3) a_nil)) nd)
    (b_one (u_set 1 (s_op od_add op_addD (SF.val (f_lc (own := [("other", 5)]) nd (i_seq (sv 1)) (blkOk_by (own := [("other", 5)]) (N := N_basis_of) (sc := defScope s_basis_of) (by decide +kernel)) (fun _ _ _ _ _ => (u_g 5 nd)) (fun _ _ _ _ _ => ts_nil) (fun _ _ _ _ _ => (s_if (c_cmp od_gt op_gt (s_op od_and op_and (sv 5) (sv 4)) s_int (nomark _)) (s_op od_xor op_xor (sv 5) (sv 3)) (sv 5))))) (SF.val (f_lst (a_cons (sv 3) a_nil)))) nd))) b_nil))))
    (b_one (t_retF (f_cb co_sorted cr_sortedI B.sorted PyProof.Rows.boot_sorted (a_cons (sv 1) a_nil))))))⟩
abbrev N_Fold_onto : List Str := ["self"]
theorem sc_Fold_onto : FnScope N_Fold_onto ["self"] (defScope s_Fold_onto) := ⟨rfl, rfl, rfl, by decide +kernel, rfl, by decide +kernel, by decide +kernel⟩
theorem ok_Fold_onto {f : Addr} {fd : FuncData} (F : FnPk K "onto" "Fold.onto" s_Fold_onto [] [] f fd) (B : Bl mg) (C_Fold : Cls K ((GY K ca T).ca "Fold")) (n_Fold_lines : NoAttr K ((GY K ca T).ca "Fold") "lines") (h_basis_of : Kn P w K mg base (GY K ca T) 3 "basis_of" 1 m_basis_of [] []) (n_Fold_wide : NoAttr K ((GY K ca T).ca "Fold") "wide") : FnOk P w K mg base (L2N.CX P w) 4 f fd ["self"] (spOf (GY K ca T) 1 m_Fold_onto) :=
  fn_sim (GY K ca T) F sc_Fold_onto rfl fun cdv A outer s H E hr tk po => by
  have nd := sc_Fold_onto.nd
  exact ⟨_, (b_one (t_ret (s_cmp od_eq (op_eqD hr.units) (s_cb cd_len cr_len B.len PySem.boot_len (a_cons (u_call h_basis_of (hr.mono (by decide)) tk (a_cons (s_fld "Fold" C_Fold n_Fold_lines (sv 0)) a_nil)) a_nil)) (s_fld "Fold" C_Fold n_Fold_wide (sv 0)) (nomark _))))⟩
abbrev N_Body_need_spread : List Str := ["self", "rows", "many", "spread", "row"]
theorem sc_Body_need_spread : FnScope N_Body_need_spread ["self", "rows", "many"] (defScope s_Body_need_spread) := ⟨rfl, rfl, rfl, by decide +kernel, rfl, by decide +kernel, by decide +kernel⟩
theorem ok_Body_need_spread {f : Addr} {fd : FuncData} (F : FnPk K "need_spread" "Body.need_spread" s_Body_need_spread [] [] f fd) (B : Bl mg) (C_Body : Cls K ((GY K ca T).ca "Body")) (n_Body_wide : NoAttr K ((GY K ca T).ca "Body") "wide") (x_BadRows : KnX K mg (GY K ca T) "BadRows") (k_Fold : KnC P w K mg base (GY K ca T) 1 "Fold" 3 m_FoldU_initU [] []) (h_Fold_onto : KnM P w K mg base (GY K ca T) 4 "Fold" "onto" 1 m_Fold_onto [] []) : FnOk P w K mg base (L2N.CX P w) 5 f fd ["self", "rows", "many"] (spOf (GY K ca T) 3 m_Body_need_spread) :=
  fn_sim (GY K ca T) F sc_Body_need_spread rfl fun cdv A outer s H E hr tk po => by
  have nd := sc_Body_need_spread.nd
  exact ⟨_, (b_cons (t_if (SW.sc (w_or (c_cmp od_ne (op_neD hr.units) (s_cb cd_len cr_len B.len PySem.boot_len (a_cons (sv 1) a_nil)) (s_op od_add op_addD (s_ix od_ix ix_lt (s_fld "Body" C_Body n_Body_wide (sv 0)) s_int (fun _ _ => rfl)) (s_ix od_ix ix_lt (s_fld "Body" C_Body n_Body_wide (sv 0)) s_int (fun _ _ => rfl))) (nomark _)) (w_or1 (c_val (s_cb cd_any (cr_any rfl) B.any (by decide +kernel : bootBuiltins "any" = some (.builtin "any")) (a_cons (SF.val (f_lc (own := [("row", 4)]) nd (i_seq (sv 1)) (blkOk_by (own := [("row", 4)]) (N := N_Body_need_spread) (sc := defScope s_Body_need_spread) (by decide +kernel)) (fun _ _ _ _ _ => (u_g 4 nd)) (fun _ _ _ _ _ => ts_nil) (fun _ _ _ _ _ => (s_or (s_cmp od_lt op_lt (sv 4) s_int (nomark _)) (s_one (s_cmp od_gt op_gt (s_op od_shr op_shr (sv 4) (sv 2)) s_int (nomark _))))))) a_nil)))))) (b_one (u_raise x_BadRows tk)) b_nil)
    (b_cons (u_set 3 (u_new k_Fold (hr.mono (by decide)) tk (a_cons (sv 1) (a_cons (sv 2) a_nil))) nd)
    (b_cons (t_if (c_not (c_val (u_meth0 "Fold" h_Fold_onto (hr.mono (by decide)) tk (sv 3)))) (b_one (u_raise x_BadRows tk)) b_nil)
    (b_one (t_ret (sv 3))))))⟩
theorem ok_Body_need_spread_t {f : Addr} {fd : FuncData} (F : FnPk K "need_spread" "Body.need_spread" s_Body_need_spread [] [] f fd) (B : Bl mg) (C_Body : Cls K ((GY K ca T).ca "Body")) (n_Body_wide : NoAttr K ((GY K ca T).ca "Body") "wide") (x_BadRows : KnX K mg (GY K ca T) "BadRows") (k_Fold : KnC P w K mg base (GY K ca T) 1 "Fold" 3 m_FoldU_initU_t [] []) (h_Fold_onto : KnM P w K mg base (GY K ca T) 4 "Fold" "onto" 1 m_Fold_onto [] []) : FnOk P w K mg base (L2N.CX P w) 5 f fd ["self", "rows", "many"] (spOf (GY K ca T) 3 m_Body_need_spread_t) :=
  fn_sim (GY K ca T) F sc_Body_need_spread rfl fun cdv A outer s H E hr tk po => by
  have nd := sc_Body_need_spread.nd
  exact ⟨_, (b_cons (t_if (SW.sc (w_or (c_cmp od_ne (op_neD hr.units) (s_cb cd_len cr_len B.len PySem.boot_len (a_cons (sv 1) a_nil)) (s_op od_add op_addD (s_ix od_ix ix_lt (s_fld "Body" C_Body n_Body_wide (sv 0)) s_int (fun _ _ => rfl)) (s_ix od_ix ix_lt (s_fld "Body" C_Body n_Body_wide (sv 0)) s_int (fun _ _ => rfl))) (nomark _)) (w_or1 (c_val (s_cb cd_any (cr_any rfl) B.any (by decide +kernel : bootBuiltins "any" = some (.builtin "any")) (a_cons (SF.val (f_thaw (f_lc (own := [("row", 4)]) nd (i_seq (sv 1)) (blkOk_by (own := [("row", 4)]) (N := N_Body_need_spread) (sc := defScope s_Body_need_spread) (by decide +kernel)) (fun _ _ _ _ _ => (u_g 4 nd)) (fun _ _ _ _ _ => ts_nil) (fun _ _ _ _ _ => (s_or (s_cmp od_lt op_lt (sv 4) s_int (nomark _)) (s_one (s_cmp od_gt op_gt (s_op od_shr op_shr (sv 4) (sv 2)) s_int (nomark _)))))))) a_nil)))))) (b_one (u_raise x_BadRows tk)) b_nil)
    (b_cons (u_set 3 (u_new k_Fold (hr.mono (by decide)) tk (a_cons (sv 1) (a_cons (sv 2) a_nil))) nd)
    (b_cons (t_if (c_not (c_val (u_meth0 "Fold" h_Fold_onto (hr.mono (by decide)) tk (sv 3)))) (b_one (u_raise x_BadRows tk)) b_nil)
    (b_one (t_ret (sv 3))))))⟩
abbrev N_Body_lay : List Str := ["self", "name", "rows", "cells", "many", "cell"]
theorem sc_Body_lay : FnScope N_Body_lay ["self", "name", "rows", "cells"] (defScope s_Body_lay) := ⟨rfl, rfl, rfl, by decide +kernel, rfl, by decide +kernel, by decide +kernel⟩
theorem ok_Body_lay {f : Addr} {fd : FuncData} (F : FnPk K "lay" "Body.lay" s_Body_lay [] [] f fd) (B : Bl mg) (h_Body_need_new : KnM P w K mg base (GY K ca T) 2 "Body" "need_new" 2 m_Body_need_new [] []) (C_Body : Cls K ((GY K ca T).ca "Body")) (n_Body_wide : NoAttr K ((GY K ca T).ca "Body") "wide") (h_digits_of : Kn P w K mg base (GY K ca T) 1 "digits_of" 2 m_digits_of [] []) (c_MOST : ∃ u, mg "MOST" = some (.int 1000000000 u)) (x_BadCells : KnX K mg (GY K ca T) "BadCells") (n_Body_tables : NoAttr K ((GY K ca T).ca "Body") "tables") (h_Body_need_spread : KnM P w K mg base (GY K ca T) 5 "Body" "need_spread" 3 m_Body_need_spread [] []) (h_laid : Kn P w K mg base (GY K ca T) 4 "laid" 2 m_laid [] []) : FnOk P w K mg base (L2N.CX P w) 6 f fd ["self", "name", "rows", "cells"] (spOf (GY K ca T) 4 m_Body_lay) :=
  fn_sim (GY K ca T) F sc_Body_lay rfl fun cdv A outer s H E hr tk po => by
  have nd := sc_Body_lay.nd
  exact ⟨_, (b_cons (t_expr (u_meth "Body" h_Body_need_new (hr.mono (by decide)) tk (sv 0) (a_cons (sv 1) a_nil)))
    (b_cons (u_set 4 (u_call h_digits_of (hr.mono (by decide)) tk (a_cons (s_cb cd_len cr_len B.len PySem.boot_len (a_cons (sv 3) a_nil)) (a_cons (s_op od_add op_addD (s_ix od_ix ix_lt (s_fld "Body" C_Body n_Body_wide (sv 0)) s_int (fun _ _ => rfl)) (s_ix od_ix ix_lt (s_fld "Body" C_Body n_Body_wide (sv 0)) s_int (fun _ _ => rfl))) a_nil))) nd)
    (b_cons (t_if (c_val (s_cb cd_any (cr_any rfl) B.any (by decide +kernel : bootBuiltins "any" = some (.builtin "any")) (a_cons (SF.val (f_lc (own := [("cell", 5)]) nd (i_seq (sv 3)) (blkOk_by (own := [("cell", 5)]) (N := N_Body_lay) (sc := defScope s_Body_lay) (by decide +kernel)) (fun _ _ _ _ _ => (u_g 5 nd)) (fun _ _ _ _ _ => ts_nil) (fun _ _ _ _ _ => (s_or (s_cmp od_lt op_lt (sv 5) (s_un ud_neg un_neg (u_int c_MOST)) (nomark _)) (s_one (s_cmp od_gt op_gt (sv 5) (u_int c_MOST) (nomark _))))))) a_nil))) (b_one (u_raise x_BadCells tk)) b_nil)
    (b_one (t_dput hr.units (s_fld "Body" C_Body n_Body_tables (sv 0)) (sv 1) (u_call h_laid (hr.mono (by decide)) tk (a_cons (u_meth "Body" h_Body_need_spread (hr.mono (by decide)) tk (sv 0) (a_cons (sv 2) (a_cons (sv 4) a_nil))) (a_cons (SF.val (f_ct co_list call_list_of B.list PyProof.Rows.boot_list (a_cons (sv 3) a_nil))) a_nil))))))))⟩
theorem ok_Body_lay_t {f : Addr} {fd : FuncData} (F : FnPk K "lay" "Body.lay" s_Body_lay [] [] f fd) (B : Bl mg) (h_Body_need_new : KnM P w K mg base (GY K ca T) 2 "Body" "need_new" 2 m_Body_need_new [] []) (C_Body : Cls K ((GY K ca T).ca "Body")) (n_Body_wide : NoAttr K ((GY K ca T).ca "Body") "wide") (h_digits_of : Kn P w K mg base (GY K ca T) 1 "digits_of" 2 m_digits_of [] []) (c_MOST : ∃ u, mg "MOST" = some (.int 1000000000 u)) (x_BadCells : KnX K mg (GY K ca T) "BadCells") (n_Body_tables : NoAttr K ((GY K ca T).ca "Body") "tables") (h_Body_need_spread : KnM P w K mg base (GY K ca T) 5 "Body" "need_spread" 3 m_Body_need_spread_t [] []) (h_laid : Kn P w K mg base (GY K ca T) 4 "laid" 2 m_laid [] []) : FnOk P w K mg base (L2N.CX P w) 6 f fd ["self", "name", "rows", "cells"] (spOf (GY K ca T) 4 m_Body_lay_t) :=
  fn_sim (GY K ca T) F sc_Body_lay rfl fun cdv A outer s H E hr tk po => by
  have nd := sc_Body_lay.nd
  exact ⟨_, (b_cons (t_expr (u_meth "Body" h_Body_need_new (hr.mono (by decide)) tk (sv 0) (a_cons (sv 1) a_nil)))
    (b_cons (u_set 4 (u_call h_digits_of (hr.mono (by decide)) tk (a_cons (s_cb cd_len cr_len B.len PySem.boot_len (a_cons (sv 3) a_nil)) (a_cons (s_op od_add op_addD (s_ix od_ix ix_lt (s_fld "Body" C_Body n_Body_wide (sv 0)) s_int (fun _ _ => rfl)) (s_ix od_ix ix_lt (s_fld "Body" C_Body n_Body_wide (sv 0)) s_int (fun _ _ => rfl))) a_nil))) nd)
    (b_cons (t_if (c_val (s_cb cd_any (cr_any rfl) B.any (by decide +kernel : bootBuiltins "any" = some (.builtin "any")) (a_cons (SF.val (f_thaw (f_lc (own := [("cell", 5)]) nd (i_seq (sv 3)) (blkOk_by (own := [("cell", 5)]) (N := N_Body_lay) (sc := defScope s_Body_lay) (by decide +kernel)) (fun _ _ _ _ _ => (u_g 5 nd)) (fun _ _ _ _ _ => ts_nil) (fun _ _ _ _ _ => (s_or (s_cmp od_lt op_lt (sv 5) (s_un ud_neg un_neg (u_int c_MOST)) (nomark _)) (s_one (s_cmp od_gt op_gt (sv 5) (u_int c_MOST) (nomark _)))))))) a_nil))) (b_one (u_raise x_BadCells tk)) b_nil)
    (b_one (t_dput hr.units (s_fld "Body" C_Body n_Body_tables (sv 0)) (sv 1) (u_call h_laid (hr.mono (by decide)) tk (a_cons (u_meth "Body" h_Body_need_spread (hr.mono (by decide)) tk (sv 0) (a_cons (sv 2) (a_cons (sv 4) a_nil))) (a_cons (SF.val (f_ct co_list call_list_of B.list PyProof.Rows.boot_list (a_cons (sv 3) a_nil))) a_nil))))))))⟩
abbrev N__law_many : List Str := ["_law_count", "_law_found"]
theorem sc__law_many : FnScope N__law_many ["_law_count"] (defScope s__law_many) := ⟨rfl, rfl, rfl, by decide +kernel, rfl, by decide +kernel, by decide +kernel⟩
theorem ok__law_many {f : Addr} {fd : FuncData} (F : FnPk K "_law_many" "_law_many" s__law_many [] [] f fd) : FnOk P w K mg base (L2N.CX P w) 1 f fd ["_law_count"] (spOf (GY K ca T) 1 m__law_many) :=
  fn_sim (GY K ca T) F sc__law_many rfl fun cdv A outer s H E hr tk po => by
  have nd := sc__law_many.nd
  exact ⟨_, (b_cons (u_set 1 s_int nd)
    (b_cons (t_while 100 po (c_cmp od_lt op_lt (s_op od_shl op_shl s_int (sv 1)) (sv 0) (nomark _)) (b_one (u_aug 1 ip_add s_int nd)))
    (b_one (t_ret (sv 1)))))⟩
abbrev N__law_images : List Str := ["_law_lines_here", "_law_found", "_law_line", "_law_one"]
theorem sc__law_images : FnScope N__law_images ["_law_lines_here"] (defScope s__law_images) := ⟨rfl, rfl, rfl, by decide +kernel, rfl, by decide +kernel, by decide +kernel⟩
theorem ok__law_images {f : Addr} {fd : FuncData} (F : FnPk K "_law_images" "_law_images" s__law_images [] [] f fd) : FnOk P w K mg base (L2N.CX P w) 1 f fd ["_law_lines_here"] (spOf (GY K ca T) 1 m__law_images) :=
  fn_sim (GY K ca T) F sc__law_images rfl fun cdv A outer s H E hr tk po => by
  have nd := sc__law_images.nd
  exact ⟨_, (b_cons (u_set 1 (SF.val (f_lst (a_cons s_int a_nil))) nd)
    (b_cons (t_for po (i_seq (sv 0)) (u_g 2 nd) (b_one (u_set 1 (s_op od_add op_addD (sv 1) (SF.val (f_lc (own := [("_law_one", 3)]) nd (i_seq (sv 1)) (blkOk_by (own := [("_law_one", 3)]) (N := N__law_images) (sc := defScope s__law_images) (by decide +kernel)) (fun _ _ _ _ _ => (u_g 3 nd)) (fun _ _ _ _ _ => ts_nil) (fun _ _ _ _ _ => (s_op od_xor op_xor (sv 3) (sv 2)))))) nd)))
    (b_one (t_ret (sv 1)))))⟩
abbrev N__law_homes : List Str := ["_law_lines_here", "_law_found", "_law_berth", "_law_cell"]
theorem sc__law_homes : FnScope N__law_homes ["_law_lines_here"] (defScope s__law_homes) := ⟨rfl, rfl, rfl, by decide +kernel, rfl, by decide +kernel, by decide +kernel⟩
theorem ok__law_homes {f : Addr} {fd : FuncData} (F : FnPk K "_law_homes" "_law_homes" s__law_homes [] [] f fd) (B : Bl mg) (h__law_images : Kn P w K mg base (GY K ca T) 1 "_law_images" 1 m__law_images [] []) : FnOk P w K mg base (L2N.CX P w) 2 f fd ["_law_lines_here"] (spOf (GY K ca T) 1 m__law_homes) :=
  fn_sim (GY K ca T) F sc__law_homes rfl fun cdv A outer s H E hr tk po => by
  have nd := sc__law_homes.nd
  exact ⟨_, (b_cons (u_own 1 (f_dic0) nd)
    (b_cons (t_for po (i_enumS B.enumerate (a_cons (u_call h__law_images (hr.mono (by decide)) tk (a_cons (sv 0) a_nil)) a_nil)) (g_tup (gs_cons (u_g 2 nd) (gs_cons (u_g 3 nd) gs_nil))) (b_one (t_dputA 1 hr.units (sv 3) (s_op od_add op_addD (s_dget2A 1 hr.units (sv 3) (SF.val (f_lst a_nil))) (SF.val (f_lst (a_cons (sv 2) a_nil)))))))
    (b_one (t_retO 1))))⟩
abbrev N__law_same : List Str := ["_law_found", "_law_due", "_law_x", "_law_y"]
theorem sc__law_same : FnScope N__law_same ["_law_found", "_law_due"] (defScope s__law_same) := ⟨rfl, rfl, rfl, by decide +kernel, rfl, by decide +kernel, by decide +kernel⟩
theorem ok__law_same {f : Addr} {fd : FuncData} (F : FnP K "_law_same" "_law_same" s__law_same [] f fd) (g : mg "_law_same" = some (.ref f)) (b : Binds K fd ["_law_found", "_law_due"] [])  (B : Bl mg) : ∀ n, FnOk P w K mg base (L2N.CX P w) (n + 1) f fd ["_law_found", "_law_due"] (spOf (GY K ca T) 2 (m__law_same n))
  | 0 => ⟨fun vs H Q E h => h.1, fun A outer s H args us vs Q E hr e0 hb rv h => by
    obtain ⟨_, _, _, _, _, _, z⟩ := h
    exact False.elim z⟩
  | n + 1 => by
    have ih := kn_of F g b (ok__law_same F g b B n)
    exact fn_sim (GY K ca T) F sc__law_same rfl fun cdv A outer s H E hr tk po => by
      have nd := sc__law_same.nd
      exact ⟨_, (b_cons (t_if (c_val (s_isT B.isinstance (sv 1) (a_cons (s_bty B.list PyProof.Rows.boot_list) (a_cons (s_bty B.tuple PyProof.Rows.boot_tuple) a_nil)))) (b_cons (t_if (SW.sc (w_or (c_cmp od_ne (op_neD hr.units) (s_cb cd_isi call_isi B.isinstance (by decide +kernel : bootBuiltins "isinstance" = some (.builtin "isinstance")) (a_cons (sv 0) (a_cons (s_bty B.list PyProof.Rows.boot_list) a_nil))) (s_cb cd_isi call_isi B.isinstance (by decide +kernel : bootBuiltins "isinstance" = some (.builtin "isinstance")) (a_cons (sv 1) (a_cons (s_bty B.list PyProof.Rows.boot_list) a_nil))) (nomark _)) (w_or1 (c_cmp od_ne (op_neD hr.units) (s_cb cd_isi call_isi B.isinstance (by decide +kernel : bootBuiltins "isinstance" = some (.builtin "isinstance")) (a_cons (sv 0) (a_cons (s_bty B.tuple PyProof.Rows.boot_tuple) a_nil))) (s_cb cd_isi call_isi B.isinstance (by decide +kernel : bootBuiltins "isinstance" = some (.builtin "isinstance")) (a_cons (sv 1) (a_cons (s_bty B.tuple PyProof.Rows.boot_tuple) a_nil))) (nomark _))))) (b_one (t_ret s_bl)) b_nil)
    (b_one (t_ret (s_and (s_cmp od_eq (op_eqD hr.units) (s_cb cd_len cr_len B.len PySem.boot_len (a_cons (sv 0) a_nil)) (s_cb cd_len cr_len B.len PySem.boot_len (a_cons (sv 1) a_nil)) (nomark _)) (s_one (s_cb cd_all (cr_all rfl) B.all (by decide +kernel : bootBuiltins "all" = some (.builtin "all")) (a_cons (SF.val (f_lc (own := [("_law_x", 2), ("_law_y", 3)]) nd (i_zipA B.zip (a_cons (sv 0) (a_cons (sv 1) a_nil))) (blkOk_by (own := [("_law_x", 2), ("_law_y", 3)]) (N := N__law_same) (sc := defScope s__law_same) (by decide +kernel)) (fun _ _ _ _ _ => (g_tup (gs_cons (u_g 2 nd) (gs_cons (u_g 3 nd) gs_nil)))) (fun _ _ _ _ _ => ts_nil) (fun _ _ _ _ _ => (u_call ih (hr.mono (by omega)) takesN (a_cons (sv 2) (a_cons (sv 3) a_nil)))))) a_nil))))))) b_nil)
    (b_cons (t_if (SW.sc (w_or (c_cmp od_ne (op_neD hr.units) (s_cmp od_is op_isN (sv 0) s_non (nomark _)) (s_cmp od_is op_isN (sv 1) s_non (nomark _)) (nomark _)) (w_or1 (c_cmp od_ne (op_neD hr.units) (s_cb cd_isi call_isi B.isinstance (by decide +kernel : bootBuiltins "isinstance" = some (.builtin "isinstance")) (a_cons (sv 0) (a_cons (s_bty B.bool (by decide +kernel : bootBuiltins "bool" = some (.type "bool"))) a_nil))) (s_cb cd_isi call_isi B.isinstance (by decide +kernel : bootBuiltins "isinstance" = some (.builtin "isinstance")) (a_cons (sv 1) (a_cons (s_bty B.bool (by decide +kernel : bootBuiltins "bool" = some (.type "bool"))) a_nil))) (nomark _))))) (b_one (t_ret s_bl)) b_nil)
    (b_cons (t_if (c_cmp od_ne (op_neD hr.units) (s_cb cd_isi call_isi B.isinstance (by decide +kernel : bootBuiltins "isinstance" = some (.builtin "isinstance")) (a_cons (sv 0) (a_cons (s_bty B.int PyProof.Rows.boot_int) a_nil))) (s_cb cd_isi call_isi B.isinstance (by decide +kernel : bootBuiltins "isinstance" = some (.builtin "isinstance")) (a_cons (sv 1) (a_cons (s_bty B.int PyProof.Rows.boot_int) a_nil))) (nomark _)) (b_one (t_ret s_bl)) b_nil)
    (b_one (t_ret (s_and (s_cmp od_eq (op_eqD hr.units) (s_cb cd_isi call_isi B.isinstance (by decide +kernel : bootBuiltins "isinstance" = some (.builtin "isinstance")) (a_cons (sv 0) (a_cons (s_bty B.str (by decide +kernel : bootBuiltins "str" = some (.type "str"))) a_nil))) (s_cb cd_isi call_isi B.isinstance (by decide +kernel : bootBuiltins "isinstance" = some (.builtin "isinstance")) (a_cons (sv 1) (a_cons (s_bty B.str (by decide +kernel : bootBuiltins "str" = some (.type "str"))) a_nil))) (nomark _)) (s_one (s_cmp od_eq (op_eqD hr.units) (sv 0) (sv 1) (nomark _)))))))))⟩
abbrev N_Body_need : List Str := ["self", "name"]
theorem sc_Body_need : FnScope N_Body_need ["self", "name"] (defScope s_Body_need) := ⟨rfl, rfl, rfl, by decide +kernel, rfl, by decide +kernel, by decide +kernel⟩
theorem ok_Body_need {f : Addr} {fd : FuncData} (F : FnPk K "need" "Body.need" s_Body_need [] [] f fd) (C_Body : Cls K ((GY K ca T).ca "Body")) (n_Body_tables : NoAttr K ((GY K ca T).ca "Body") "tables") (xf_NoTable : KnF P w K mg base (GY K ca T) "NoTable") : FnOk P w K mg base (L2N.CX P w) 3 f fd ["self", "name"] (spOf (GY K ca T) 2 m_Body_need) :=
  fn_sim (GY K ca T) F sc_Body_need rfl fun cdv A outer s H E hr tk po => by
  have nd := sc_Body_need.nd
  exact ⟨_, (b_cons (t_if (c_dnin hr.units (sv 1) (s_fld "Body" C_Body n_Body_tables (sv 0))) (b_one (u_raiseF xf_NoTable (hr.mono (by decide)) tk (sv 1))) b_nil)
    (b_one (t_ret (s_dget hr.units (s_fld "Body" C_Body n_Body_tables (sv 0)) (sv 1) (fun _ _ => rfl)))))⟩
abbrev N_Fold_rows : List Str := ["self"]
theorem sc_Fold_rows : FnScope N_Fold_rows ["self"] (defScope s_Fold_rows) := ⟨rfl, rfl, rfl, by decide +kernel, rfl, by decide +kernel, by decide +kernel⟩
theorem ok_Fold_rows {f : Addr} {fd : FuncData} (F : FnPk K "rows" "Fold.rows" s_Fold_rows [] [] f fd) (C_Fold : Cls K ((GY K ca T).ca "Fold")) (n_Fold_lines : NoAttr K ((GY K ca T).ca "Fold") "lines") : FnOk P w K mg base (L2N.CX P w) 1 f fd ["self"] (spOf (GY K ca T) 1 m_Fold_rows) :=
  fn_sim (GY K ca T) F sc_Fold_rows rfl fun cdv A outer s H E hr tk po => by
  have nd := sc_Fold_rows.nd
  exact ⟨_, (b_one (t_ret (s_fld "Fold" C_Fold n_Fold_lines (sv 0))))⟩
abbrev N_Move_told : List Str := ["self"]
theorem sc_Move_told : FnScope N_Move_told ["self"] (defScope s_Move_told) := ⟨rfl, rfl, rfl, by decide +kernel, rfl, by decide +kernel, by decide +kernel⟩
theorem ok_Move_told {f : Addr} {fd : FuncData} (F : FnPk K "told" "Move.told" s_Move_told [] [] f fd) (C_Move : Cls K ((GY K ca T).ca "Move")) (n_Move_left : NoAttr K ((GY K ca T).ca "Move") "left") (n_Move_done : NoAttr K ((GY K ca T).ca "Move") "done") (h_Fold_rows : KnM P w K mg base (GY K ca T) 1 "Fold" "rows" 1 m_Fold_rows [] []) (n_Move_aim : NoAttr K ((GY K ca T).ca "Move") "aim") : FnOk P w K mg base (L2N.CX P w) 2 f fd ["self"] (spOf (GY K ca T) 1 m_Move_told) :=
  fn_sim (GY K ca T) F sc_Move_told rfl fun cdv A outer s H E hr tk po => by
  have nd := sc_Move_told.nd
  exact ⟨_, (b_one (t_ret (s_tup (a_cons (u_meth0 "Fold" h_Fold_rows (hr.mono (by decide)) tk (s_fld "Move" C_Move n_Move_aim (sv 0))) (a_cons (s_fld "Move" C_Move n_Move_done (sv 0)) (a_cons (s_fld "Move" C_Move n_Move_left (sv 0)) a_nil))))))⟩
abbrev N_Body_moving : List Str := ["self", "name", "move"]
theorem sc_Body_moving : FnScope N_Body_moving ["self", "name"] (defScope s_Body_moving) := ⟨rfl, rfl, rfl, by decide +kernel, rfl, by decide +kernel, by decide +kernel⟩
theorem ok_Body_moving {f : Addr} {fd : FuncData} (F : FnPk K "moving" "Body.moving" s_Body_moving [] [] f fd) (h_Body_need : KnM P w K mg base (GY K ca T) 3 "Body" "need" 2 m_Body_need [] []) (C_Table : Cls K ((GY K ca T).ca "Table")) (n_Table_move : NoAttr K ((GY K ca T).ca "Table") "move") (h_Move_told : KnM P w K mg base (GY K ca T) 2 "Move" "told" 1 m_Move_told [] []) : FnOk P w K mg base (L2N.CX P w) 4 f fd ["self", "name"] (spOf (GY K ca T) 2 m_Body_moving) :=
  fn_sim (GY K ca T) F sc_Body_moving rfl fun cdv A outer s H E hr tk po => by
  have nd := sc_Body_moving.nd
  exact ⟨_, (b_cons (u_set 2 (s_fld "Table" C_Table n_Table_move (u_meth "Body" h_Body_need (hr.mono (by decide)) tk (sv 0) (a_cons (sv 1) a_nil))) nd)
    (b_one (t_ret (s_if (c_cmp od_is op_isN (sv 2) s_non (nomark _)) s_non (u_meth0 "Move" h_Move_told (hr.mono (by decide)) tk (sv 2))))))⟩
abbrev N_Body_rows : List Str := ["self", "name"]
theorem sc_Body_rows : FnScope N_Body_rows ["self", "name"] (defScope s_Body_rows) := ⟨rfl, rfl, rfl, by decide +kernel, rfl, by decide +kernel, by decide +kernel⟩
theorem ok_Body_rows {f : Addr} {fd : FuncData} (F : FnPk K "rows" "Body.rows" s_Body_rows [] [] f fd) (h_Fold_rows : KnM P w K mg base (GY K ca T) 1 "Fold" "rows" 1 m_Fold_rows [] []) (h_Body_need : KnM P w K mg base (GY K ca T) 3 "Body" "need" 2 m_Body_need [] []) (C_Table : Cls K ((GY K ca T).ca "Table")) (n_Table_spread : NoAttr K ((GY K ca T).ca "Table") "spread") : FnOk P w K mg base (L2N.CX P w) 4 f fd ["self", "name"] (spOf (GY K ca T) 2 m_Body_rows) :=
  fn_sim (GY K ca T) F sc_Body_rows rfl fun cdv A outer s H E hr tk po => by
  have nd := sc_Body_rows.nd
  exact ⟨_, (b_one (t_ret (u_meth0 "Fold" h_Fold_rows (hr.mono (by decide)) tk (s_fld "Table" C_Table n_Table_spread (u_meth "Body" h_Body_need (hr.mono (by decide)) tk (sv 0) (a_cons (sv 1) a_nil))))))⟩
abbrev N_Fold_size : List Str := ["self"]
theorem sc_Fold_size : FnScope N_Fold_size ["self"] (defScope s_Fold_size) := ⟨rfl, rfl, rfl, by decide +kernel, rfl, by decide +kernel, by decide +kernel⟩
theorem ok_Fold_size {f : Addr} {fd : FuncData} (F : FnPk K "size" "Fold.size" s_Fold_size [] [] f fd) (C_Fold : Cls K ((GY K ca T).ca "Fold")) (n_Fold_wide : NoAttr K ((GY K ca T).ca "Fold") "wide") : FnOk P w K mg base (L2N.CX P w) 1 f fd ["self"] (spOf (GY K ca T) 1 m_Fold_size) :=
  fn_sim (GY K ca T) F sc_Fold_size rfl fun cdv A outer s H E hr tk po => by
  have nd := sc_Fold_size.nd
  exact ⟨_, (b_one (t_ret (s_fld "Fold" C_Fold n_Fold_wide (sv 0))))⟩
abbrev N_Body_digits : List Str := ["self", "name"]
theorem sc_Body_digits : FnScope N_Body_digits ["self", "name"] (defScope s_Body_digits) := ⟨rfl, rfl, rfl, by decide +kernel, rfl, by decide +kernel, by decide +kernel⟩
theorem ok_Body_digits {f : Addr} {fd : FuncData} (F : FnPk K "digits" "Body.digits" s_Body_digits [] [] f fd) (h_Fold_size : KnM P w K mg base (GY K ca T) 1 "Fold" "size" 1 m_Fold_size [] []) (h_Body_need : KnM P w K mg base (GY K ca T) 3 "Body" "need" 2 m_Body_need [] []) (C_Table : Cls K ((GY K ca T).ca "Table")) (n_Table_spread : NoAttr K ((GY K ca T).ca "Table") "spread") : FnOk P w K mg base (L2N.CX P w) 4 f fd ["self", "name"] (spOf (GY K ca T) 2 m_Body_digits) :=
  fn_sim (GY K ca T) F sc_Body_digits rfl fun cdv A outer s H E hr tk po => by
  have nd := sc_Body_digits.nd
  exact ⟨_, (b_one (t_ret (u_meth0 "Fold" h_Fold_size (hr.mono (by decide)) tk (s_fld "Table" C_Table n_Table_spread (u_meth "Body" h_Body_need (hr.mono (by decide)) tk (sv 0) (a_cons (sv 1) a_nil))))))⟩
abbrev N_traced : List Str := ["numbers", "found", "idle", "at", "one", "left", "mark", "other", "trail", "top", "wider"]
theorem sc_traced : FnScope N_traced ["numbers"] (defScope s_traced) := ⟨rfl, rfl, rfl, by decide +kernel, rfl, by decide +kernel, by decide +kernel⟩
theorem ok_traced {f : Addr} {fd : FuncData} (F : FnPk K "traced" "traced" s_traced [] [] f fd) (B : Bl mg) (h_top_of : Kn P w K mg base (GY K ca T) 1 "top_of" 1 m_top_of [] []) : FnOk P w K mg base (L2N.CX P w) 2 f fd ["numbers"] (spOf (GY K ca T) 1 m_traced) :=
  fn_sim (GY K ca T) F sc_traced rfl fun cdv A outer s H E hr tk po => by
  have nd := sc_traced.nd
  exact ⟨_, (b_cons (u_set 1 (SF.val (f_lst a_nil)) nd)
    (b_cons (u_own 2 (f_lst a_nil) nd)
    (b_cons (t_for po (i_enumS B.enumerate (a_cons (sv 0) a_nil)) (g_tup (gs_cons (u_g 3 nd) (gs_cons (u_g 4 nd) gs_nil))) (b_cons (t_par (i := 5) (j := 6) nd rfl rfl (by decide) rfl rfl (a_cons (sv 4) (a_cons (s_op od_shl op_shl s_int (sv 3)) a_nil)) (by rfl))
    (b_cons (t_for po (i_seq (sv 1)) (g_tup (gs_cons (u_g 7 nd) (gs_cons (u_g 8 nd) gs_nil))) (b_one (t_if (c_cmp od_gt op_gt (s_op od_and op_and (sv 5) (u_call h_top_of (hr.mono (by decide)) tk (a_cons (sv 7) a_nil))) s_int (nomark _)) (b_one (t_par (i := 5) (j := 6) nd rfl rfl (by decide) rfl rfl (a_cons (s_op od_xor op_xor (sv 5) (sv 7)) (a_cons (s_op od_xor op_xor (sv 6) (sv 8)) a_nil)) (by rfl))) b_nil)))
    (b_one (t_if (c_cmp od_eq (op_eqD hr.units) (sv 5) s_int (nomark _)) (b_one (t_app 2 (sv 6))) (b_cons (u_set 9 (u_call h_top_of (hr.mono (by decide)) tk (a_cons (sv 5) a_nil)) nd)
    (b_cons (u_own 10 (f_lst (a_cons (s_tup (a_cons (sv 5) (a_cons (sv 6) a_nil))) a_nil)) nd)
    (b_cons (t_for po (i_seq (sv 1)) (g_tup (gs_cons (u_g 7 nd) (gs_cons (u_g 8 nd) gs_nil))) (b_one (t_app 10 (s_if (c_cmp od_gt op_gt (s_op od_and op_and (sv 7) (sv 9)) s_int (nomark _)) (s_tup (a_cons (s_op od_xor op_xor (sv 7) (sv 5)) (a_cons (s_op od_xor op_xor (sv 8) (sv 6)) a_nil))) (s_tup (a_cons (sv 7) (a_cons (sv 8) a_nil)))))))
    (b_frz 10 (b_one (u_set 1 (sv 10) nd)))))))))))
    (b_frz 2 (b_one (t_ret (s_tup (a_cons (sv 1) (a_cons (sv 2) a_nil)))))))))⟩
abbrev N_trail_to : List Str := ["numbers", "one", "left", "mark", "other", "trail"]
theorem sc_trail_to : FnScope N_trail_to ["numbers", "one"] (defScope s_trail_to) := ⟨rfl, rfl, rfl, by decide +kernel, rfl, by decide +kernel, by decide +kernel⟩
theorem ok_trail_to {f : Addr} {fd : FuncData} (F : FnPk K "trail_to" "trail_to" s_trail_to [] [] f fd) (h_traced : Kn P w K mg base (GY K ca T) 2 "traced" 1 m_traced [] []) (h_top_of : Kn P w K mg base (GY K ca T) 1 "top_of" 1 m_top_of [] []) : FnOk P w K mg base (L2N.CX P w) 3 f fd ["numbers", "one"] (spOf (GY K ca T) 2 m_trail_to) :=
  fn_sim (GY K ca T) F sc_trail_to rfl fun cdv A outer s H E hr tk po => by
  have nd := sc_trail_to.nd
  exact ⟨_, (b_cons (t_par (i := 2) (j := 3) nd rfl rfl (by decide) rfl rfl (a_cons (sv 1) (a_cons s_int a_nil)) (by rfl))
    (b_cons (t_for po (i_seq (s_ix od_ix ix_lt (u_call h_traced (hr.mono (by decide)) tk (a_cons (sv 0) a_nil)) s_int (fun _ _ => rfl))) (g_tup (gs_cons (u_g 4 nd) (gs_cons (u_g 5 nd) gs_nil))) (b_one (t_if (c_cmp od_gt op_gt (s_op od_and op_and (sv 2) (u_call h_top_of (hr.mono (by decide)) tk (a_cons (sv 4) a_nil))) s_int (nomark _)) (b_one (t_par (i := 2) (j := 3) nd rfl rfl (by decide) rfl rfl (a_cons (s_op od_xor op_xor (sv 2) (sv 4)) (a_cons (s_op od_xor op_xor (sv 3) (sv 5)) a_nil)) (by rfl))) b_nil)))
    (b_one (t_ret (s_if (c_cmp od_eq (op_eqD hr.units) (sv 2) s_int (nomark _)) (sv 3) s_non)))))⟩
abbrev N_Fold_kernel : List Str := ["self"]
theorem sc_Fold_kernel : FnScope N_Fold_kernel ["self"] (defScope s_Fold_kernel) := ⟨rfl, rfl, rfl, by decide +kernel, rfl, by decide +kernel, by decide +kernel⟩
theorem ok_Fold_kernel {f : Addr} {fd : FuncData} (F : FnPk K "kernel" "Fold.kernel" s_Fold_kernel [] [] f fd) (C_Fold : Cls K ((GY K ca T).ca "Fold")) (n_Fold_lines : NoAttr K ((GY K ca T).ca "Fold") "lines") (h_traced : Kn P w K mg base (GY K ca T) 2 "traced" 1 m_traced [] []) (h_basis_of : Kn P w K mg base (GY K ca T) 3 "basis_of" 1 m_basis_of [] []) : FnOk P w K mg base (L2N.CX P w) 4 f fd ["self"] (spOf (GY K ca T) 1 m_Fold_kernel) :=
  fn_sim (GY K ca T) F sc_Fold_kernel rfl fun cdv A outer s H E hr tk po => by
  have nd := sc_Fold_kernel.nd
  exact ⟨_, (b_one (t_retF (v_call h_basis_of (hr.mono (by decide)) tk (a_cons (s_ix od_ix ix_lt (u_call h_traced (hr.mono (by decide)) tk (a_cons (s_fld "Fold" C_Fold n_Fold_lines (sv 0)) a_nil)) s_int (fun _ _ => rfl)) a_nil))))⟩
abbrev N_Fold_least : List Str := ["self", "number", "mark"]
theorem sc_Fold_least : FnScope N_Fold_least ["self", "number"] (defScope s_Fold_least) := ⟨rfl, rfl, rfl, by decide +kernel, rfl, by decide +kernel, by decide +kernel⟩
theorem ok_Fold_least {f : Addr} {fd : FuncData} (F : FnPk K "least" "Fold.least" s_Fold_least [] [] f fd) (C_Fold : Cls K ((GY K ca T).ca "Fold")) (n_Fold_lines : NoAttr K ((GY K ca T).ca "Fold") "lines") (h_trail_to : Kn P w K mg base (GY K ca T) 3 "trail_to" 2 m_trail_to [] []) (h_Fold_kernel : KnM P w K mg base (GY K ca T) 4 "Fold" "kernel" 1 m_Fold_kernel [] []) (h_reduced : Kn P w K mg base (GY K ca T) 2 "reduced" 2 m_reduced [] []) : FnOk P w K mg base (L2N.CX P w) 5 f fd ["self", "number"] (spOf (GY K ca T) 2 m_Fold_least) :=
  fn_sim (GY K ca T) F sc_Fold_least rfl fun cdv A outer s H E hr tk po => by
  have nd := sc_Fold_least.nd
  exact ⟨_, (b_cons (u_set 2 (u_call h_trail_to (hr.mono (by decide)) tk (a_cons (s_fld "Fold" C_Fold n_Fold_lines (sv 0)) (a_cons (sv 1) a_nil))) nd)
    (b_one (t_ret (s_if (c_cmp od_is op_isN (sv 2) s_non (nomark _)) s_non (u_call h_reduced (hr.mono (by decide)) tk (a_cons (sv 2) (a_cons (u_meth0 "Fold" h_Fold_kernel (hr.mono (by decide)) tk (sv 0)) a_nil)))))))⟩
abbrev N_Fold_back : List Str := ["self", "at"]
theorem sc_Fold_back : FnScope N_Fold_back ["self"] (defScope s_Fold_back) := ⟨rfl, rfl, rfl, by decide +kernel, rfl, by decide +kernel, by decide +kernel⟩
theorem ok_Fold_back {f : Addr} {fd : FuncData} (F : FnPk K "back" "Fold.back" s_Fold_back [] [] f fd) (B : Bl mg) (h_Fold_onto : KnM P w K mg base (GY K ca T) 4 "Fold" "onto" 1 m_Fold_onto [] []) (x_NotOnto : KnX K mg (GY K ca T) "NotOnto") (k_Fold : KnC P w K mg base (GY K ca T) 1 "Fold" 3 m_FoldU_initU [] []) (C_Fold : Cls K ((GY K ca T).ca "Fold")) (n_Fold_lines : NoAttr K ((GY K ca T).ca "Fold") "lines") (n_Fold_wide : NoAttr K ((GY K ca T).ca "Fold") "wide") (h_Fold_least : KnM P w K mg base (GY K ca T) 5 "Fold" "least" 2 m_Fold_least [] []) : FnOk P w K mg base (L2N.CX P w) 6 f fd ["self"] (spOf (GY K ca T) 1 m_Fold_back) :=
  fn_sim (GY K ca T) F sc_Fold_back rfl fun cdv A outer s H E hr tk po => by
  have nd := sc_Fold_back.nd
  exact ⟨_, (b_cons (t_if (c_not (c_val (u_meth0 "Fold" h_Fold_onto (hr.mono (by decide)) tk (sv 0)))) (b_one (u_raise x_NotOnto tk)) b_nil)
    (b_one (t_ret (u_new k_Fold (hr.mono (by decide)) tk (a_cons (SF.val (f_lc (own := [("at", 1)]) nd (i_range1 B.range (a_cons (s_fld "Fold" C_Fold n_Fold_wide (sv 0)) a_nil)) (blkOk_by (own := [("at", 1)]) (N := N_Fold_back) (sc := defScope s_Fold_back) (by decide +kernel)) (fun _ _ _ _ _ => (u_g 1 nd)) (fun _ _ _ _ _ => ts_nil) (fun _ _ _ _ _ => (u_meth "Fold" h_Fold_least (hr.mono (by decide)) takesN (sv 0) (a_cons (s_op od_shl op_shl s_int (sv 1)) a_nil))))) (a_cons (s_cb cd_len cr_len B.len PySem.boot_len (a_cons (s_fld "Fold" C_Fold n_Fold_lines (sv 0)) a_nil)) a_nil))))))⟩
abbrev N_Table_plain : List Str := ["self", "back", "cell"]
theorem sc_Table_plain : FnScope N_Table_plain ["self"] (defScope s_Table_plain) := ⟨rfl, rfl, rfl, by decide +kernel, rfl, by decide +kernel, by decide +kernel⟩
theorem ok_Table_plain {f : Addr} {fd : FuncData} (F : FnPk K "plain" "Table.plain" s_Table_plain [] [] f fd) (B : Bl mg) (h_Fold_back : KnM P w K mg base (GY K ca T) 6 "Fold" "back" 1 m_Fold_back [] []) (C_Table : Cls K ((GY K ca T).ca "Table")) (n_Table_spread : NoAttr K ((GY K ca T).ca "Table") "spread") (h_Fold_size : KnM P w K mg base (GY K ca T) 1 "Fold" "size" 1 m_Fold_size [] []) (h_Fold_to : KnM P w K mg base (GY K ca T) 3 "Fold" "to" 2 m_Fold_to [] []) (n_Table_grip : NoAttr K ((GY K ca T).ca "Table") "grip") : FnOk P w K mg base (L2N.CX P w) 7 f fd ["self"] (spOf (GY K ca T) 1 m_Table_plain) :=
  fn_sim (GY K ca T) F sc_Table_plain rfl fun cdv A outer s H E hr tk po => by
  have nd := sc_Table_plain.nd
  exact ⟨_, (b_cons (u_set 1 (u_meth0 "Fold" h_Fold_back (hr.mono (by decide)) tk (s_fld "Table" C_Table n_Table_spread (sv 0))) nd)
    (b_one (t_retF (f_lc (own := [("cell", 2)]) nd (i_range1 B.range (a_cons (s_op od_shl op_shl s_int (u_meth0 "Fold" h_Fold_size (hr.mono (by decide)) tk (s_fld "Table" C_Table n_Table_spread (sv 0)))) a_nil)) (blkOk_by (own := [("cell", 2)]) (N := N_Table_plain) (sc := defScope s_Table_plain) (by decide +kernel)) (fun _ _ _ _ _ => (u_g 2 nd)) (fun _ _ _ _ _ => ts_nil) (fun _ _ _ _ _ => (s_ix od_ix ix_lt (s_fld "Table" C_Table n_Table_grip (sv 0)) (u_meth "Fold" h_Fold_to (hr.mono (by decide)) takesN (sv 1) (a_cons (sv 2) a_nil)) (fun _ _ => rfl)))))))⟩
abbrev N_Body_cells : List Str := ["self", "name"]
theorem sc_Body_cells : FnScope N_Body_cells ["self", "name"] (defScope s_Body_cells) := ⟨rfl, rfl, rfl, by decide +kernel, rfl, by decide +kernel, by decide +kernel⟩
theorem ok_Body_cells {f : Addr} {fd : FuncData} (F : FnPk K "cells" "Body.cells" s_Body_cells [] [] f fd) (h_Table_plain : KnM P w K mg base (GY K ca T) 7 "Table" "plain" 1 m_Table_plain [] []) (h_Body_need : KnM P w K mg base (GY K ca T) 3 "Body" "need" 2 m_Body_need [] []) : FnOk P w K mg base (L2N.CX P w) 8 f fd ["self", "name"] (spOf (GY K ca T) 2 m_Body_cells) :=
  fn_sim (GY K ca T) F sc_Body_cells rfl fun cdv A outer s H E hr tk po => by
  have nd := sc_Body_cells.nd
  exact ⟨_, (b_one (t_retF (v_meth0 "Table" h_Table_plain (hr.mono (by decide)) tk (u_meth "Body" h_Body_need (hr.mono (by decide)) tk (sv 0) (a_cons (sv 1) a_nil)))))⟩
abbrev N_Body_berths : List Str := ["self", "name", "cell", "spread", "berth"]
theorem sc_Body_berths : FnScope N_Body_berths ["self", "name", "cell"] (defScope s_Body_berths) := ⟨rfl, rfl, rfl, by decide +kernel, rfl, by decide +kernel, by decide +kernel⟩
theorem ok_Body_berths {f : Addr} {fd : FuncData} (F : FnPk K "berths" "Body.berths" s_Body_berths [] [] f fd) (B : Bl mg) (h_Body_need : KnM P w K mg base (GY K ca T) 3 "Body" "need" 2 m_Body_need [] []) (C_Table : Cls K ((GY K ca T).ca "Table")) (n_Table_spread : NoAttr K ((GY K ca T).ca "Table") "spread") (h_Fold_size : KnM P w K mg base (GY K ca T) 1 "Fold" "size" 1 m_Fold_size [] []) (x_NoCell : KnX K mg (GY K ca T) "NoCell") (h_Fold_many : KnM P w K mg base (GY K ca T) 1 "Fold" "many" 1 m_Fold_many [] []) (h_Fold_to : KnM P w K mg base (GY K ca T) 3 "Fold" "to" 2 m_Fold_to [] []) : FnOk P w K mg base (L2N.CX P w) 4 f fd ["self", "name", "cell"] (spOf (GY K ca T) 3 m_Body_berths) :=
  fn_sim (GY K ca T) F sc_Body_berths rfl fun cdv A outer s H E hr tk po => by
  have nd := sc_Body_berths.nd
  exact ⟨_, (b_cons (u_set 3 (s_fld "Table" C_Table n_Table_spread (u_meth "Body" h_Body_need (hr.mono (by decide)) tk (sv 0) (a_cons (sv 1) a_nil))) nd)
    (b_cons (t_if (SW.sc (w_or (c_cmp od_lt op_lt (sv 2) s_int (nomark _)) (w_or1 (c_cmp od_gt op_gt (s_op od_shr op_shr (sv 2) (u_meth0 "Fold" h_Fold_size (hr.mono (by decide)) tk (sv 3))) s_int (nomark _))))) (b_one (u_raise x_NoCell tk)) b_nil)
    (b_one (t_retF (f_lc (own := [("berth", 4)]) nd (i_range1 B.range (a_cons (s_op od_shl op_shl s_int (u_meth0 "Fold" h_Fold_many (hr.mono (by decide)) tk (sv 3))) a_nil)) (blkOk_by (own := [("berth", 4)]) (N := N_Body_berths) (sc := defScope s_Body_berths) (by decide +kernel)) (fun _ _ _ _ _ => (u_g 4 nd)) (fun _ _ _ _ _ => (ts_one (c_cmp od_eq (op_eqD hr.units) (u_meth "Fold" h_Fold_to (hr.mono (by decide)) takesN (sv 3) (a_cons (sv 4) a_nil)) (sv 2) (nomark _)))) (fun _ _ _ _ _ => (sv 4)))))))⟩
abbrev N_BodyU_lenU : List Str := ["self"]
theorem sc_BodyU_lenU : FnScope N_BodyU_lenU ["self"] (defScope s_BodyU_lenU) := ⟨rfl, rfl, rfl, by decide +kernel, rfl, by decide +kernel, by decide +kernel⟩
theorem ok_BodyU_lenU {f : Addr} {fd : FuncData} (F : FnPk K "__len__" "Body.__len__" s_BodyU_lenU [] [] f fd) (B : Bl mg) (C_Body : Cls K ((GY K ca T).ca "Body")) (n_Body_tables : NoAttr K ((GY K ca T).ca "Body") "tables") : FnOk P w K mg base (L2N.CX P w) 1 f fd ["self"] (spOf (GY K ca T) 1 m_BodyU_lenU) :=
  fn_sim (GY K ca T) F sc_BodyU_lenU rfl fun cdv A outer s H E hr tk po => by
  have nd := sc_BodyU_lenU.nd
  exact ⟨_, (b_one (t_ret (s_cb cd_lenD call_lenD B.len PySem.boot_len (a_cons (s_fld "Body" C_Body n_Body_tables (sv 0)) a_nil))))⟩
abbrev N_Body_paid : List Str := ["self"]
theorem sc_Body_paid : FnScope N_Body_paid ["self"] (defScope s_Body_paid) := ⟨rfl, rfl, rfl, by decide +kernel, rfl, by decide +kernel, by decide +kernel⟩
theorem ok_Body_paid {f : Addr} {fd : FuncData} (F : FnPk K "paid" "Body.paid" s_Body_paid [] [] f fd) (C_Body : Cls K ((GY K ca T).ca "Body")) (n_Body_dues : NoAttr K ((GY K ca T).ca "Body") "dues") : FnOk P w K mg base (L2N.CX P w) 1 f fd ["self"] (spOf (GY K ca T) 1 m_Body_paid) :=
  fn_sim (GY K ca T) F sc_Body_paid rfl fun cdv A outer s H E hr tk po => by
  have nd := sc_Body_paid.nd
  exact ⟨_, (b_one (t_ret (s_fld "Body" C_Body n_Body_dues (sv 0))))⟩
abbrev N_Body_stored : List Str := ["self"]
theorem sc_Body_stored : FnScope N_Body_stored ["self"] (defScope s_Body_stored) := ⟨rfl, rfl, rfl, by decide +kernel, rfl, by decide +kernel, by decide +kernel⟩
theorem ok_Body_stored {f : Addr} {fd : FuncData} (F : FnPk K "stored" "Body.stored" s_Body_stored [] [] f fd) (B : Bl mg) (C_Body : Cls K ((GY K ca T).ca "Body")) (n_Body_store : NoAttr K ((GY K ca T).ca "Body") "store") : FnOk P w K mg base (L2N.CX P w) 1 f fd ["self"] (spOf (GY K ca T) 1 m_Body_stored) :=
  fn_sim (GY K ca T) F sc_Body_stored rfl fun cdv A outer s H E hr tk po => by
  have nd := sc_Body_stored.nd
  exact ⟨_, (b_one (t_retF (f_cb co_sortedD (call_sortedD rfl) B.sorted PyProof.Rows.boot_sorted (a_cons (s_fld "Body" C_Body n_Body_store (sv 0)) a_nil))))⟩
abbrev N_Body_names : List Str := ["self"]
theorem sc_Body_names : FnScope N_Body_names ["self"] (defScope s_Body_names) := ⟨rfl, rfl, rfl, by decide +kernel, rfl, by decide +kernel, by decide +kernel⟩
theorem ok_Body_names {f : Addr} {fd : FuncData} (F : FnPk K "names" "Body.names" s_Body_names [] [] f fd) (B : Bl mg) (C_Body : Cls K ((GY K ca T).ca "Body")) (n_Body_tables : NoAttr K ((GY K ca T).ca "Body") "tables") : FnOk P w K mg base (L2N.CX P w) 1 f fd ["self"] (spOf (GY K ca T) 1 m_Body_names) :=
  fn_sim (GY K ca T) F sc_Body_names rfl fun cdv A outer s H E hr tk po => by
  have nd := sc_Body_names.nd
  exact ⟨_, (b_one (t_retF (f_cb co_sortedD (call_sortedD rfl) B.sorted PyProof.Rows.boot_sorted (a_cons (s_fld "Body" C_Body n_Body_tables (sv 0)) a_nil))))⟩
abbrev N_BodyU_reprU : List Str := ["self"]
theorem sc_BodyU_reprU : FnScope N_BodyU_reprU ["self"] (defScope s_BodyU_reprU) := ⟨rfl, rfl, rfl, by decide +kernel, rfl, by decide +kernel, by decide +kernel⟩
theorem ok_BodyU_reprU {f : Addr} {fd : FuncData} (F : FnPk K "__repr__" "Body.__repr__" s_BodyU_reprU [] [] f fd) (B : Bl mg) (C_Body : Cls K ((GY K ca T).ca "Body")) (n_Body_tables : NoAttr K ((GY K ca T).ca "Body") "tables") (n_Body_wide : NoAttr K ((GY K ca T).ca "Body") "wide") : FnOk P w K mg base (L2N.CX P w) 1 f fd ["self"] (spOf (GY K ca T) 1 m_BodyU_reprU) :=
  fn_sim (GY K ca T) F sc_BodyU_reprU rfl fun cdv A outer s H E hr tk po => by
  have nd := sc_BodyU_reprU.nd
  exact ⟨_, (b_one (t_ret (s_fs (sj_cons s_str (sj_cons (s_fmt (s_op od_shl op_shl s_int (s_op od_add op_addD (s_ix od_ix ix_lt (s_fld "Body" C_Body n_Body_wide (sv 0)) s_int (fun _ _ => rfl)) (s_ix od_ix ix_lt (s_fld "Body" C_Body n_Body_wide (sv 0)) s_int (fun _ _ => rfl))))) (sj_cons s_str (sj_cons (s_fmt (s_cb cd_lenD call_lenD B.len PySem.boot_len (a_cons (s_fld "Body" C_Body n_Body_tables (sv 0)) a_nil))) (sj_cons s_str sj_nil))))))))⟩
abbrev N__law_blend : List Str := ["_law_numbers_here", "_law_found", "_law_one"]
theorem sc__law_blend : FnScope N__law_blend ["_law_numbers_here"] (defScope s__law_blend) := ⟨rfl, rfl, rfl, by decide +kernel, rfl, by decide +kernel, by decide +kernel⟩
theorem ok__law_blend {f : Addr} {fd : FuncData} (F : FnPk K "_law_blend" "_law_blend" s__law_blend [] [] f fd) : FnOk P w K mg base (L2N.CX P w) 1 f fd ["_law_numbers_here"] (spOf (GY K ca T) 1 m__law_blend) :=
  fn_sim (GY K ca T) F sc__law_blend rfl fun cdv A outer s H E hr tk po => by
  have nd := sc__law_blend.nd
  exact ⟨_, (b_cons (u_set 1 s_int nd)
    (b_cons (t_for po (i_seq (sv 0)) (u_g 2 nd) (b_one (u_set 1 (s_op od_xor op_xor (sv 1) (sv 2)) nd)))
    (b_one (t_ret (sv 1)))))⟩
abbrev N__law_to : List Str := ["_law_lines_here", "_law_number", "_law_at", "_law_line"]
theorem sc__law_to : FnScope N__law_to ["_law_lines_here", "_law_number"] (defScope s__law_to) := ⟨rfl, rfl, rfl, by decide +kernel, rfl, by decide +kernel, by decide +kernel⟩
theorem ok__law_to {f : Addr} {fd : FuncData} (F : FnPk K "_law_to" "_law_to" s__law_to [] [] f fd) (B : Bl mg) (h__law_blend : Kn P w K mg base (GY K ca T) 1 "_law_blend" 1 m__law_blend [] []) : FnOk P w K mg base (L2N.CX P w) 2 f fd ["_law_lines_here", "_law_number"] (spOf (GY K ca T) 2 m__law_to) :=
  fn_sim (GY K ca T) F sc__law_to rfl fun cdv A outer s H E hr tk po => by
  have nd := sc__law_to.nd
  exact ⟨_, (b_one (t_ret (u_call h__law_blend (hr.mono (by decide)) tk (a_cons (SF.val (f_lc (own := [("_law_at", 2), ("_law_line", 3)]) nd (i_enumS B.enumerate (a_cons (sv 0) a_nil)) (blkOk_by (own := [("_law_at", 2), ("_law_line", 3)]) (N := N__law_to) (sc := defScope s__law_to) (by decide +kernel)) (fun _ _ _ _ _ => (g_tup (gs_cons (u_g 2 nd) (gs_cons (u_g 3 nd) gs_nil)))) (fun _ _ _ _ _ => (ts_one (c_cmp od_eq (op_eqD hr.units) (s_op od_and op_and (s_op od_shr op_shr (sv 1) (sv 2)) s_int) s_int (nomark _)))) (fun _ _ _ _ _ => (sv 3)))) a_nil))))⟩
abbrev N__law_shelves : List Str := ["_law_m", "_law_name", "_law_folding", "_law_cells_here", "_law_spots", "_law_found", "_law_shelf", "_law_cell", "_law_worth", "_law_spot"]
theorem sc__law_shelves : FnScope N__law_shelves ["_law_m", "_law_name"] (defScope s__law_shelves) := ⟨rfl, rfl, rfl, by decide +kernel, rfl, by decide +kernel, by decide +kernel⟩
theorem ok__law_shelves {f : Addr} {fd : FuncData} (F : FnPk K "_law_shelves" "_law_shelves" s__law_shelves [] [] f fd) (B : Bl mg) (h__law_to : Kn P w K mg base (GY K ca T) 2 "_law_to" 2 m__law_to [] []) : FnOk P w K mg base (L2N.CX P w) 3 f fd ["_law_m", "_law_name"] (spOf (GY K ca T) 2 m__law_shelves) :=
  fn_sim (GY K ca T) F sc__law_shelves rfl fun cdv A outer s H E hr tk po => by
  have nd := sc__law_shelves.nd
  exact ⟨_, (b_cons (t_asg (s_dget hr.units (s_dgetA 0 hr.units s_str (fun _ _ => rfl)) (sv 1) (fun _ _ => rfl)) (g_tup (gs_cons (u_g 2 nd) (gs_cons (u_g 3 nd) gs_nil))))
    (b_cons (t_setLc (i := 4) (own := [("_law_cell", 7)]) nd rfl rfl (sw_true rfl rfl rfl (by decide +kernel)) (i_range1 B.range (a_cons (s_cb cd_len cr_len B.len PySem.boot_len (a_cons (sv 3) a_nil)) a_nil)) (blkOk_by (own := [("_law_cell", 7)]) (N := N__law_shelves) (sc := defScope s__law_shelves) (by decide +kernel)) (fun _ _ _ _ _ => (u_g 7 nd)) (fun _ _ _ _ _ => ts_nil) (fun _ _ _ _ _ => (u_call h__law_to (hr.mono (by decide)) takesN (a_cons (sv 2) (a_cons (sv 7) a_nil)))))
    (b_cons (u_own 5 (f_lst a_nil) nd)
    (b_cons (t_for po (i_range1 B.range (a_cons (s_op od_shl op_shl s_int (s_ix od_ix ix_lt (s_dgetA 0 hr.units s_str (fun _ _ => rfl)) s_int (fun _ _ => rfl))) a_nil)) (u_g 6 nd) (b_one (t_app 5 (SF.val (f_lc (own := [("_law_worth", 8), ("_law_spot", 9)]) nd (i_zipA B.zip (a_cons (sv 3) (a_cons (sv 4) a_nil))) (blkOk_by (own := [("_law_worth", 8), ("_law_spot", 9)]) (N := N__law_shelves) (sc := defScope s__law_shelves) (by decide +kernel)) (fun _ _ _ _ _ => (g_tup (gs_cons (u_g 8 nd) (gs_cons (u_g 9 nd) gs_nil)))) (fun _ _ _ _ _ => (ts_one (c_cmp od_eq (op_eqD hr.units) (sv 9) (sv 6) (nomark _)))) (fun _ _ _ _ _ => (sv 8)))))))
    (b_one (t_retO 5))))))⟩
abbrev N_Body_need_stash : List Str := ["self", "name"]
theorem sc_Body_need_stash : FnScope N_Body_need_stash ["self", "name"] (defScope s_Body_need_stash) := ⟨rfl, rfl, rfl, by decide +kernel, rfl, by decide +kernel, by decide +kernel⟩
theorem ok_Body_need_stash {f : Addr} {fd : FuncData} (F : FnPk K "need_stash" "Body.need_stash" s_Body_need_stash [] [] f fd) (C_Body : Cls K ((GY K ca T).ca "Body")) (n_Body_store : NoAttr K ((GY K ca T).ca "Body") "store") (xf_NoStash : KnF P w K mg base (GY K ca T) "NoStash") : FnOk P w K mg base (L2N.CX P w) 3 f fd ["self", "name"] (spOf (GY K ca T) 2 m_Body_need_stash) :=
  fn_sim (GY K ca T) F sc_Body_need_stash rfl fun cdv A outer s H E hr tk po => by
  have nd := sc_Body_need_stash.nd
  exact ⟨_, (b_cons (t_if (c_dnin hr.units (sv 1) (s_fld "Body" C_Body n_Body_store (sv 0))) (b_one (u_raiseF xf_NoStash (hr.mono (by decide)) tk (sv 1))) b_nil)
    (b_one (t_ret (s_dget hr.units (s_fld "Body" C_Body n_Body_store (sv 0)) (sv 1) (fun _ _ => rfl)))))⟩
abbrev N_Body_folding : List Str := ["self", "name"]
theorem sc_Body_folding : FnScope N_Body_folding ["self", "name"] (defScope s_Body_folding) := ⟨rfl, rfl, rfl, by decide +kernel, rfl, by decide +kernel, by decide +kernel⟩
theorem ok_Body_folding {f : Addr} {fd : FuncData} (F : FnPk K "folding" "Body.folding" s_Body_folding [] [] f fd) (h_Body_need_stash : KnM P w K mg base (GY K ca T) 3 "Body" "need_stash" 2 m_Body_need_stash [] []) : FnOk P w K mg base (L2N.CX P w) 4 f fd ["self", "name"] (spOf (GY K ca T) 2 m_Body_folding) :=
  fn_sim (GY K ca T) F sc_Body_folding rfl fun cdv A outer s H E hr tk po => by
  have nd := sc_Body_folding.nd
  exact ⟨_, (b_one (t_ret (s_ix od_ix ix_lt (u_meth "Body" h_Body_need_stash (hr.mono (by decide)) tk (sv 0) (a_cons (sv 1) a_nil)) s_int (fun _ _ => rfl))))⟩
abbrev N_Body_shelf : List Str := ["self", "name", "bank", "folding", "cells", "cell", "worth"]
theorem sc_Body_shelf : FnScope N_Body_shelf ["self", "name", "bank"] (defScope s_Body_shelf) := ⟨rfl, rfl, rfl, by decide +kernel, rfl, by decide +kernel, by decide +kernel⟩
theorem ok_Body_shelf {f : Addr} {fd : FuncData} (F : FnPk K "shelf" "Body.shelf" s_Body_shelf [] [] f fd) (B : Bl mg) (h_Body_need_stash : KnM P w K mg base (GY K ca T) 3 "Body" "need_stash" 2 m_Body_need_stash [] []) (C_Body : Cls K ((GY K ca T).ca "Body")) (n_Body_wide : NoAttr K ((GY K ca T).ca "Body") "wide") (x_NoBank : KnX K mg (GY K ca T) "NoBank") (h_picked : Kn P w K mg base (GY K ca T) 2 "picked" 2 m_picked [] []) : FnOk P w K mg base (L2N.CX P w) 4 f fd ["self", "name", "bank"] (spOf (GY K ca T) 3 m_Body_shelf) :=
  fn_sim (GY K ca T) F sc_Body_shelf rfl fun cdv A outer s H E hr tk po => by
  have nd := sc_Body_shelf.nd
  exact ⟨_, (b_cons (t_asg (u_meth "Body" h_Body_need_stash (hr.mono (by decide)) tk (sv 0) (a_cons (sv 1) a_nil)) (g_tup (gs_cons (u_g 3 nd) (gs_cons (u_g 4 nd) gs_nil))))
    (b_cons (t_if (SW.sc (w_or (c_cmp od_lt op_lt (sv 2) s_int (nomark _)) (w_or1 (c_cmp od_gt op_gt (s_op od_shr op_shr (sv 2) (s_ix od_ix ix_lt (s_fld "Body" C_Body n_Body_wide (sv 0)) s_int (fun _ _ => rfl))) s_int (nomark _))))) (b_one (u_raise x_NoBank tk)) b_nil)
    (b_one (t_retF (f_lc (own := [("cell", 5), ("worth", 6)]) nd (i_enumS B.enumerate (a_cons (sv 4) a_nil)) (blkOk_by (own := [("cell", 5), ("worth", 6)]) (N := N_Body_shelf) (sc := defScope s_Body_shelf) (by decide +kernel)) (fun _ _ _ _ _ => (g_tup (gs_cons (u_g 5 nd) (gs_cons (u_g 6 nd) gs_nil)))) (fun _ _ _ _ _ => (ts_one (c_cmp od_eq (op_eqD hr.units) (u_call h_picked (hr.mono (by decide)) takesN (a_cons (sv 3) (a_cons (sv 5) a_nil))) (sv 2) (nomark _)))) (fun _ _ _ _ _ => (sv 6)))))))⟩
abbrev N__law_stands : List Str := ["_law_body", "_law_m", "_law_names", "_law_found", "_law_berths_now", "_law_name", "_law_lines_here", "_law_cells_here", "_law_move", "_law_due", "_law_at"]
theorem sc__law_stands : FnScope N__law_stands ["_law_body", "_law_m"] (defScope s__law_stands) := ⟨rfl, rfl, rfl, by decide +kernel, rfl, by decide +kernel, by decide +kernel⟩
theorem ok__law_stands {f : Addr} {fd : FuncData} (F : FnPk K "_law_stands" "_law_stands" s__law_stands [] [] f fd) (B : Bl mg) (h_BodyU_lenU : KnM P w K mg base (GY K ca T) 1 "Body" "__len__" 1 m_BodyU_lenU [] []) (h_Body_paid : KnM P w K mg base (GY K ca T) 1 "Body" "paid" 1 m_Body_paid [] []) (h_Body_stored : KnM P w K mg base (GY K ca T) 1 "Body" "stored" 1 m_Body_stored [] []) (h_Body_names : KnM P w K mg base (GY K ca T) 1 "Body" "names" 1 m_Body_names [] []) (h__law_same : ∀ n, Kn P w K mg base (GY K ca T) (n + 1) "_law_same" 2 (m__law_same n) [] []) (h__law_deep : Kn P w K mg base (GY K ca T) 1 "_law_deep" 1 m__law_deep [] []) (h_BodyU_reprU : KnM P w K mg base (GY K ca T) 1 "Body" "__repr__" 1 m_BodyU_reprU [] []) (h_Body_moving : KnM P w K mg base (GY K ca T) 4 "Body" "moving" 2 m_Body_moving [] []) (h_Body_cells : KnM P w K mg base (GY K ca T) 8 "Body" "cells" 2 m_Body_cells [] []) (h_Body_rows : KnM P w K mg base (GY K ca T) 4 "Body" "rows" 2 m_Body_rows [] []) (h__law_shelves : Kn P w K mg base (GY K ca T) 3 "_law_shelves" 2 m__law_shelves [] []) (h_Body_folding : KnM P w K mg base (GY K ca T) 4 "Body" "folding" 2 m_Body_folding [] []) (h_Body_shelf : KnM P w K mg base (GY K ca T) 4 "Body" "shelf" 3 m_Body_shelf [] []) : FnOk P w K mg base (L2N.CX P w) 9 f fd ["_law_body", "_law_m"] (spOf (GY K ca T) 2 m__law_stands) :=
  fn_sim (GY K ca T) F sc__law_stands rfl fun cdv A outer s H E hr tk po => by
  have nd := sc__law_stands.nd
  exact ⟨_, (b_cons (u_set 2 (SF.val (f_cb co_sortedD (call_sortedD rfl) B.sorted PyProof.Rows.boot_sorted (a_cons (s_dgetA 1 hr.units s_str (fun _ _ => rfl)) a_nil))) nd)
    (b_cons (u_set 3 (SF.val (f_lst (a_cons (u_meth0 "Body" h_Body_names (hr.mono (by decide)) tk (sv 0)) (a_cons (u_meth0 "Body" h_Body_stored (hr.mono (by decide)) tk (sv 0)) (a_cons (u_meth0 "Body" h_Body_paid (hr.mono (by decide)) tk (sv 0)) (a_cons (s_lenOw "Body" h_BodyU_lenU (hr.mono (by decide)) B.len (sv 0)) a_nil)))))) nd)
    (b_cons (t_if (c_not (c_val (u_call (h__law_same 4) (hr.mono (by decide)) tk (a_cons (sv 3) (a_cons (SF.val (f_lst (a_cons (sv 2) (a_cons (SF.val (f_cb co_sortedD (call_sortedD rfl) B.sorted PyProof.Rows.boot_sorted (a_cons (s_dgetA 1 hr.units s_str (fun _ _ => rfl)) a_nil))) (a_cons (s_dgetA 1 hr.units s_str (fun _ _ => rfl)) (a_cons (s_cb cd_len cr_len B.len PySem.boot_len (a_cons (sv 2) a_nil)) a_nil)))))) a_nil))))) (b_one (t_ret s_bl)) b_nil)
    (b_cons (u_set 4 (s_op od_shl op_shl s_int (u_call h__law_deep (hr.mono (by decide)) tk (a_cons (sv 1) a_nil))) nd)
    (b_cons (t_if (c_cmp od_ne (op_neD hr.units) (s_reprO "Body" h_BodyU_reprU (hr.mono (by decide)) B.repr (sv 0)) (s_op od_addS op_add_str (s_op od_addS op_add_str (s_op od_addS op_add_str (s_op od_addS op_add_str s_str (s_ct cd_strI call_str_int B.str (by decide +kernel : bootBuiltins "str" = some (.type "str")) (a_cons (sv 4) a_nil))) s_str) (s_ct cd_strI call_str_int B.str (by decide +kernel : bootBuiltins "str" = some (.type "str")) (a_cons (s_cb cd_len cr_len B.len PySem.boot_len (a_cons (sv 2) a_nil)) a_nil))) s_str) (nomark _)) (b_one (t_ret s_bl)) b_nil)
    (b_cons (t_for po (i_seq (sv 2)) (u_g 5 nd) (b_cons (t_asg (s_dget hr.units (s_dgetA 1 hr.units s_str (fun _ _ => rfl)) (sv 5) (fun _ _ => rfl)) (g_tup (gs_cons (u_g 6 nd) (gs_cons (u_g 7 nd) (gs_cons (u_g 8 nd) gs_nil)))))
    (b_cons (u_set 3 (SF.val (f_lst (a_cons (u_meth "Body" h_Body_rows (hr.mono (by decide)) tk (sv 0) (a_cons (sv 5) a_nil)) (a_cons (u_meth "Body" h_Body_cells (hr.mono (by decide)) tk (sv 0) (a_cons (sv 5) a_nil)) (a_cons (u_meth "Body" h_Body_moving (hr.mono (by decide)) tk (sv 0) (a_cons (sv 5) a_nil)) a_nil))))) nd)
    (b_one (t_if (c_not (c_val (u_call (h__law_same 4) (hr.mono (by decide)) tk (a_cons (sv 3) (a_cons (SF.val (f_lst (a_cons (sv 6) (a_cons (SF.val (f_ct co_list call_list_of B.list PyProof.Rows.boot_list (a_cons (sv 7) a_nil))) (a_cons (sv 8) a_nil))))) a_nil))))) (b_one (t_ret s_bl)) b_nil)))))
    (b_cons (t_forD po (s_dgetA 1 hr.units s_str (fun _ _ => rfl)) (u_g 5 nd) (b_cons (u_set 9 (u_call h__law_shelves (hr.mono (by decide)) tk (a_cons (sv 1) (a_cons (sv 5) a_nil))) nd)
    (b_cons (t_if (c_not (c_val (u_call (h__law_same 4) (hr.mono (by decide)) tk (a_cons (u_meth "Body" h_Body_folding (hr.mono (by decide)) tk (sv 0) (a_cons (sv 5) a_nil)) (a_cons (s_ix od_ix ix_lt (s_dget hr.units (s_dgetA 1 hr.units s_str (fun _ _ => rfl)) (sv 5) (fun _ _ => rfl)) s_int (fun _ _ => rfl)) a_nil))))) (b_one (t_ret s_bl)) b_nil)
    (b_one (t_if (c_not (c_val (u_call (h__law_same 4) (hr.mono (by decide)) tk (a_cons (SF.val (f_lc (own := [("_law_at", 10)]) nd (i_range1 B.range (a_cons (s_cb cd_len cr_len B.len PySem.boot_len (a_cons (sv 9) a_nil)) a_nil)) (blkOk_by (own := [("_law_at", 10)]) (N := N__law_stands) (sc := defScope s__law_stands) (by decide +kernel)) (fun _ _ _ _ _ => (u_g 10 nd)) (fun _ _ _ _ _ => ts_nil) (fun _ _ _ _ _ => (u_meth "Body" h_Body_shelf (hr.mono (by decide)) takesN (sv 0) (a_cons (sv 5) (a_cons (sv 10) a_nil)))))) (a_cons (sv 9) a_nil))))) (b_one (t_ret s_bl)) b_nil)))))
    (b_one (t_ret s_bl)))))))))⟩
abbrev N__law_choices : List Str := ["_law_one", "_law_other", "_law_low", "_law_homes_here", "_law_found", "_law_berth", "_law_cell", "_law_home"]
theorem sc__law_choices : FnScope N__law_choices ["_law_one", "_law_other", "_law_low"] (defScope s__law_choices) := ⟨rfl, rfl, rfl, by decide +kernel, rfl, by decide +kernel, by decide +kernel⟩
theorem ok__law_choices {f : Addr} {fd : FuncData} (F : FnPk K "_law_choices" "_law_choices" s__law_choices [] [] f fd) (B : Bl mg) (h__law_homes : Kn P w K mg base (GY K ca T) 2 "_law_homes" 1 m__law_homes [] []) (h__law_images : Kn P w K mg base (GY K ca T) 1 "_law_images" 1 m__law_images [] []) : FnOk P w K mg base (L2N.CX P w) 3 f fd ["_law_one", "_law_other", "_law_low"] (spOf (GY K ca T) 3 m__law_choices) :=
  fn_sim (GY K ca T) F sc__law_choices rfl fun cdv A outer s H E hr tk po => by
  have nd := sc__law_choices.nd
  exact ⟨_, (b_cons (u_set 3 (u_call h__law_homes (hr.mono (by decide)) tk (a_cons (sv 0) a_nil)) nd)
    (b_cons (u_own 4 (f_lst a_nil) nd)
    (b_cons (t_for po (i_enumS B.enumerate (a_cons (u_call h__law_images (hr.mono (by decide)) tk (a_cons (sv 1) a_nil)) a_nil)) (g_tup (gs_cons (u_g 5 nd) (gs_cons (u_g 6 nd) gs_nil))) (b_one (t_app 4 (SF.val (f_srtSet B.set B.sorted (SF.val (f_lc (own := [("_law_home", 7)]) nd (i_seq (s_dgetA 3 hr.units (sv 6) (fun _ _ => rfl))) (blkOk_by (own := [("_law_home", 7)]) (N := N__law_choices) (sc := defScope s__law_choices) (by decide +kernel)) (fun _ _ _ _ _ => (u_g 7 nd)) (fun _ _ _ _ _ => ts_nil) (fun _ _ _ _ _ => (s_op od_shr op_shr (s_op od_xor op_xor (sv 5) (sv 7)) (sv 2))))) (by decide +kernel : bootBuiltins "set" = some (.type "set")) PyProof.Rows.boot_sorted)))))
    (b_one (t_retO 4)))))⟩
abbrev N__law_swings : List Str := ["_law_one", "_law_other", "_law_low", "_law_row"]
theorem sc__law_swings : FnScope N__law_swings ["_law_one", "_law_other", "_law_low"] (defScope s__law_swings) := ⟨rfl, rfl, rfl, by decide +kernel, rfl, by decide +kernel, by decide +kernel⟩
theorem ok__law_swings {f : Addr} {fd : FuncData} (F : FnPk K "_law_swings" "_law_swings" s__law_swings [] [] f fd) (h__law_choices : Kn P w K mg base (GY K ca T) 3 "_law_choices" 3 m__law_choices [] []) : FnOk P w K mg base (L2N.CX P w) 4 f fd ["_law_one", "_law_other", "_law_low"] (spOf (GY K ca T) 3 m__law_swings) :=
  fn_sim (GY K ca T) F sc__law_swings rfl fun cdv A outer s H E hr tk po => by
  have nd := sc__law_swings.nd
  exact ⟨_, (b_one (t_retF (f_lc (own := [("_law_row", 3)]) nd (i_seq (u_call h__law_choices (hr.mono (by decide)) tk (a_cons (sv 0) (a_cons (sv 1) (a_cons (sv 2) a_nil))))) (blkOk_by (own := [("_law_row", 3)]) (N := N__law_swings) (sc := defScope s__law_swings) (by decide +kernel)) (fun _ _ _ _ _ => (u_g 3 nd)) (fun _ _ _ _ _ => ts_nil) (fun _ _ _ _ _ => (s_ix od_ix ix_lt (sv 3) s_int (fun _ _ => rfl))))))⟩
abbrev N_Move_is_ready : List Str := ["self", "berth"]
theorem sc_Move_is_ready : FnScope N_Move_is_ready ["self", "berth"] (defScope s_Move_is_ready) := ⟨rfl, rfl, rfl, by decide +kernel, rfl, by decide +kernel, by decide +kernel⟩
theorem ok_Move_is_ready {f : Addr} {fd : FuncData} (F : FnPk K "is_ready" "Move.is_ready" s_Move_is_ready [] [] f fd) (C_Move : Cls K ((GY K ca T).ca "Move")) (n_Move_swings : NoAttr K ((GY K ca T).ca "Move") "swings") (n_Move_left : NoAttr K ((GY K ca T).ca "Move") "left") : FnOk P w K mg base (L2N.CX P w) 1 f fd ["self", "berth"] (spOf (GY K ca T) 2 m_Move_is_ready) :=
  fn_sim (GY K ca T) F sc_Move_is_ready rfl fun cdv A outer s H E hr tk po => by
  have nd := sc_Move_is_ready.nd
  exact ⟨_, (b_one (t_ret (s_cmp od_in op_notIn_seq (s_ix od_ix ix_lt (s_fld "Move" C_Move n_Move_swings (sv 0)) (sv 1) (fun _ _ => rfl)) (s_fld "Move" C_Move n_Move_left (sv 0)) (by rfl))))⟩
abbrev N_Body_ready : List Str := ["self", "name", "table", "berth"]
theorem sc_Body_ready : FnScope N_Body_ready ["self", "name"] (defScope s_Body_ready) := ⟨rfl, rfl, rfl, by decide +kernel, rfl, by decide +kernel, by decide +kernel⟩
theorem ok_Body_ready {f : Addr} {fd : FuncData} (F : FnPk K "ready" "Body.ready" s_Body_ready [] [] f fd) (B : Bl mg) (h_Body_need : KnM P w K mg base (GY K ca T) 3 "Body" "need" 2 m_Body_need [] []) (C_Table : Cls K ((GY K ca T).ca "Table")) (n_Table_move : NoAttr K ((GY K ca T).ca "Table") "move") (x_NotMoving : KnX K mg (GY K ca T) "NotMoving") (n_Table_grip : NoAttr K ((GY K ca T).ca "Table") "grip") (h_Move_is_ready : KnM P w K mg base (GY K ca T) 1 "Move" "is_ready" 2 m_Move_is_ready [] []) : FnOk P w K mg base (L2N.CX P w) 4 f fd ["self", "name"] (spOf (GY K ca T) 2 m_Body_ready) :=
  fn_sim (GY K ca T) F sc_Body_ready rfl fun cdv A outer s H E hr tk po => by
  have nd := sc_Body_ready.nd
  exact ⟨_, (b_cons (u_set 2 (u_meth "Body" h_Body_need (hr.mono (by decide)) tk (sv 0) (a_cons (sv 1) a_nil)) nd)
    (b_cons (t_if (c_cmp od_is op_isN (s_fld "Table" C_Table n_Table_move (sv 2)) s_non (nomark _)) (b_one (u_raise x_NotMoving tk)) b_nil)
    (b_one (t_retF (f_lc (own := [("berth", 3)]) nd (i_range1 B.range (a_cons (s_cb cd_len cr_len B.len PySem.boot_len (a_cons (s_fld "Table" C_Table n_Table_grip (sv 2)) a_nil)) a_nil)) (blkOk_by (own := [("berth", 3)]) (N := N_Body_ready) (sc := defScope s_Body_ready) (by decide +kernel)) (fun _ _ _ _ _ => (u_g 3 nd)) (fun _ _ _ _ _ => (ts_one (c_val (u_meth "Move" h_Move_is_ready (hr.mono (by decide)) takesN (s_fld "Table" C_Table n_Table_move (sv 2)) (a_cons (sv 3) a_nil))))) (fun _ _ _ _ _ => (sv 3)))))))⟩
abbrev N_Table_berth_now : List Str := ["self", "berth"]
theorem sc_Table_berth_now : FnScope N_Table_berth_now ["self", "berth"] (defScope s_Table_berth_now) := ⟨rfl, rfl, rfl, by decide +kernel, rfl, by decide +kernel, by decide +kernel⟩
theorem ok_Table_berth_now {f : Addr} {fd : FuncData} (F : FnPk K "berth_now" "Table.berth_now" s_Table_berth_now [] [] f fd) (C_Table : Cls K ((GY K ca T).ca "Table")) (n_Table_move : NoAttr K ((GY K ca T).ca "Table") "move") (h_Move_is_ready : KnM P w K mg base (GY K ca T) 1 "Move" "is_ready" 2 m_Move_is_ready [] []) (C_Move : Cls K ((GY K ca T).ca "Move")) (n_Move_springs : NoAttr K ((GY K ca T).ca "Move") "springs") (n_Table_grip : NoAttr K ((GY K ca T).ca "Table") "grip") : FnOk P w K mg base (L2N.CX P w) 2 f fd ["self", "berth"] (spOf (GY K ca T) 2 m_Table_berth_now) :=
  fn_sim (GY K ca T) F sc_Table_berth_now rfl fun cdv A outer s H E hr tk po => by
  have nd := sc_Table_berth_now.nd
  exact ⟨_, (b_cons (t_if (SW.sc (w_and (c_cmp od_isnot op_notN (s_fld "Table" C_Table n_Table_move (sv 0)) s_non (nomark _)) (w_and1 (c_val (u_meth "Move" h_Move_is_ready (hr.mono (by decide)) tk (s_fld "Table" C_Table n_Table_move (sv 0)) (a_cons (sv 1) a_nil)))))) (b_one (t_ret (s_ix od_ix ix_lt (s_fld "Table" C_Table n_Table_grip (sv 0)) (s_ix od_ix ix_lt (s_fld "Move" C_Move n_Move_springs (s_fld "Table" C_Table n_Table_move (sv 0))) (sv 1) (fun _ _ => rfl)) (fun _ _ => rfl)))) b_nil)
    (b_one (t_ret (s_ix od_ix ix_lt (s_fld "Table" C_Table n_Table_grip (sv 0)) (sv 1) (fun _ _ => rfl)))))⟩
abbrev N_Body_held : List Str := ["self", "name", "berth", "table"]
theorem sc_Body_held : FnScope N_Body_held ["self", "name", "berth"] (defScope s_Body_held) := ⟨rfl, rfl, rfl, by decide +kernel, rfl, by decide +kernel, by decide +kernel⟩
theorem ok_Body_held {f : Addr} {fd : FuncData} (F : FnPk K "held" "Body.held" s_Body_held [] [] f fd) (B : Bl mg) (h_Body_need : KnM P w K mg base (GY K ca T) 3 "Body" "need" 2 m_Body_need [] []) (C_Table : Cls K ((GY K ca T).ca "Table")) (n_Table_grip : NoAttr K ((GY K ca T).ca "Table") "grip") (x_NoBerth : KnX K mg (GY K ca T) "NoBerth") (h_Table_berth_now : KnM P w K mg base (GY K ca T) 2 "Table" "berth_now" 2 m_Table_berth_now [] []) : FnOk P w K mg base (L2N.CX P w) 4 f fd ["self", "name", "berth"] (spOf (GY K ca T) 3 m_Body_held) :=
  fn_sim (GY K ca T) F sc_Body_held rfl fun cdv A outer s H E hr tk po => by
  have nd := sc_Body_held.nd
  exact ⟨_, (b_cons (u_set 3 (u_meth "Body" h_Body_need (hr.mono (by decide)) tk (sv 0) (a_cons (sv 1) a_nil)) nd)
    (b_cons (t_if (SW.sc (w_or (c_cmp od_lt op_lt (sv 2) s_int (nomark _)) (w_or1 (c_cmp od_ge op_ge (sv 2) (s_cb cd_len cr_len B.len PySem.boot_len (a_cons (s_fld "Table" C_Table n_Table_grip (sv 3)) a_nil)) (nomark _))))) (b_one (u_raise x_NoBerth tk)) b_nil)
    (b_one (t_ret (u_meth "Table" h_Table_berth_now (hr.mono (by decide)) tk (sv 3) (a_cons (sv 2) a_nil))))))⟩
abbrev N__law_held_right : List Str := ["_law_body", "_law_m", "_law_name", "_law_lines_here", "_law_cells_here", "_law_move", "_law_due", "_law_swings_here", "_law_there", "_law_at", "_law_cell", "_law_swing"]
theorem sc__law_held_right : FnScope N__law_held_right ["_law_body", "_law_m"] (defScope s__law_held_right) := ⟨rfl, rfl, rfl, by decide +kernel, rfl, by decide +kernel, by decide +kernel⟩
theorem ok__law_held_right {f : Addr} {fd : FuncData} (F : FnPk K "_law_held_right" "_law_held_right" s__law_held_right [] [] f fd) (B : Bl mg) (h__law_images : Kn P w K mg base (GY K ca T) 1 "_law_images" 1 m__law_images [] []) (h__law_swings : Kn P w K mg base (GY K ca T) 4 "_law_swings" 3 m__law_swings [] []) (h_Body_ready : KnM P w K mg base (GY K ca T) 4 "Body" "ready" 2 m_Body_ready [] []) (h__law_same : ∀ n, Kn P w K mg base (GY K ca T) (n + 1) "_law_same" 2 (m__law_same n) [] []) (h_Body_held : KnM P w K mg base (GY K ca T) 4 "Body" "held" 3 m_Body_held [] []) : FnOk P w K mg base (L2N.CX P w) 6 f fd ["_law_body", "_law_m"] (spOf (GY K ca T) 2 m__law_held_right) :=
  fn_sim (GY K ca T) F sc__law_held_right rfl fun cdv A outer s H E hr tk po => by
  have nd := sc__law_held_right.nd
  exact ⟨_, (b_cons (t_for po (i_seq (SF.val (f_cb co_sortedD (call_sortedD rfl) B.sorted PyProof.Rows.boot_sorted (a_cons (s_dgetA 1 hr.units s_str (fun _ _ => rfl)) a_nil)))) (u_g 2 nd) (b_cons (t_asg (s_dget hr.units (s_dgetA 1 hr.units s_str (fun _ _ => rfl)) (sv 2) (fun _ _ => rfl)) (g_tup (gs_cons (u_g 3 nd) (gs_cons (u_g 4 nd) (gs_cons (u_g 5 nd) gs_nil)))))
    (b_cons (t_ownLc (i := 6) (own := [("_law_cell", 10)]) nd rfl rfl (sw_true rfl rfl rfl (by decide +kernel)) (i_seq (u_call h__law_images (hr.mono (by decide)) tk (a_cons (sv 3) a_nil))) (blkOk_by (own := [("_law_cell", 10)]) (N := N__law_held_right) (sc := defScope s__law_held_right) (by decide +kernel)) (fun _ _ _ _ _ => (u_g 10 nd)) (fun _ _ _ _ _ => ts_nil) (fun _ _ _ _ _ => (s_ix od_ix ix_lt (sv 4) (sv 10) (fun _ _ => rfl))))
    (b_cons (t_if (c_cmp od_isnot op_notN (sv 5) s_non (nomark _)) (b_cons (u_set 7 (u_call h__law_swings (hr.mono (by decide)) tk (a_cons (sv 3) (a_cons (s_ix od_ix ix_lt (sv 5) s_int (fun _ _ => rfl)) (a_cons (s_ix od_ix ix_lt (s_dgetA 1 hr.units s_str (fun _ _ => rfl)) s_int (fun _ _ => rfl)) a_nil)))) nd)
    (b_cons (t_setLc (i := 8) (own := [("_law_at", 9), ("_law_swing", 11)]) nd rfl rfl (sw_true rfl rfl rfl (by decide +kernel)) (i_enumS B.enumerate (a_cons (sv 7) a_nil)) (blkOk_by (own := [("_law_at", 9), ("_law_swing", 11)]) (N := N__law_held_right) (sc := defScope s__law_held_right) (by decide +kernel)) (fun _ _ _ _ _ => (g_tup (gs_cons (u_g 9 nd) (gs_cons (u_g 11 nd) gs_nil)))) (fun _ _ _ _ _ => (ts_one (c_cmp od_in op_notIn_seq (sv 11) (s_ix od_ix ix_lt (sv 5) s_int (fun _ _ => rfl)) (by rfl)))) (fun _ _ _ _ _ => (sv 9)))
    (b_cons (t_if (c_not (c_val (u_call (h__law_same 4) (hr.mono (by decide)) tk (a_cons (u_meth "Body" h_Body_ready (hr.mono (by decide)) tk (sv 0) (a_cons (sv 2) a_nil)) (a_cons (sv 8) a_nil))))) (b_one (t_ret s_bl)) b_nil)
    (b_one (t_for po (i_enumS B.enumerate (a_cons (u_call h__law_images (hr.mono (by decide)) tk (a_cons (s_ix od_ix ix_lt (sv 5) s_int (fun _ _ => rfl)) a_nil)) a_nil)) (g_tup (gs_cons (u_g 9 nd) (gs_cons (u_g 10 nd) gs_nil))) (b_one (t_put 6 (sv 9) (s_if (c_cmp od_in op_in_seq (sv 9) (sv 8) (by rfl)) (s_ix od_ix ix_lt (sv 4) (sv 10) (fun _ _ => rfl)) (u_ixA 6 (sv 9) (fun _ _ => rfl)))))))))) b_nil)
    (b_frz 6 (b_one (t_if (c_not (c_val (u_call (h__law_same 4) (hr.mono (by decide)) tk (a_cons (SF.val (f_lc (own := [("_law_at", 9)]) nd (i_range1 B.range (a_cons (u_lenA 6 B.len) a_nil)) (blkOk_by (own := [("_law_at", 9)]) (N := N__law_held_right) (sc := defScope s__law_held_right) (by decide +kernel)) (fun _ _ _ _ _ => (u_g 9 nd)) (fun _ _ _ _ _ => ts_nil) (fun _ _ _ _ _ => (u_meth "Body" h_Body_held (hr.mono (by decide)) takesN (sv 0) (a_cons (sv 2) (a_cons (sv 9) a_nil)))))) (a_cons (sv 6) a_nil))))) (b_one (t_ret s_bl)) b_nil)))))))
    (b_one (t_ret s_bl)))⟩
abbrev N_law : List Str := ["_law_script", "_law_box_here", "_law_m", "_law_body", "_law_turn", "_law_word", "_law_name", "_law_lines_here", "_law_cells_here", "_law_handed", "_law_told", "_law_move", "_law_many_here", "_law_homes_here", "_law_again", "_law_found", "_law_cell"]
theorem sc_law : FnScope N_law ["_law_script"] (defScope s_law) := ⟨rfl, rfl, rfl, by decide +kernel, rfl, by decide +kernel, by decide +kernel⟩
theorem ok_law {f : Addr} {fd : FuncData} (F : FnPk K "law" "law" s_law [] [] f fd) (B : Bl mg) (h__law_box : Kn P w K mg base (GY K ca T) 1 "_law_box" 1 m__law_box [] []) (h__law_wide : Kn P w K mg base (GY K ca T) 3 "_law_wide" 1 m__law_wide [] []) (h__law_model : Kn P w K mg base (GY K ca T) 1 "_law_model" 1 m__law_model [] []) (k_Body_2_banks : KnCK P w K mg base (GY K ca T) 1 "Body" 2 ["banks"] m_BodyU_initU [] []) (h__law_take : Kn P w K mg base (GY K ca T) 1 "_law_take" 2 m__law_take [] []) (h__law_deep : Kn P w K mg base (GY K ca T) 1 "_law_deep" 1 m__law_deep [] []) (h__law_lay : Kn P w K mg base (GY K ca T) 4 "_law_lay" 2 m__law_lay [] []) (h_Body_lay : KnM P w K mg base (GY K ca T) 6 "Body" "lay" 4 m_Body_lay [] []) (h_Body_lay_t : KnM P w K mg base (GY K ca T) 6 "Body" "lay" 4 m_Body_lay_t [] []) (h__law_many : Kn P w K mg base (GY K ca T) 1 "_law_many" 1 m__law_many [] []) (h__law_homes : Kn P w K mg base (GY K ca T) 2 "_law_homes" 1 m__law_homes [] []) (h_Body_moving : KnM P w K mg base (GY K ca T) 4 "Body" "moving" 2 m_Body_moving [] []) (h_Body_rows : KnM P w K mg base (GY K ca T) 4 "Body" "rows" 2 m_Body_rows [] []) (h_Body_digits : KnM P w K mg base (GY K ca T) 4 "Body" "digits" 2 m_Body_digits [] []) (h__law_same : ∀ n, Kn P w K mg base (GY K ca T) (n + 1) "_law_same" 2 (m__law_same n) [] []) (h_Body_cells : KnM P w K mg base (GY K ca T) 8 "Body" "cells" 2 m_Body_cells [] []) (h_Body_berths : KnM P w K mg base (GY K ca T) 4 "Body" "berths" 3 m_Body_berths [] []) (h__law_stands : Kn P w K mg base (GY K ca T) 9 "_law_stands" 2 m__law_stands [] []) (h__law_held_right : Kn P w K mg base (GY K ca T) 6 "_law_held_right" 2 m__law_held_right [] []) : FnOk P w K mg base (L2N.CX P w) 10 f fd ["_law_script"] (spOf (GY K ca T) 1 m_law) :=
  fn_sim (GY K ca T) F sc_law rfl fun cdv A outer s H E hr tk po => by
  have nd := sc_law.nd
  exact ⟨_, (b_cons (u_cell 1 (v_call h__law_box (hr.mono (by decide)) tk (a_cons (sv 0) a_nil)) nd)
    (b_cons (u_cell 2 (v_call h__law_model (hr.mono (by decide)) tk (a_cons (u_call h__law_wide (hr.mono (by decide)) tk (a_cons (sv 1) a_nil)) a_nil)) nd)
    (b_cons (u_set 3 (u_newCK k_Body_2_banks (hr.mono (by decide)) tk (a_cons (s_ix od_ix ix_lt (s_dgetA 2 hr.units s_str (fun _ _ => rfl)) s_int (fun _ _ => rfl)) (a_cons (s_ix od_ix ix_lt (s_dgetA 2 hr.units s_str (fun _ _ => rfl)) s_int (fun _ _ => rfl)) a_nil)) (k_cons (s_ix od_ix ix_lt (s_dgetA 2 hr.units s_str (fun _ _ => rfl)) s_int (fun _ _ => rfl)) k_nil)) nd)
    (b_cons (t_for po (i_range1 B.range (a_cons (s_op od_add op_addD s_int (u_call h__law_take (hr.mono (by decide)) tk (a_cons (sv 1) (a_cons s_int a_nil)))) a_nil)) (u_g 4 nd) (b_cons (t_asg (u_call h__law_lay (hr.mono (by decide)) tk (a_cons (sv 1) (a_cons (u_call h__law_deep (hr.mono (by decide)) tk (a_cons (sv 2) a_nil)) a_nil))) (g_tup (gs_cons (u_g 5 nd) (gs_cons (u_g 6 nd) (gs_cons (u_g 7 nd) (gs_cons (u_g 8 nd) gs_nil))))))
    (b_one (t_if (c_dnin hr.units (sv 6) (s_dgetA 2 hr.units s_str (fun _ _ => rfl))) (b_cons (u_set 9 (SF.val (f_lst (a_cons (s_cellOf (f_ct co_list call_list_of B.list PyProof.Rows.boot_list (a_cons (sv 7) a_nil))) (a_cons (s_cellOf (f_ct co_list call_list_of B.list PyProof.Rows.boot_list (a_cons (sv 8) a_nil))) a_nil)))) nd)
    (b_cons (u_set 10 (s_if (c_cmp od_eq (op_eqD hr.units) (u_call h__law_take (hr.mono (by decide)) tk (a_cons (sv 1) (a_cons s_int a_nil))) s_int (nomark _)) (u_meth "Body" h_Body_lay_t (hr.mono (by decide)) tk (sv 3) (a_cons (sv 6) (a_cons (s_ix od_ix ix_lt (sv 9) s_int (fun _ _ => rfl)) (a_cons (s_ix od_ix ix_lt (sv 9) s_int (fun _ _ => rfl)) a_nil)))) (u_meth "Body" h_Body_lay (hr.mono (by decide)) tk (sv 3) (a_cons (sv 6) (a_cons (sv 7) (a_cons (sv 8) a_nil))))) nd)
    (b_cons (t_clrE (s_ix od_ix ix_lt (sv 9) s_int (fun _ _ => rfl)))
    (b_cons (t_clrE (s_ix od_ix ix_lt (sv 9) s_int (fun _ _ => rfl)))
    (b_cons (t_dput hr.units (s_dgetA 2 hr.units s_str (fun _ _ => rfl)) (sv 6) (s_tup (a_cons (sv 7) (a_cons (SF.val (f_ct co_list call_list_of B.list PyProof.Rows.boot_list (a_cons (sv 8) a_nil))) (a_cons s_non a_nil)))))
    (b_one (t_if (c_cmp od_isnot op_notN (sv 10) s_non (nomark _)) (b_one (t_ret s_bl)) b_nil))))))) b_nil))))
    (b_cons (t_forD po (s_dgetA 2 hr.units s_str (fun _ _ => rfl)) (u_g 6 nd) (b_cons (t_asg (s_dget hr.units (s_dgetA 2 hr.units s_str (fun _ _ => rfl)) (sv 6) (fun _ _ => rfl)) (g_tup (gs_cons (u_g 7 nd) (gs_cons (u_g 8 nd) (gs_cons (u_g 11 nd) gs_nil)))))
    (b_cons (u_set 12 (u_call h__law_many (hr.mono (by decide)) tk (a_cons (s_cb cd_len cr_len B.len PySem.boot_len (a_cons (sv 8) a_nil)) a_nil)) nd)
    (b_cons (u_set 13 (u_call h__law_homes (hr.mono (by decide)) tk (a_cons (sv 7) a_nil)) nd)
    (b_one (t_for po (i_range1 B.range (a_cons s_int a_nil)) (u_g 14 nd) (b_cons (t_if (c_not (c_val (u_call (h__law_same 4) (hr.mono (by decide)) tk (a_cons (SF.val (f_lst (a_cons (u_meth "Body" h_Body_digits (hr.mono (by decide)) tk (sv 3) (a_cons (sv 6) a_nil)) (a_cons (u_meth "Body" h_Body_rows (hr.mono (by decide)) tk (sv 3) (a_cons (sv 6) a_nil)) (a_cons (u_meth "Body" h_Body_moving (hr.mono (by decide)) tk (sv 3) (a_cons (sv 6) a_nil)) a_nil))))) (a_cons (SF.val (f_lst (a_cons (sv 12) (a_cons (sv 7) (a_cons s_non a_nil))))) a_nil))))) (b_one (t_ret s_bl)) b_nil)
    (b_cons (u_own 15 (v_meth "Body" h_Body_cells (hr.mono (by decide)) tk (sv 3) (a_cons (sv 6) a_nil)) nd)
    (b_cons (t_if (c_lend [15] (c_not (c_val (u_call (h__law_same 4) (hr.mono (by decide)) tk (a_cons (sv 15) (a_cons (sv 8) a_nil)))))) (b_one (t_ret s_bl)) b_nil)
    (b_cons (t_clr 15)
    (b_one (t_for po (i_range1 B.range (a_cons (s_op od_shl op_shl s_int (sv 12)) a_nil)) (u_g 16 nd) (b_cons (u_own 15 (v_meth "Body" h_Body_berths (hr.mono (by decide)) tk (sv 3) (a_cons (sv 6) (a_cons (sv 16) a_nil))) nd)
    (b_cons (t_if (c_lend [15] (c_not (c_val (u_call (h__law_same 4) (hr.mono (by decide)) tk (a_cons (sv 15) (a_cons (s_dgetA 13 hr.units (sv 16) (fun _ _ => rfl)) a_nil)))))) (b_one (t_ret s_bl)) b_nil)
    (b_one (t_app 15 s_int))))))))))))))))
    (b_one (t_ret (s_and (u_call h__law_stands (hr.mono (by decide)) tk (a_cons (sv 3) (a_cons (sv 2) a_nil))) (s_one (u_call h__law_held_right (hr.mono (by decide)) tk (a_cons (sv 3) (a_cons (sv 2) a_nil))))))))))))⟩
end
end K29
namespace K29
open PySem L2 Mm Fb
def tf : List (He.Defn × Str) := []
theorem facts {P : Program} {w : World} {K : PySem.W.Frag} {h : Heap} {mg : Str → Option Value} {f : Addr} (X : K.In h) (G : h.Ns mainGlobals mg) (hfa : mg ("law" : Str) = some (.ref f)) (c : He.SaysX facl fns [] (tf.map (·.1)) ex w h K) :
    ∃ fd : FuncData, (∀ (s : Shared) (v : Value), BindsTo s fd ⟨[v], []⟩ [("_law_script", v)]) ∧ ∀ base : Heap, (∀ q ∈ tf, LamX.TabB base mg (He.cT K q.1).1 (He.cT K q.1).2) → FnOk P w K mg base (L2N.CX P w) 10 f fd ["_law_script"] (spOf (GY K (He.ga K) (Tof K tf)) 1 m_law) := by
  obtain ⟨fd_NoTableU_initU, F'_NoTableU_initU⟩ := c.t.d.def_ 68 (d := d_NoTableU_initU) rfl
  have F_NoTableU_initU : FnPk K "__init__" "NoTable.__init__" s_NoTableU_initU [] [] (He.ma K (He.ga K "NoTable") "__init__") fd_NoTableU_initU := F'_NoTableU_initU
  obtain ⟨fd_NoStashU_initU, F'_NoStashU_initU⟩ := c.t.d.def_ 69 (d := d_NoStashU_initU) rfl
  have F_NoStashU_initU : FnPk K "__init__" "NoStash.__init__" s_NoStashU_initU [] [] (He.ma K (He.ga K "NoStash") "__init__") fd_NoStashU_initU := F'_NoStashU_initU
  obtain ⟨fd__law_box, F'__law_box⟩ := c.t.d.def_ 0 (d := d__law_box) rfl
  have F__law_box : FnPk K "_law_box" "_law_box" s__law_box [] [] (He.ga K "_law_box") fd__law_box := F'__law_box
  obtain ⟨fd__law_model, F'__law_model⟩ := c.t.d.def_ 1 (d := d__law_model) rfl
  have F__law_model : FnPk K "_law_model" "_law_model" s__law_model [] [] (He.ga K "_law_model") fd__law_model := F'__law_model
  obtain ⟨fd__law_take, F'__law_take⟩ := c.t.d.def_ 2 (d := d__law_take) rfl
  have F__law_take : FnPk K "_law_take" "_law_take" s__law_take [] [] (He.ga K "_law_take") fd__law_take := F'__law_take
  obtain ⟨fd__law_of, F'__law_of⟩ := c.t.d.def_ 3 (d := d__law_of) rfl
  have F__law_of : FnPk K "_law_of" "_law_of" s__law_of [] [] (He.ga K "_law_of") fd__law_of := F'__law_of
  obtain ⟨fd__law_wide, F'__law_wide⟩ := c.t.d.def_ 4 (d := d__law_wide) rfl
  have F__law_wide : FnPk K "_law_wide" "_law_wide" s__law_wide [] [] (He.ga K "_law_wide") fd__law_wide := F'__law_wide
  obtain ⟨fd_BodyU_initU, F'_BodyU_initU⟩ := c.t.d.def_ 5 (d := d_BodyU_initU) rfl
  have F_BodyU_initU : FnPk K "__init__" "Body.__init__" s_BodyU_initU [] [("banks", .int 2)] (He.ma K (He.ga K "Body") "__init__") fd_BodyU_initU := F'_BodyU_initU
  obtain ⟨fd__law_cells, F'__law_cells⟩ := c.t.d.def_ 6 (d := d__law_cells) rfl
  have F__law_cells : FnPk K "_law_cells" "_law_cells" s__law_cells [] [] (He.ga K "_law_cells") fd__law_cells := F'__law_cells
  obtain ⟨fd__law_shuffled, F'__law_shuffled⟩ := c.t.d.def_ 7 (d := d__law_shuffled) rfl
  have F__law_shuffled : FnPk K "_law_shuffled" "_law_shuffled" s__law_shuffled [] [] (He.ga K "_law_shuffled") fd__law_shuffled := F'__law_shuffled
  obtain ⟨fd__law_numbers, F'__law_numbers⟩ := c.t.d.def_ 8 (d := d__law_numbers) rfl
  have F__law_numbers : FnPk K "_law_numbers" "_law_numbers" s__law_numbers [] [] (He.ga K "_law_numbers") fd__law_numbers := F'__law_numbers
  obtain ⟨fd__law_lines, F'__law_lines⟩ := c.t.d.def_ 9 (d := d__law_lines) rfl
  have F__law_lines : FnPk K "_law_lines" "_law_lines" s__law_lines [] [] (He.ga K "_law_lines") fd__law_lines := F'__law_lines
  obtain ⟨fd__law_new_name, F'__law_new_name⟩ := c.t.d.def_ 10 (d := d__law_new_name) rfl
  have F__law_new_name : FnPk K "_law_new_name" "_law_new_name" s__law_new_name [] [] (He.ga K "_law_new_name") fd__law_new_name := F'__law_new_name
  obtain ⟨fd__law_lay, F'__law_lay⟩ := c.t.d.def_ 11 (d := d__law_lay) rfl
  have F__law_lay : FnPk K "_law_lay" "_law_lay" s__law_lay [] [] (He.ga K "_law_lay") fd__law_lay := F'__law_lay
  obtain ⟨fd__law_deep, F'__law_deep⟩ := c.t.d.def_ 12 (d := d__law_deep) rfl
  have F__law_deep : FnPk K "_law_deep" "_law_deep" s__law_deep [] [] (He.ga K "_law_deep") fd__law_deep := F'__law_deep
  obtain ⟨fd_is_name, F'_is_name⟩ := c.t.d.def_ 13 (d := d_is_name) rfl
  have F_is_name : FnPk K "is_name" "is_name" s_is_name [] [] (He.ga K "is_name") fd_is_name := F'_is_name
  obtain ⟨fd_Body_need_new, F'_Body_need_new⟩ := c.t.d.def_ 14 (d := d_Body_need_new) rfl
  have F_Body_need_new : FnPk K "need_new" "Body.need_new" s_Body_need_new [] [] (He.ma K (He.ga K "Body") "need_new") fd_Body_need_new := F'_Body_need_new
  obtain ⟨fd_digits_of, F'_digits_of⟩ := c.t.d.def_ 15 (d := d_digits_of) rfl
  have F_digits_of : FnPk K "digits_of" "digits_of" s_digits_of [] [] (He.ga K "digits_of") fd_digits_of := F'_digits_of
  obtain ⟨fd_TableU_initU, F'_TableU_initU⟩ := c.t.d.def_ 16 (d := d_TableU_initU) rfl
  have F_TableU_initU : FnPk K "__init__" "Table.__init__" s_TableU_initU [] [("move", .non)] (He.ma K (He.ga K "Table") "__init__") fd_TableU_initU := F'_TableU_initU
  obtain ⟨fd_Fold_many, F'_Fold_many⟩ := c.t.d.def_ 17 (d := d_Fold_many) rfl
  have F_Fold_many : FnPk K "many" "Fold.many" s_Fold_many [] [] (He.ma K (He.ga K "Fold") "many") fd_Fold_many := F'_Fold_many
  obtain ⟨fd_blended, F'_blended⟩ := c.t.d.def_ 18 (d := d_blended) rfl
  have F_blended : FnPk K "blended" "blended" s_blended [] [] (He.ga K "blended") fd_blended := F'_blended
  obtain ⟨fd_picked, F'_picked⟩ := c.t.d.def_ 19 (d := d_picked) rfl
  have F_picked : FnPk K "picked" "picked" s_picked [] [] (He.ga K "picked") fd_picked := F'_picked
  obtain ⟨fd_Fold_to, F'_Fold_to⟩ := c.t.d.def_ 20 (d := d_Fold_to) rfl
  have F_Fold_to : FnPk K "to" "Fold.to" s_Fold_to [] [] (He.ma K (He.ga K "Fold") "to") fd_Fold_to := F'_Fold_to
  obtain ⟨fd_laid, F'_laid⟩ := c.t.d.def_ 21 (d := d_laid) rfl
  have F_laid : FnPk K "laid" "laid" s_laid [] [] (He.ga K "laid") fd_laid := F'_laid
  obtain ⟨fd_FoldU_initU, F'_FoldU_initU⟩ := c.t.d.def_ 22 (d := d_FoldU_initU) rfl
  have F_FoldU_initU : FnPk K "__init__" "Fold.__init__" s_FoldU_initU [] [] (He.ma K (He.ga K "Fold") "__init__") fd_FoldU_initU := F'_FoldU_initU
  obtain ⟨fd_top_of, F'_top_of⟩ := c.t.d.def_ 23 (d := d_top_of) rfl
  have F_top_of : FnPk K "top_of" "top_of" s_top_of [] [] (He.ga K "top_of") fd_top_of := F'_top_of
  obtain ⟨fd_reduced, F'_reduced⟩ := c.t.d.def_ 24 (d := d_reduced) rfl
  have F_reduced : FnPk K "reduced" "reduced" s_reduced [] [] (He.ga K "reduced") fd_reduced := F'_reduced
  obtain ⟨fd_basis_of, F'_basis_of⟩ := c.t.d.def_ 25 (d := d_basis_of) rfl
  have F_basis_of : FnPk K "basis_of" "basis_of" s_basis_of [] [] (He.ga K "basis_of") fd_basis_of := F'_basis_of
  obtain ⟨fd_Fold_onto, F'_Fold_onto⟩ := c.t.d.def_ 26 (d := d_Fold_onto) rfl
  have F_Fold_onto : FnPk K "onto" "Fold.onto" s_Fold_onto [] [] (He.ma K (He.ga K "Fold") "onto") fd_Fold_onto := F'_Fold_onto
  obtain ⟨fd_Body_need_spread, F'_Body_need_spread⟩ := c.t.d.def_ 27 (d := d_Body_need_spread) rfl
  have F_Body_need_spread : FnPk K "need_spread" "Body.need_spread" s_Body_need_spread [] [] (He.ma K (He.ga K "Body") "need_spread") fd_Body_need_spread := F'_Body_need_spread
  obtain ⟨fd_Body_lay, F'_Body_lay⟩ := c.t.d.def_ 28 (d := d_Body_lay) rfl
  have F_Body_lay : FnPk K "lay" "Body.lay" s_Body_lay [] [] (He.ma K (He.ga K "Body") "lay") fd_Body_lay := F'_Body_lay
  obtain ⟨fd__law_many, F'__law_many⟩ := c.t.d.def_ 29 (d := d__law_many) rfl
  have F__law_many : FnPk K "_law_many" "_law_many" s__law_many [] [] (He.ga K "_law_many") fd__law_many := F'__law_many
  obtain ⟨fd__law_images, F'__law_images⟩ := c.t.d.def_ 30 (d := d__law_images) rfl
  have F__law_images : FnPk K "_law_images" "_law_images" s__law_images [] [] (He.ga K "_law_images") fd__law_images := F'__law_images
  obtain ⟨fd__law_homes, F'__law_homes⟩ := c.t.d.def_ 31 (d := d__law_homes) rfl
  have F__law_homes : FnPk K "_law_homes" "_law_homes" s__law_homes [] [] (He.ga K "_law_homes") fd__law_homes := F'__law_homes
  obtain ⟨fd__law_same, F'__law_same⟩ := c.t.d.def_ 32 (d := d__law_same) rfl
  have F__law_same : FnPk K "_law_same" "_law_same" s__law_same [] [] (He.ga K "_law_same") fd__law_same := F'__law_same
  obtain ⟨fd_Body_need, F'_Body_need⟩ := c.t.d.def_ 33 (d := d_Body_need) rfl
  have F_Body_need : FnPk K "need" "Body.need" s_Body_need [] [] (He.ma K (He.ga K "Body") "need") fd_Body_need := F'_Body_need
  obtain ⟨fd_Fold_rows, F'_Fold_rows⟩ := c.t.d.def_ 34 (d := d_Fold_rows) rfl
  have F_Fold_rows : FnPk K "rows" "Fold.rows" s_Fold_rows [] [] (He.ma K (He.ga K "Fold") "rows") fd_Fold_rows := F'_Fold_rows
  obtain ⟨fd_Move_told, F'_Move_told⟩ := c.t.d.def_ 35 (d := d_Move_told) rfl
  have F_Move_told : FnPk K "told" "Move.told" s_Move_told [] [] (He.ma K (He.ga K "Move") "told") fd_Move_told := F'_Move_told
  obtain ⟨fd_Body_moving, F'_Body_moving⟩ := c.t.d.def_ 36 (d := d_Body_moving) rfl
  have F_Body_moving : FnPk K "moving" "Body.moving" s_Body_moving [] [] (He.ma K (He.ga K "Body") "moving") fd_Body_moving := F'_Body_moving
  obtain ⟨fd_Body_rows, F'_Body_rows⟩ := c.t.d.def_ 37 (d := d_Body_rows) rfl
  have F_Body_rows : FnPk K "rows" "Body.rows" s_Body_rows [] [] (He.ma K (He.ga K "Body") "rows") fd_Body_rows := F'_Body_rows
  obtain ⟨fd_Fold_size, F'_Fold_size⟩ := c.t.d.def_ 38 (d := d_Fold_size) rfl
  have F_Fold_size : FnPk K "size" "Fold.size" s_Fold_size [] [] (He.ma K (He.ga K "Fold") "size") fd_Fold_size := F'_Fold_size
  obtain ⟨fd_Body_digits, F'_Body_digits⟩ := c.t.d.def_ 39 (d := d_Body_digits) rfl
  have F_Body_digits : FnPk K "digits" "Body.digits" s_Body_digits [] [] (He.ma K (He.ga K "Body") "digits") fd_Body_digits := F'_Body_digits
  obtain ⟨fd_traced, F'_traced⟩ := c.t.d.def_ 40 (d := d_traced) rfl
  have F_traced : FnPk K "traced" "traced" s_traced [] [] (He.ga K "traced") fd_traced := F'_traced
  obtain ⟨fd_trail_to, F'_trail_to⟩ := c.t.d.def_ 41 (d := d_trail_to) rfl
  have F_trail_to : FnPk K "trail_to" "trail_to" s_trail_to [] [] (He.ga K "trail_to") fd_trail_to := F'_trail_to
  obtain ⟨fd_Fold_kernel, F'_Fold_kernel⟩ := c.t.d.def_ 42 (d := d_Fold_kernel) rfl
  have F_Fold_kernel : FnPk K "kernel" "Fold.kernel" s_Fold_kernel [] [] (He.ma K (He.ga K "Fold") "kernel") fd_Fold_kernel := F'_Fold_kernel
  obtain ⟨fd_Fold_least, F'_Fold_least⟩ := c.t.d.def_ 43 (d := d_Fold_least) rfl
  have F_Fold_least : FnPk K "least" "Fold.least" s_Fold_least [] [] (He.ma K (He.ga K "Fold") "least") fd_Fold_least := F'_Fold_least
  obtain ⟨fd_Fold_back, F'_Fold_back⟩ := c.t.d.def_ 44 (d := d_Fold_back) rfl
  have F_Fold_back : FnPk K "back" "Fold.back" s_Fold_back [] [] (He.ma K (He.ga K "Fold") "back") fd_Fold_back := F'_Fold_back
  obtain ⟨fd_Table_plain, F'_Table_plain⟩ := c.t.d.def_ 45 (d := d_Table_plain) rfl
  have F_Table_plain : FnPk K "plain" "Table.plain" s_Table_plain [] [] (He.ma K (He.ga K "Table") "plain") fd_Table_plain := F'_Table_plain
  obtain ⟨fd_Body_cells, F'_Body_cells⟩ := c.t.d.def_ 46 (d := d_Body_cells) rfl
  have F_Body_cells : FnPk K "cells" "Body.cells" s_Body_cells [] [] (He.ma K (He.ga K "Body") "cells") fd_Body_cells := F'_Body_cells
  obtain ⟨fd_Body_berths, F'_Body_berths⟩ := c.t.d.def_ 47 (d := d_Body_berths) rfl
  have F_Body_berths : FnPk K "berths" "Body.berths" s_Body_berths [] [] (He.ma K (He.ga K "Body") "berths") fd_Body_berths := F'_Body_berths
  obtain ⟨fd_BodyU_lenU, F'_BodyU_lenU⟩ := c.t.d.def_ 48 (d := d_BodyU_lenU) rfl
  have F_BodyU_lenU : FnPk K "__len__" "Body.__len__" s_BodyU_lenU [] [] (He.ma K (He.ga K "Body") "__len__") fd_BodyU_lenU := F'_BodyU_lenU
  obtain ⟨fd_Body_paid, F'_Body_paid⟩ := c.t.d.def_ 49 (d := d_Body_paid) rfl
  have F_Body_paid : FnPk K "paid" "Body.paid" s_Body_paid [] [] (He.ma K (He.ga K "Body") "paid") fd_Body_paid := F'_Body_paid
  obtain ⟨fd_Body_stored, F'_Body_stored⟩ := c.t.d.def_ 50 (d := d_Body_stored) rfl
  have F_Body_stored : FnPk K "stored" "Body.stored" s_Body_stored [] [] (He.ma K (He.ga K "Body") "stored") fd_Body_stored := F'_Body_stored
  obtain ⟨fd_Body_names, F'_Body_names⟩ := c.t.d.def_ 51 (d := d_Body_names) rfl
  have F_Body_names : FnPk K "names" "Body.names" s_Body_names [] [] (He.ma K (He.ga K "Body") "names") fd_Body_names := F'_Body_names
  obtain ⟨fd_BodyU_reprU, F'_BodyU_reprU⟩ := c.t.d.def_ 52 (d := d_BodyU_reprU) rfl
  have F_BodyU_reprU : FnPk K "__repr__" "Body.__repr__" s_BodyU_reprU [] [] (He.ma K (He.ga K "Body") "__repr__") fd_BodyU_reprU := F'_BodyU_reprU
  obtain ⟨fd__law_blend, F'__law_blend⟩ := c.t.d.def_ 53 (d := d__law_blend) rfl
  have F__law_blend : FnPk K "_law_blend" "_law_blend" s__law_blend [] [] (He.ga K "_law_blend") fd__law_blend := F'__law_blend
  obtain ⟨fd__law_to, F'__law_to⟩ := c.t.d.def_ 54 (d := d__law_to) rfl
  have F__law_to : FnPk K "_law_to" "_law_to" s__law_to [] [] (He.ga K "_law_to") fd__law_to := F'__law_to
  obtain ⟨fd__law_shelves, F'__law_shelves⟩ := c.t.d.def_ 55 (d := d__law_shelves) rfl
  have F__law_shelves : FnPk K "_law_shelves" "_law_shelves" s__law_shelves [] [] (He.ga K "_law_shelves") fd__law_shelves := F'__law_shelves
  obtain ⟨fd_Body_need_stash, F'_Body_need_stash⟩ := c.t.d.def_ 56 (d := d_Body_need_stash) rfl
  have F_Body_need_stash : FnPk K "need_stash" "Body.need_stash" s_Body_need_stash [] [] (He.ma K (He.ga K "Body") "need_stash") fd_Body_need_stash := F'_Body_need_stash
  obtain ⟨fd_Body_folding, F'_Body_folding⟩ := c.t.d.def_ 57 (d := d_Body_folding) rfl
  have F_Body_folding : FnPk K "folding" "Body.folding" s_Body_folding [] [] (He.ma K (He.ga K "Body") "folding") fd_Body_folding := F'_Body_folding
  obtain ⟨fd_Body_shelf, F'_Body_shelf⟩ := c.t.d.def_ 58 (d := d_Body_shelf) rfl
  have F_Body_shelf : FnPk K "shelf" "Body.shelf" s_Body_shelf [] [] (He.ma K (He.ga K "Body") "shelf") fd_Body_shelf := F'_Body_shelf
  obtain ⟨fd__law_stands, F'__law_stands⟩ := c.t.d.def_ 59 (d := d__law_stands) rfl
  have F__law_stands : FnPk K "_law_stands" "_law_stands" s__law_stands [] [] (He.ga K "_law_stands") fd__law_stands := F'__law_stands
  obtain ⟨fd__law_choices, F'__law_choices⟩ := c.t.d.def_ 60 (d := d__law_choices) rfl
  have F__law_choices : FnPk K "_law_choices" "_law_choices" s__law_choices [] [] (He.ga K "_law_choices") fd__law_choices := F'__law_choices
  obtain ⟨fd__law_swings, F'__law_swings⟩ := c.t.d.def_ 61 (d := d__law_swings) rfl
  have F__law_swings : FnPk K "_law_swings" "_law_swings" s__law_swings [] [] (He.ga K "_law_swings") fd__law_swings := F'__law_swings
  obtain ⟨fd_Move_is_ready, F'_Move_is_ready⟩ := c.t.d.def_ 62 (d := d_Move_is_ready) rfl
  have F_Move_is_ready : FnPk K "is_ready" "Move.is_ready" s_Move_is_ready [] [] (He.ma K (He.ga K "Move") "is_ready") fd_Move_is_ready := F'_Move_is_ready
  obtain ⟨fd_Body_ready, F'_Body_ready⟩ := c.t.d.def_ 63 (d := d_Body_ready) rfl
  have F_Body_ready : FnPk K "ready" "Body.ready" s_Body_ready [] [] (He.ma K (He.ga K "Body") "ready") fd_Body_ready := F'_Body_ready
  obtain ⟨fd_Table_berth_now, F'_Table_berth_now⟩ := c.t.d.def_ 64 (d := d_Table_berth_now) rfl
  have F_Table_berth_now : FnPk K "berth_now" "Table.berth_now" s_Table_berth_now [] [] (He.ma K (He.ga K "Table") "berth_now") fd_Table_berth_now := F'_Table_berth_now
  obtain ⟨fd_Body_held, F'_Body_held⟩ := c.t.d.def_ 65 (d := d_Body_held) rfl
  have F_Body_held : FnPk K "held" "Body.held" s_Body_held [] [] (He.ma K (He.ga K "Body") "held") fd_Body_held := F'_Body_held
  obtain ⟨fd__law_held_right, F'__law_held_right⟩ := c.t.d.def_ 66 (d := d__law_held_right) rfl
  have F__law_held_right : FnPk K "_law_held_right" "_law_held_right" s__law_held_right [] [] (He.ga K "_law_held_right") fd__law_held_right := F'__law_held_right
  obtain ⟨fd_law, F'_law⟩ := c.t.d.def_ 67 (d := d_law) rfl
  have F_law : FnPk K "law" "law" s_law [] [] (He.ga K "law") fd_law := F'_law
  have e := hfa.symm.trans (He.glo_ok X G (c.t.d.fact 141 (f := .glo "law") rfl))
  cases e
  have b := FunD.bindsA (ps := ["_law_script"]) F_law fun _ _ _ _ _ _ us hl => match us, hl with | [_], _ => rfl
  refine ⟨fd_law, fun s v => b s [v] rfl, fun base hTB => ?_⟩
  have B : Bl mg := bl_of X G fun f hf => c.t.d.facts (List.mem_append_left _ (List.mem_append_left _ (show f ∈ Hz.blFa from hf)))
  have o__law_box := ok__law_box (P := P) (w := w) (mg := mg) (base := base) (ca := He.ga K) (T := Tof K tf) F__law_box B
  have h__law_box : Kn P w K mg base (GY K (He.ga K) (Tof K tf)) 1 "_law_box" 1 m__law_box [] [] := kn_of F__law_box (He.glo_ok X G (c.t.d.fact 20 (f := .glo "_law_box") rfl)) (F__law_box.bindsN (ps := ["_law_script"]) fun _ _ _ _ _ _ us hl => match us, hl with | [_], _ => rfl) o__law_box
  have o__law_take := ok__law_take (P := P) (w := w) (mg := mg) (base := base) (ca := He.ga K) (T := Tof K tf) F__law_take B
  have h__law_take : Kn P w K mg base (GY K (He.ga K) (Tof K tf)) 1 "_law_take" 2 m__law_take [] [] := kn_of F__law_take (He.glo_ok X G (c.t.d.fact 21 (f := .glo "_law_take") rfl)) (F__law_take.bindsN (ps := ["_law_box_here", "_law_sides"]) fun _ _ _ _ _ _ us hl => match us, hl with | [_, _], _ => rfl) o__law_take
  have o__law_of := ok__law_of (P := P) (w := w) (mg := mg) (base := base) (ca := He.ga K) (T := Tof K tf) F__law_of B h__law_take
  have h__law_of : Kn P w K mg base (GY K (He.ga K) (Tof K tf)) 2 "_law_of" 2 m__law_of [] [] := kn_of F__law_of (He.glo_ok X G (c.t.d.fact 22 (f := .glo "_law_of") rfl)) (F__law_of.bindsN (ps := ["_law_box_here", "_law_some"]) fun _ _ _ _ _ _ us hl => match us, hl with | [_, _], _ => rfl) o__law_of
  have o__law_wide := ok__law_wide (P := P) (w := w) (mg := mg) (base := base) (ca := He.ga K) (T := Tof K tf) F__law_wide h__law_of
  have h__law_wide : Kn P w K mg base (GY K (He.ga K) (Tof K tf)) 3 "_law_wide" 1 m__law_wide [] [] := kn_of F__law_wide (He.glo_ok X G (c.t.d.fact 23 (f := .glo "_law_wide") rfl)) (F__law_wide.bindsN (ps := ["_law_box_here"]) fun _ _ _ _ _ _ us hl => match us, hl with | [_], _ => rfl) o__law_wide
  have o__law_model := ok__law_model (P := P) (w := w) (mg := mg) (base := base) (ca := He.ga K) (T := Tof K tf) F__law_model
  have h__law_model : Kn P w K mg base (GY K (He.ga K) (Tof K tf)) 1 "_law_model" 1 m__law_model [] [] := kn_of F__law_model (He.glo_ok X G (c.t.d.fact 24 (f := .glo "_law_model") rfl)) (F__law_model.bindsN (ps := ["_law_wide_here"]) fun _ _ _ _ _ _ us hl => match us, hl with | [_], _ => rfl) o__law_model
  have x_BadSize : KnX K mg (GY K (He.ga K) (Tof K tf)) "BadSize" := knX_of X G (c.t.d.fact 25 (f := .glo "BadSize") rfl) (c.t.d.fact 26 (f := .exc "BadSize") rfl)
  have C_Body : Cls K ((GY K (He.ga K) (Tof K tf)).ca "Body") := He.cls_ok (c.t.d.fact 27 (f := .cls "Body") rfl)
  have n_Body_wide : NoAttr K ((GY K (He.ga K) (Tof K tf)).ca "Body") "wide" := He.noat_ok (c.t.d.fact 28 (f := .noat "Body" "wide") rfl)
  have n_Body_tables : NoAttr K ((GY K (He.ga K) (Tof K tf)).ca "Body") "tables" := He.noat_ok (c.t.d.fact 29 (f := .noat "Body" "tables") rfl)
  have n_Body_store : NoAttr K ((GY K (He.ga K) (Tof K tf)).ca "Body") "store" := He.noat_ok (c.t.d.fact 30 (f := .noat "Body" "store") rfl)
  have n_Body_dues : NoAttr K ((GY K (He.ga K) (Tof K tf)).ca "Body") "dues" := He.noat_ok (c.t.d.fact 31 (f := .noat "Body" "dues") rfl)
  have o_BodyU_initU := ok_BodyU_initU (P := P) (w := w) (mg := mg) (base := base) (ca := He.ga K) (T := Tof K tf) F_BodyU_initU x_BadSize C_Body n_Body_wide n_Body_tables n_Body_store n_Body_dues
  have k_Body_2_banks : KnCK P w K mg base (GY K (He.ga K) (Tof K tf)) 1 "Body" 2 ["banks"] m_BodyU_initU [] [] := knCK_of F_BodyU_initU (He.mkr_ok (c.t.d.fact 32 (f := .mkr "Body") rfl)) (He.glo_ok X G (c.t.d.fact 33 (f := .glo "Body") rfl)) (kbnAll (ps := ["self", "box", "lane", "banks"]) F_BodyU_initU 3 ["banks"] fun _ _ _ _ _ _ us ws h1 h2 => match us, ws, h1, h2 with | [_, _, _], [_], _, _ => rfl) (fun w => RepL.nil_) o_BodyU_initU
  have o__law_deep := ok__law_deep (P := P) (w := w) (mg := mg) (base := base) (ca := He.ga K) (T := Tof K tf) F__law_deep
  have h__law_deep : Kn P w K mg base (GY K (He.ga K) (Tof K tf)) 1 "_law_deep" 1 m__law_deep [] [] := kn_of F__law_deep (He.glo_ok X G (c.t.d.fact 34 (f := .glo "_law_deep") rfl)) (F__law_deep.bindsN (ps := ["_law_m"]) fun _ _ _ _ _ _ us hl => match us, hl with | [_], _ => rfl) o__law_deep
  have o__law_cells := ok__law_cells (P := P) (w := w) (mg := mg) (base := base) (ca := He.ga K) (T := Tof K tf) F__law_cells B h__law_of h__law_take
  have h__law_cells : Kn P w K mg base (GY K (He.ga K) (Tof K tf)) 3 "_law_cells" 2 m__law_cells [] [] := kn_of F__law_cells (He.glo_ok X G (c.t.d.fact 35 (f := .glo "_law_cells") rfl)) (F__law_cells.bindsN (ps := ["_law_box_here", "_law_many_here"]) fun _ _ _ _ _ _ us hl => match us, hl with | [_, _], _ => rfl) o__law_cells
  have o__law_numbers := ok__law_numbers (P := P) (w := w) (mg := mg) (base := base) (ca := He.ga K) (T := Tof K tf) F__law_numbers B h__law_take
  have h__law_numbers : Kn P w K mg base (GY K (He.ga K) (Tof K tf)) 2 "_law_numbers" 3 m__law_numbers [] [] := kn_of F__law_numbers (He.glo_ok X G (c.t.d.fact 36 (f := .glo "_law_numbers") rfl)) (F__law_numbers.bindsN (ps := ["_law_box_here", "_law_count", "_law_many_here"]) fun _ _ _ _ _ _ us hl => match us, hl with | [_, _, _], _ => rfl) o__law_numbers
  have o__law_shuffled := ok__law_shuffled (P := P) (w := w) (mg := mg) (base := base) (ca := He.ga K) (T := Tof K tf) F__law_shuffled B h__law_take
  have h__law_shuffled : Kn P w K mg base (GY K (He.ga K) (Tof K tf)) 2 "_law_shuffled" 2 m__law_shuffled [] [] := kn_of F__law_shuffled (He.glo_ok X G (c.t.d.fact 37 (f := .glo "_law_shuffled") rfl)) (F__law_shuffled.bindsN (ps := ["_law_box_here", "_law_some"]) fun _ _ _ _ _ _ us hl => match us, hl with | [_, _], _ => rfl) o__law_shuffled
  have o__law_lines := ok__law_lines (P := P) (w := w) (mg := mg) (base := base) (ca := He.ga K) (T := Tof K tf) F__law_lines B h__law_numbers h__law_shuffled h__law_take
  have h__law_lines : Kn P w K mg base (GY K (He.ga K) (Tof K tf)) 3 "_law_lines" 3 m__law_lines [] [] := kn_of F__law_lines (He.glo_ok X G (c.t.d.fact 38 (f := .glo "_law_lines") rfl)) (F__law_lines.bindsN (ps := ["_law_box_here", "_law_deep_here", "_law_many_here"]) fun _ _ _ _ _ _ us hl => match us, hl with | [_, _, _], _ => rfl) o__law_lines
  have o__law_new_name := ok__law_new_name (P := P) (w := w) (mg := mg) (base := base) (ca := He.ga K) (T := Tof K tf) F__law_new_name h__law_of
  have h__law_new_name : Kn P w K mg base (GY K (He.ga K) (Tof K tf)) 3 "_law_new_name" 1 m__law_new_name [] [] := kn_of F__law_new_name (He.glo_ok X G (c.t.d.fact 39 (f := .glo "_law_new_name") rfl)) (F__law_new_name.bindsN (ps := ["_law_box_here"]) fun _ _ _ _ _ _ us hl => match us, hl with | [_], _ => rfl) o__law_new_name
  have o__law_lay := ok__law_lay (P := P) (w := w) (mg := mg) (base := base) (ca := He.ga K) (T := Tof K tf) F__law_lay B h__law_of h__law_cells h__law_lines h__law_new_name
  have h__law_lay : Kn P w K mg base (GY K (He.ga K) (Tof K tf)) 4 "_law_lay" 2 m__law_lay [] [] := kn_of F__law_lay (He.glo_ok X G (c.t.d.fact 40 (f := .glo "_law_lay") rfl)) (F__law_lay.bindsN (ps := ["_law_box_here", "_law_deep_here"]) fun _ _ _ _ _ _ us hl => match us, hl with | [_, _], _ => rfl) o__law_lay
  have c_SMALL : ∃ u, mg "SMALL" = some (.str "abcdefghijklmnopqrstuvwxyz" u) := He.str_ok X G (c.t.d.fact 41 (f := .str "SMALL" "abcdefghijklmnopqrstuvwxyz") rfl)
  have o_is_name := ok_is_name (P := P) (w := w) (mg := mg) (base := base) (ca := He.ga K) (T := Tof K tf) F_is_name B c_SMALL
  have h_is_name : Kn P w K mg base (GY K (He.ga K) (Tof K tf)) 1 "is_name" 1 m_is_name [] [] := kn_of F_is_name (He.glo_ok X G (c.t.d.fact 42 (f := .glo "is_name") rfl)) (F_is_name.bindsN (ps := ["name"]) fun _ _ _ _ _ _ us hl => match us, hl with | [_], _ => rfl) o_is_name
  have x_BadName : KnX K mg (GY K (He.ga K) (Tof K tf)) "BadName" := knX_of X G (c.t.d.fact 43 (f := .glo "BadName") rfl) (c.t.d.fact 44 (f := .exc "BadName") rfl)
  have x_Taken : KnX K mg (GY K (He.ga K) (Tof K tf)) "Taken" := knX_of X G (c.t.d.fact 45 (f := .glo "Taken") rfl) (c.t.d.fact 46 (f := .exc "Taken") rfl)
  have c_MOST_TABLES : ∃ u, mg "MOST_TABLES" = some (.int 6 u) := He.int_ok X G (c.t.d.fact 47 (f := .int "MOST_TABLES" 6) rfl)
  have x_Full : KnX K mg (GY K (He.ga K) (Tof K tf)) "Full" := knX_of X G (c.t.d.fact 48 (f := .glo "Full") rfl) (c.t.d.fact 49 (f := .exc "Full") rfl)
  have o_Body_need_new := ok_Body_need_new (P := P) (w := w) (mg := mg) (base := base) (ca := He.ga K) (T := Tof K tf) F_Body_need_new B h_is_name x_BadName C_Body n_Body_tables x_Taken c_MOST_TABLES x_Full
  have h_Body_need_new : KnM P w K mg base (GY K (He.ga K) (Tof K tf)) 2 "Body" "need_new" 2 m_Body_need_new [] [] := knM_of F_Body_need_new (He.cls_ok (c.t.d.fact 27 (f := .cls "Body") rfl)) (He.meth_ok (c.t.d.fact 50 (f := .meth "Body" "need_new") rfl)) (F_Body_need_new.bindsN (ps := ["self", "name"]) fun _ _ _ _ _ _ us hl => match us, hl with | [_, _], _ => rfl) o_Body_need_new
  have x_BadCells : KnX K mg (GY K (He.ga K) (Tof K tf)) "BadCells" := knX_of X G (c.t.d.fact 51 (f := .glo "BadCells") rfl) (c.t.d.fact 52 (f := .exc "BadCells") rfl)
  have o_digits_of := ok_digits_of (P := P) (w := w) (mg := mg) (base := base) (ca := He.ga K) (T := Tof K tf) F_digits_of x_BadCells
  have h_digits_of : Kn P w K mg base (GY K (He.ga K) (Tof K tf)) 1 "digits_of" 2 m_digits_of [] [] := kn_of F_digits_of (He.glo_ok X G (c.t.d.fact 53 (f := .glo "digits_of") rfl)) (F_digits_of.bindsN (ps := ["count", "most"]) fun _ _ _ _ _ _ us hl => match us, hl with | [_, _], _ => rfl) o_digits_of
  have c_MOST : ∃ u, mg "MOST" = some (.int 1000000000 u) := He.int_ok X G (c.t.d.fact 54 (f := .int "MOST" 1000000000) rfl)
  have x_BadRows : KnX K mg (GY K (He.ga K) (Tof K tf)) "BadRows" := knX_of X G (c.t.d.fact 55 (f := .glo "BadRows") rfl) (c.t.d.fact 56 (f := .exc "BadRows") rfl)
  have c_MOST_DIGITS : ∃ u, mg "MOST_DIGITS" = some (.int 12 u) := He.int_ok X G (c.t.d.fact 57 (f := .int "MOST_DIGITS" 12) rfl)
  have x_BadFold : KnX K mg (GY K (He.ga K) (Tof K tf)) "BadFold" := knX_of X G (c.t.d.fact 58 (f := .glo "BadFold") rfl) (c.t.d.fact 59 (f := .exc "BadFold") rfl)
  have C_Fold : Cls K ((GY K (He.ga K) (Tof K tf)).ca "Fold") := He.cls_ok (c.t.d.fact 60 (f := .cls "Fold") rfl)
  have n_Fold_lines : NoAttr K ((GY K (He.ga K) (Tof K tf)).ca "Fold") "lines" := He.noat_ok (c.t.d.fact 61 (f := .noat "Fold" "lines") rfl)
  have n_Fold_wide : NoAttr K ((GY K (He.ga K) (Tof K tf)).ca "Fold") "wide" := He.noat_ok (c.t.d.fact 62 (f := .noat "Fold" "wide") rfl)
  have o_FoldU_initU := ok_FoldU_initU (P := P) (w := w) (mg := mg) (base := base) (ca := He.ga K) (T := Tof K tf) F_FoldU_initU B c_MOST_DIGITS x_BadFold C_Fold n_Fold_lines n_Fold_wide
  have o_FoldU_initU_t := ok_FoldU_initU_t (P := P) (w := w) (mg := mg) (base := base) (ca := He.ga K) (T := Tof K tf) F_FoldU_initU B c_MOST_DIGITS x_BadFold C_Fold n_Fold_lines n_Fold_wide
  have k_Fold : KnC P w K mg base (GY K (He.ga K) (Tof K tf)) 1 "Fold" 3 m_FoldU_initU [] [] := knC_of F_FoldU_initU (He.mkr_ok (c.t.d.fact 63 (f := .mkr "Fold") rfl)) (He.glo_ok X G (c.t.d.fact 64 (f := .glo "Fold") rfl)) (F_FoldU_initU.bindsN (ps := ["self", "rows", "size"]) fun _ _ _ _ _ _ us hl => match us, hl with | [_, _, _], _ => rfl) o_FoldU_initU
  have k_Fold_t : KnC P w K mg base (GY K (He.ga K) (Tof K tf)) 1 "Fold" 3 m_FoldU_initU_t [] [] := knC_of F_FoldU_initU (He.mkr_ok (c.t.d.fact 63 (f := .mkr "Fold") rfl)) (He.glo_ok X G (c.t.d.fact 64 (f := .glo "Fold") rfl)) (F_FoldU_initU.bindsN (ps := ["self", "rows", "size"]) fun _ _ _ _ _ _ us hl => match us, hl with | [_, _, _], _ => rfl) o_FoldU_initU_t
  have o_top_of := ok_top_of (P := P) (w := w) (mg := mg) (base := base) (ca := He.ga K) (T := Tof K tf) F_top_of
  have h_top_of : Kn P w K mg base (GY K (He.ga K) (Tof K tf)) 1 "top_of" 1 m_top_of [] [] := kn_of F_top_of (He.glo_ok X G (c.t.d.fact 65 (f := .glo "top_of") rfl)) (F_top_of.bindsN (ps := ["one"]) fun _ _ _ _ _ _ us hl => match us, hl with | [_], _ => rfl) o_top_of
  have o_reduced := ok_reduced (P := P) (w := w) (mg := mg) (base := base) (ca := He.ga K) (T := Tof K tf) F_reduced h_top_of
  have h_reduced : Kn P w K mg base (GY K (He.ga K) (Tof K tf)) 2 "reduced" 2 m_reduced [] [] := kn_of F_reduced (He.glo_ok X G (c.t.d.fact 66 (f := .glo "reduced") rfl)) (F_reduced.bindsN (ps := ["one", "found"]) fun _ _ _ _ _ _ us hl => match us, hl with | [_, _], _ => rfl) o_reduced
  have o_basis_of := ok_basis_of (P := P) (w := w) (mg := mg) (base := base) (ca := He.ga K) (T := Tof K tf) F_basis_of B h_reduced h_top_of
  have h_basis_of : Kn P w K mg base (GY K (He.ga K) (Tof K tf)) 3 "basis_of" 1 m_basis_of [] [] := kn_of F_basis_of (He.glo_ok X G (c.t.d.fact 67 (f := .glo "basis_of") rfl)) (F_basis_of.bindsN (ps := ["numbers"]) fun _ _ _ _ _ _ us hl => match us, hl with | [_], _ => rfl) o_basis_of
  have o_Fold_onto := ok_Fold_onto (P := P) (w := w) (mg := mg) (base := base) (ca := He.ga K) (T := Tof K tf) F_Fold_onto B C_Fold n_Fold_lines h_basis_of n_Fold_wide
  have h_Fold_onto : KnM P w K mg base (GY K (He.ga K) (Tof K tf)) 4 "Fold" "onto" 1 m_Fold_onto [] [] := knM_of F_Fold_onto (He.cls_ok (c.t.d.fact 60 (f := .cls "Fold") rfl)) (He.meth_ok (c.t.d.fact 68 (f := .meth "Fold" "onto") rfl)) (F_Fold_onto.bindsN (ps := ["self"]) fun _ _ _ _ _ _ us hl => match us, hl with | [_], _ => rfl) o_Fold_onto
  have o_Body_need_spread := ok_Body_need_spread (P := P) (w := w) (mg := mg) (base := base) (ca := He.ga K) (T := Tof K tf) F_Body_need_spread B C_Body n_Body_wide x_BadRows k_Fold h_Fold_onto
  have o_Body_need_spread_t := ok_Body_need_spread_t (P := P) (w := w) (mg := mg) (base := base) (ca := He.ga K) (T := Tof K tf) F_Body_need_spread B C_Body n_Body_wide x_BadRows k_Fold_t h_Fold_onto
  have h_Body_need_spread : KnM P w K mg base (GY K (He.ga K) (Tof K tf)) 5 "Body" "need_spread" 3 m_Body_need_spread [] [] := knM_of F_Body_need_spread (He.cls_ok (c.t.d.fact 27 (f := .cls "Body") rfl)) (He.meth_ok (c.t.d.fact 69 (f := .meth "Body" "need_spread") rfl)) (F_Body_need_spread.bindsN (ps := ["self", "rows", "many"]) fun _ _ _ _ _ _ us hl => match us, hl with | [_, _, _], _ => rfl) o_Body_need_spread
  have h_Body_need_spread_t : KnM P w K mg base (GY K (He.ga K) (Tof K tf)) 5 "Body" "need_spread" 3 m_Body_need_spread_t [] [] := knM_of F_Body_need_spread (He.cls_ok (c.t.d.fact 27 (f := .cls "Body") rfl)) (He.meth_ok (c.t.d.fact 69 (f := .meth "Body" "need_spread") rfl)) (F_Body_need_spread.bindsN (ps := ["self", "rows", "many"]) fun _ _ _ _ _ _ us hl => match us, hl with | [_, _, _], _ => rfl) o_Body_need_spread_t
  have C_Table : Cls K ((GY K (He.ga K) (Tof K tf)).ca "Table") := He.cls_ok (c.t.d.fact 70 (f := .cls "Table") rfl)
  have n_Table_spread : NoAttr K ((GY K (He.ga K) (Tof K tf)).ca "Table") "spread" := He.noat_ok (c.t.d.fact 71 (f := .noat "Table" "spread") rfl)
  have n_Table_grip : NoAttr K ((GY K (He.ga K) (Tof K tf)).ca "Table") "grip" := He.noat_ok (c.t.d.fact 72 (f := .noat "Table" "grip") rfl)
  have n_Table_move : NoAttr K ((GY K (He.ga K) (Tof K tf)).ca "Table") "move" := He.noat_ok (c.t.d.fact 73 (f := .noat "Table" "move") rfl)
  have o_TableU_initU := ok_TableU_initU (P := P) (w := w) (mg := mg) (base := base) (ca := He.ga K) (T := Tof K tf) F_TableU_initU C_Table n_Table_spread n_Table_grip n_Table_move
  have k_Table_d : KnC P w K mg base (GY K (He.ga K) (Tof K tf)) 1 "Table" 4 m_TableU_initU [.non] [.non] := knC0_of F_TableU_initU (He.mkr_ok (c.t.d.fact 74 (f := .mkr "Table") rfl)) (He.glo_ok X G (c.t.d.fact 75 (f := .glo "Table") rfl)) (F_TableU_initU.binds0 (ps := ["self", "spread", "grip", "move"]) 3 (fun z => nomatch z) rfl fun _ _ _ _ _ _ us ks h1 h2 => match us, ks, h1, h2 with | [_, _, _], [_], _, _ => ⟨_, _, _, _, _, _, rfl, rfl, rfl⟩) (fun w => RepL.cons_ (rep_non' (g := GY K (He.ga K) (Tof K tf))) (RepL.nil_)) o_TableU_initU
  have o_Fold_many := ok_Fold_many (P := P) (w := w) (mg := mg) (base := base) (ca := He.ga K) (T := Tof K tf) F_Fold_many B C_Fold n_Fold_lines
  have h_Fold_many : KnM P w K mg base (GY K (He.ga K) (Tof K tf)) 1 "Fold" "many" 1 m_Fold_many [] [] := knM_of F_Fold_many (He.cls_ok (c.t.d.fact 60 (f := .cls "Fold") rfl)) (He.meth_ok (c.t.d.fact 76 (f := .meth "Fold" "many") rfl)) (F_Fold_many.bindsN (ps := ["self"]) fun _ _ _ _ _ _ us hl => match us, hl with | [_], _ => rfl) o_Fold_many
  have x_BadNumber : KnX K mg (GY K (He.ga K) (Tof K tf)) "BadNumber" := knX_of X G (c.t.d.fact 77 (f := .glo "BadNumber") rfl) (c.t.d.fact 78 (f := .exc "BadNumber") rfl)
  have o_blended := ok_blended (P := P) (w := w) (mg := mg) (base := base) (ca := He.ga K) (T := Tof K tf) F_blended
  have h_blended : Kn P w K mg base (GY K (He.ga K) (Tof K tf)) 1 "blended" 1 m_blended [] [] := kn_of F_blended (He.glo_ok X G (c.t.d.fact 79 (f := .glo "blended") rfl)) (F_blended.bindsN (ps := ["numbers"]) fun _ _ _ _ _ _ us hl => match us, hl with | [_], _ => rfl) o_blended
  have o_picked := ok_picked (P := P) (w := w) (mg := mg) (base := base) (ca := He.ga K) (T := Tof K tf) F_picked B h_blended
  have h_picked : Kn P w K mg base (GY K (He.ga K) (Tof K tf)) 2 "picked" 2 m_picked [] [] := kn_of F_picked (He.glo_ok X G (c.t.d.fact 80 (f := .glo "picked") rfl)) (F_picked.bindsN (ps := ["rows", "number"]) fun _ _ _ _ _ _ us hl => match us, hl with | [_, _], _ => rfl) o_picked
  have o_Fold_to := ok_Fold_to (P := P) (w := w) (mg := mg) (base := base) (ca := He.ga K) (T := Tof K tf) F_Fold_to B C_Fold n_Fold_lines x_BadNumber h_picked
  have h_Fold_to : KnM P w K mg base (GY K (He.ga K) (Tof K tf)) 3 "Fold" "to" 2 m_Fold_to [] [] := knM_of F_Fold_to (He.cls_ok (c.t.d.fact 60 (f := .cls "Fold") rfl)) (He.meth_ok (c.t.d.fact 81 (f := .meth "Fold" "to") rfl)) (F_Fold_to.bindsN (ps := ["self", "number"]) fun _ _ _ _ _ _ us hl => match us, hl with | [_, _], _ => rfl) o_Fold_to
  have o_laid := ok_laid (P := P) (w := w) (mg := mg) (base := base) (ca := He.ga K) (T := Tof K tf) F_laid B k_Table_d h_Fold_many h_Fold_to
  have h_laid : Kn P w K mg base (GY K (He.ga K) (Tof K tf)) 4 "laid" 2 m_laid [] [] := kn_of F_laid (He.glo_ok X G (c.t.d.fact 82 (f := .glo "laid") rfl)) (F_laid.bindsN (ps := ["spread", "cells"]) fun _ _ _ _ _ _ us hl => match us, hl with | [_, _], _ => rfl) o_laid
  have o_Body_lay := ok_Body_lay (P := P) (w := w) (mg := mg) (base := base) (ca := He.ga K) (T := Tof K tf) F_Body_lay B h_Body_need_new C_Body n_Body_wide h_digits_of c_MOST x_BadCells n_Body_tables h_Body_need_spread h_laid
  have o_Body_lay_t := ok_Body_lay_t (P := P) (w := w) (mg := mg) (base := base) (ca := He.ga K) (T := Tof K tf) F_Body_lay B h_Body_need_new C_Body n_Body_wide h_digits_of c_MOST x_BadCells n_Body_tables h_Body_need_spread_t h_laid
  have h_Body_lay : KnM P w K mg base (GY K (He.ga K) (Tof K tf)) 6 "Body" "lay" 4 m_Body_lay [] [] := knM_of F_Body_lay (He.cls_ok (c.t.d.fact 27 (f := .cls "Body") rfl)) (He.meth_ok (c.t.d.fact 83 (f := .meth "Body" "lay") rfl)) (F_Body_lay.bindsN (ps := ["self", "name", "rows", "cells"]) fun _ _ _ _ _ _ us hl => match us, hl with | [_, _, _, _], _ => rfl) o_Body_lay
  have h_Body_lay_t : KnM P w K mg base (GY K (He.ga K) (Tof K tf)) 6 "Body" "lay" 4 m_Body_lay_t [] [] := knM_of F_Body_lay (He.cls_ok (c.t.d.fact 27 (f := .cls "Body") rfl)) (He.meth_ok (c.t.d.fact 83 (f := .meth "Body" "lay") rfl)) (F_Body_lay.bindsN (ps := ["self", "name", "rows", "cells"]) fun _ _ _ _ _ _ us hl => match us, hl with | [_, _, _, _], _ => rfl) o_Body_lay_t
  have o__law_many := ok__law_many (P := P) (w := w) (mg := mg) (base := base) (ca := He.ga K) (T := Tof K tf) F__law_many
  have h__law_many : Kn P w K mg base (GY K (He.ga K) (Tof K tf)) 1 "_law_many" 1 m__law_many [] [] := kn_of F__law_many (He.glo_ok X G (c.t.d.fact 84 (f := .glo "_law_many") rfl)) (F__law_many.bindsN (ps := ["_law_count"]) fun _ _ _ _ _ _ us hl => match us, hl with | [_], _ => rfl) o__law_many
  have o__law_images := ok__law_images (P := P) (w := w) (mg := mg) (base := base) (ca := He.ga K) (T := Tof K tf) F__law_images
  have h__law_images : Kn P w K mg base (GY K (He.ga K) (Tof K tf)) 1 "_law_images" 1 m__law_images [] [] := kn_of F__law_images (He.glo_ok X G (c.t.d.fact 85 (f := .glo "_law_images") rfl)) (F__law_images.bindsN (ps := ["_law_lines_here"]) fun _ _ _ _ _ _ us hl => match us, hl with | [_], _ => rfl) o__law_images
  have o__law_homes := ok__law_homes (P := P) (w := w) (mg := mg) (base := base) (ca := He.ga K) (T := Tof K tf) F__law_homes B h__law_images
  have h__law_homes : Kn P w K mg base (GY K (He.ga K) (Tof K tf)) 2 "_law_homes" 1 m__law_homes [] [] := kn_of F__law_homes (He.glo_ok X G (c.t.d.fact 86 (f := .glo "_law_homes") rfl)) (F__law_homes.bindsN (ps := ["_law_lines_here"]) fun _ _ _ _ _ _ us hl => match us, hl with | [_], _ => rfl) o__law_homes
  have g_FoldError : mg "FoldError" = some (.ref ((GY K (He.ga K) (Tof K tf)).ca "FoldError")) := He.glo_ok X G (c.t.d.fact 87 (f := .glo "FoldError") rfl)
  have g_NoTable : mg "NoTable" = some (.ref ((GY K (He.ga K) (Tof K tf)).ca "NoTable")) := He.glo_ok X G (c.t.d.fact 88 (f := .glo "NoTable") rfl)
  have xm_NoTable := (xmB_ok (exAt (es := exs) c.more 1 rfl))
  have xf_NoTable : KnF P w K mg base (GY K (He.ga K) (Tof K tf)) "NoTable" := ⟨oexB_ok (exAt (es := exs) c.more 2 rfl), g_NoTable, xm_NoTable.1, _, _, _, xm_NoTable.2.1, xm_NoTable.2.2, ok_NoTableU_initU (P := P) (w := w) (mg := mg) (base := base) (ca := He.ga K) (T := Tof K tf) F_NoTableU_initU g_FoldError (basB_ok (exAt (es := exs) c.more 0 rfl)), (F_NoTableU_initU.bindsN (ps := ["self", "name"]) fun _ _ _ _ _ _ us hl => match us, hl with | [_, _], _ => rfl)⟩
  have o_Body_need := ok_Body_need (P := P) (w := w) (mg := mg) (base := base) (ca := He.ga K) (T := Tof K tf) F_Body_need C_Body n_Body_tables xf_NoTable
  have h_Body_need : KnM P w K mg base (GY K (He.ga K) (Tof K tf)) 3 "Body" "need" 2 m_Body_need [] [] := knM_of F_Body_need (He.cls_ok (c.t.d.fact 27 (f := .cls "Body") rfl)) (He.meth_ok (c.t.d.fact 89 (f := .meth "Body" "need") rfl)) (F_Body_need.bindsN (ps := ["self", "name"]) fun _ _ _ _ _ _ us hl => match us, hl with | [_, _], _ => rfl) o_Body_need
  have C_Move : Cls K ((GY K (He.ga K) (Tof K tf)).ca "Move") := He.cls_ok (c.t.d.fact 90 (f := .cls "Move") rfl)
  have n_Move_left : NoAttr K ((GY K (He.ga K) (Tof K tf)).ca "Move") "left" := He.noat_ok (c.t.d.fact 91 (f := .noat "Move" "left") rfl)
  have n_Move_done : NoAttr K ((GY K (He.ga K) (Tof K tf)).ca "Move") "done" := He.noat_ok (c.t.d.fact 92 (f := .noat "Move" "done") rfl)
  have o_Fold_rows := ok_Fold_rows (P := P) (w := w) (mg := mg) (base := base) (ca := He.ga K) (T := Tof K tf) F_Fold_rows C_Fold n_Fold_lines
  have h_Fold_rows : KnM P w K mg base (GY K (He.ga K) (Tof K tf)) 1 "Fold" "rows" 1 m_Fold_rows [] [] := knM_of F_Fold_rows (He.cls_ok (c.t.d.fact 60 (f := .cls "Fold") rfl)) (He.meth_ok (c.t.d.fact 93 (f := .meth "Fold" "rows") rfl)) (F_Fold_rows.bindsN (ps := ["self"]) fun _ _ _ _ _ _ us hl => match us, hl with | [_], _ => rfl) o_Fold_rows
  have n_Move_aim : NoAttr K ((GY K (He.ga K) (Tof K tf)).ca "Move") "aim" := He.noat_ok (c.t.d.fact 94 (f := .noat "Move" "aim") rfl)
  have o_Move_told := ok_Move_told (P := P) (w := w) (mg := mg) (base := base) (ca := He.ga K) (T := Tof K tf) F_Move_told C_Move n_Move_left n_Move_done h_Fold_rows n_Move_aim
  have h_Move_told : KnM P w K mg base (GY K (He.ga K) (Tof K tf)) 2 "Move" "told" 1 m_Move_told [] [] := knM_of F_Move_told (He.cls_ok (c.t.d.fact 90 (f := .cls "Move") rfl)) (He.meth_ok (c.t.d.fact 95 (f := .meth "Move" "told") rfl)) (F_Move_told.bindsN (ps := ["self"]) fun _ _ _ _ _ _ us hl => match us, hl with | [_], _ => rfl) o_Move_told
  have o_Body_moving := ok_Body_moving (P := P) (w := w) (mg := mg) (base := base) (ca := He.ga K) (T := Tof K tf) F_Body_moving h_Body_need C_Table n_Table_move h_Move_told
  have h_Body_moving : KnM P w K mg base (GY K (He.ga K) (Tof K tf)) 4 "Body" "moving" 2 m_Body_moving [] [] := knM_of F_Body_moving (He.cls_ok (c.t.d.fact 27 (f := .cls "Body") rfl)) (He.meth_ok (c.t.d.fact 96 (f := .meth "Body" "moving") rfl)) (F_Body_moving.bindsN (ps := ["self", "name"]) fun _ _ _ _ _ _ us hl => match us, hl with | [_, _], _ => rfl) o_Body_moving
  have o_Body_rows := ok_Body_rows (P := P) (w := w) (mg := mg) (base := base) (ca := He.ga K) (T := Tof K tf) F_Body_rows h_Fold_rows h_Body_need C_Table n_Table_spread
  have h_Body_rows : KnM P w K mg base (GY K (He.ga K) (Tof K tf)) 4 "Body" "rows" 2 m_Body_rows [] [] := knM_of F_Body_rows (He.cls_ok (c.t.d.fact 27 (f := .cls "Body") rfl)) (He.meth_ok (c.t.d.fact 97 (f := .meth "Body" "rows") rfl)) (F_Body_rows.bindsN (ps := ["self", "name"]) fun _ _ _ _ _ _ us hl => match us, hl with | [_, _], _ => rfl) o_Body_rows
  have o_Fold_size := ok_Fold_size (P := P) (w := w) (mg := mg) (base := base) (ca := He.ga K) (T := Tof K tf) F_Fold_size C_Fold n_Fold_wide
  have h_Fold_size : KnM P w K mg base (GY K (He.ga K) (Tof K tf)) 1 "Fold" "size" 1 m_Fold_size [] [] := knM_of F_Fold_size (He.cls_ok (c.t.d.fact 60 (f := .cls "Fold") rfl)) (He.meth_ok (c.t.d.fact 98 (f := .meth "Fold" "size") rfl)) (F_Fold_size.bindsN (ps := ["self"]) fun _ _ _ _ _ _ us hl => match us, hl with | [_], _ => rfl) o_Fold_size
  have o_Body_digits := ok_Body_digits (P := P) (w := w) (mg := mg) (base := base) (ca := He.ga K) (T := Tof K tf) F_Body_digits h_Fold_size h_Body_need C_Table n_Table_spread
  have h_Body_digits : KnM P w K mg base (GY K (He.ga K) (Tof K tf)) 4 "Body" "digits" 2 m_Body_digits [] [] := knM_of F_Body_digits (He.cls_ok (c.t.d.fact 27 (f := .cls "Body") rfl)) (He.meth_ok (c.t.d.fact 99 (f := .meth "Body" "digits") rfl)) (F_Body_digits.bindsN (ps := ["self", "name"]) fun _ _ _ _ _ _ us hl => match us, hl with | [_, _], _ => rfl) o_Body_digits
  have o__law_same := ok__law_same (P := P) (w := w) (mg := mg) (base := base) (ca := He.ga K) (T := Tof K tf) F__law_same (He.glo_ok X G (c.t.d.fact 100 (f := .glo "_law_same") rfl)) (F__law_same.bindsN (ps := ["_law_found", "_law_due"]) fun _ _ _ _ _ _ us hl => match us, hl with | [_, _], _ => rfl) B
  have h__law_same : ∀ n, Kn P w K mg base (GY K (He.ga K) (Tof K tf)) (n + 1) "_law_same" 2 (m__law_same n) [] [] := fun n => kn_of F__law_same (He.glo_ok X G (c.t.d.fact 100 (f := .glo "_law_same") rfl)) (F__law_same.bindsN (ps := ["_law_found", "_law_due"]) fun _ _ _ _ _ _ us hl => match us, hl with | [_, _], _ => rfl) (o__law_same n)
  have x_NotOnto : KnX K mg (GY K (He.ga K) (Tof K tf)) "NotOnto" := knX_of X G (c.t.d.fact 101 (f := .glo "NotOnto") rfl) (c.t.d.fact 102 (f := .exc "NotOnto") rfl)
  have o_traced := ok_traced (P := P) (w := w) (mg := mg) (base := base) (ca := He.ga K) (T := Tof K tf) F_traced B h_top_of
  have h_traced : Kn P w K mg base (GY K (He.ga K) (Tof K tf)) 2 "traced" 1 m_traced [] [] := kn_of F_traced (He.glo_ok X G (c.t.d.fact 103 (f := .glo "traced") rfl)) (F_traced.bindsN (ps := ["numbers"]) fun _ _ _ _ _ _ us hl => match us, hl with | [_], _ => rfl) o_traced
  have o_trail_to := ok_trail_to (P := P) (w := w) (mg := mg) (base := base) (ca := He.ga K) (T := Tof K tf) F_trail_to h_traced h_top_of
  have h_trail_to : Kn P w K mg base (GY K (He.ga K) (Tof K tf)) 3 "trail_to" 2 m_trail_to [] [] := kn_of F_trail_to (He.glo_ok X G (c.t.d.fact 104 (f := .glo "trail_to") rfl)) (F_trail_to.bindsN (ps := ["numbers", "one"]) fun _ _ _ _ _ _ us hl => match us, hl with | [_, _], _ => rfl) o_trail_to
  have o_Fold_kernel := ok_Fold_kernel (P := P) (w := w) (mg := mg) (base := base) (ca := He.ga K) (T := Tof K tf) F_Fold_kernel C_Fold n_Fold_lines h_traced h_basis_of
  have h_Fold_kernel : KnM P w K mg base (GY K (He.ga K) (Tof K tf)) 4 "Fold" "kernel" 1 m_Fold_kernel [] [] := knM_of F_Fold_kernel (He.cls_ok (c.t.d.fact 60 (f := .cls "Fold") rfl)) (He.meth_ok (c.t.d.fact 105 (f := .meth "Fold" "kernel") rfl)) (F_Fold_kernel.bindsN (ps := ["self"]) fun _ _ _ _ _ _ us hl => match us, hl with | [_], _ => rfl) o_Fold_kernel
  have o_Fold_least := ok_Fold_least (P := P) (w := w) (mg := mg) (base := base) (ca := He.ga K) (T := Tof K tf) F_Fold_least C_Fold n_Fold_lines h_trail_to h_Fold_kernel h_reduced
  have h_Fold_least : KnM P w K mg base (GY K (He.ga K) (Tof K tf)) 5 "Fold" "least" 2 m_Fold_least [] [] := knM_of F_Fold_least (He.cls_ok (c.t.d.fact 60 (f := .cls "Fold") rfl)) (He.meth_ok (c.t.d.fact 106 (f := .meth "Fold" "least") rfl)) (F_Fold_least.bindsN (ps := ["self", "number"]) fun _ _ _ _ _ _ us hl => match us, hl with | [_, _], _ => rfl) o_Fold_least
  have o_Fold_back := ok_Fold_back (P := P) (w := w) (mg := mg) (base := base) (ca := He.ga K) (T := Tof K tf) F_Fold_back B h_Fold_onto x_NotOnto k_Fold C_Fold n_Fold_lines n_Fold_wide h_Fold_least
  have h_Fold_back : KnM P w K mg base (GY K (He.ga K) (Tof K tf)) 6 "Fold" "back" 1 m_Fold_back [] [] := knM_of F_Fold_back (He.cls_ok (c.t.d.fact 60 (f := .cls "Fold") rfl)) (He.meth_ok (c.t.d.fact 107 (f := .meth "Fold" "back") rfl)) (F_Fold_back.bindsN (ps := ["self"]) fun _ _ _ _ _ _ us hl => match us, hl with | [_], _ => rfl) o_Fold_back
  have o_Table_plain := ok_Table_plain (P := P) (w := w) (mg := mg) (base := base) (ca := He.ga K) (T := Tof K tf) F_Table_plain B h_Fold_back C_Table n_Table_spread h_Fold_size h_Fold_to n_Table_grip
  have h_Table_plain : KnM P w K mg base (GY K (He.ga K) (Tof K tf)) 7 "Table" "plain" 1 m_Table_plain [] [] := knM_of F_Table_plain (He.cls_ok (c.t.d.fact 70 (f := .cls "Table") rfl)) (He.meth_ok (c.t.d.fact 108 (f := .meth "Table" "plain") rfl)) (F_Table_plain.bindsN (ps := ["self"]) fun _ _ _ _ _ _ us hl => match us, hl with | [_], _ => rfl) o_Table_plain
  have o_Body_cells := ok_Body_cells (P := P) (w := w) (mg := mg) (base := base) (ca := He.ga K) (T := Tof K tf) F_Body_cells h_Table_plain h_Body_need
  have h_Body_cells : KnM P w K mg base (GY K (He.ga K) (Tof K tf)) 8 "Body" "cells" 2 m_Body_cells [] [] := knM_of F_Body_cells (He.cls_ok (c.t.d.fact 27 (f := .cls "Body") rfl)) (He.meth_ok (c.t.d.fact 109 (f := .meth "Body" "cells") rfl)) (F_Body_cells.bindsN (ps := ["self", "name"]) fun _ _ _ _ _ _ us hl => match us, hl with | [_, _], _ => rfl) o_Body_cells
  have x_NoCell : KnX K mg (GY K (He.ga K) (Tof K tf)) "NoCell" := knX_of X G (c.t.d.fact 110 (f := .glo "NoCell") rfl) (c.t.d.fact 111 (f := .exc "NoCell") rfl)
  have o_Body_berths := ok_Body_berths (P := P) (w := w) (mg := mg) (base := base) (ca := He.ga K) (T := Tof K tf) F_Body_berths B h_Body_need C_Table n_Table_spread h_Fold_size x_NoCell h_Fold_many h_Fold_to
  have h_Body_berths : KnM P w K mg base (GY K (He.ga K) (Tof K tf)) 4 "Body" "berths" 3 m_Body_berths [] [] := knM_of F_Body_berths (He.cls_ok (c.t.d.fact 27 (f := .cls "Body") rfl)) (He.meth_ok (c.t.d.fact 112 (f := .meth "Body" "berths") rfl)) (F_Body_berths.bindsN (ps := ["self", "name", "cell"]) fun _ _ _ _ _ _ us hl => match us, hl with | [_, _, _], _ => rfl) o_Body_berths
  have o_BodyU_lenU := ok_BodyU_lenU (P := P) (w := w) (mg := mg) (base := base) (ca := He.ga K) (T := Tof K tf) F_BodyU_lenU B C_Body n_Body_tables
  have h_BodyU_lenU : KnM P w K mg base (GY K (He.ga K) (Tof K tf)) 1 "Body" "__len__" 1 m_BodyU_lenU [] [] := knM_of F_BodyU_lenU (He.cls_ok (c.t.d.fact 27 (f := .cls "Body") rfl)) (He.meth_ok (c.t.d.fact 113 (f := .meth "Body" "__len__") rfl)) (F_BodyU_lenU.bindsN (ps := ["self"]) fun _ _ _ _ _ _ us hl => match us, hl with | [_], _ => rfl) o_BodyU_lenU
  have o_Body_paid := ok_Body_paid (P := P) (w := w) (mg := mg) (base := base) (ca := He.ga K) (T := Tof K tf) F_Body_paid C_Body n_Body_dues
  have h_Body_paid : KnM P w K mg base (GY K (He.ga K) (Tof K tf)) 1 "Body" "paid" 1 m_Body_paid [] [] := knM_of F_Body_paid (He.cls_ok (c.t.d.fact 27 (f := .cls "Body") rfl)) (He.meth_ok (c.t.d.fact 114 (f := .meth "Body" "paid") rfl)) (F_Body_paid.bindsN (ps := ["self"]) fun _ _ _ _ _ _ us hl => match us, hl with | [_], _ => rfl) o_Body_paid
  have o_Body_stored := ok_Body_stored (P := P) (w := w) (mg := mg) (base := base) (ca := He.ga K) (T := Tof K tf) F_Body_stored B C_Body n_Body_store
  have h_Body_stored : KnM P w K mg base (GY K (He.ga K) (Tof K tf)) 1 "Body" "stored" 1 m_Body_stored [] [] := knM_of F_Body_stored (He.cls_ok (c.t.d.fact 27 (f := .cls "Body") rfl)) (He.meth_ok (c.t.d.fact 115 (f := .meth "Body" "stored") rfl)) (F_Body_stored.bindsN (ps := ["self"]) fun _ _ _ _ _ _ us hl => match us, hl with | [_], _ => rfl) o_Body_stored
  have o_Body_names := ok_Body_names (P := P) (w := w) (mg := mg) (base := base) (ca := He.ga K) (T := Tof K tf) F_Body_names B C_Body n_Body_tables
  have h_Body_names : KnM P w K mg base (GY K (He.ga K) (Tof K tf)) 1 "Body" "names" 1 m_Body_names [] [] := knM_of F_Body_names (He.cls_ok (c.t.d.fact 27 (f := .cls "Body") rfl)) (He.meth_ok (c.t.d.fact 116 (f := .meth "Body" "names") rfl)) (F_Body_names.bindsN (ps := ["self"]) fun _ _ _ _ _ _ us hl => match us, hl with | [_], _ => rfl) o_Body_names
  have o_BodyU_reprU := ok_BodyU_reprU (P := P) (w := w) (mg := mg) (base := base) (ca := He.ga K) (T := Tof K tf) F_BodyU_reprU B C_Body n_Body_tables n_Body_wide
  have h_BodyU_reprU : KnM P w K mg base (GY K (He.ga K) (Tof K tf)) 1 "Body" "__repr__" 1 m_BodyU_reprU [] [] := knM_of F_BodyU_reprU (He.cls_ok (c.t.d.fact 27 (f := .cls "Body") rfl)) (He.meth_ok (c.t.d.fact 117 (f := .meth "Body" "__repr__") rfl)) (F_BodyU_reprU.bindsN (ps := ["self"]) fun _ _ _ _ _ _ us hl => match us, hl with | [_], _ => rfl) o_BodyU_reprU
  have o__law_blend := ok__law_blend (P := P) (w := w) (mg := mg) (base := base) (ca := He.ga K) (T := Tof K tf) F__law_blend
  have h__law_blend : Kn P w K mg base (GY K (He.ga K) (Tof K tf)) 1 "_law_blend" 1 m__law_blend [] [] := kn_of F__law_blend (He.glo_ok X G (c.t.d.fact 118 (f := .glo "_law_blend") rfl)) (F__law_blend.bindsN (ps := ["_law_numbers_here"]) fun _ _ _ _ _ _ us hl => match us, hl with | [_], _ => rfl) o__law_blend
  have o__law_to := ok__law_to (P := P) (w := w) (mg := mg) (base := base) (ca := He.ga K) (T := Tof K tf) F__law_to B h__law_blend
  have h__law_to : Kn P w K mg base (GY K (He.ga K) (Tof K tf)) 2 "_law_to" 2 m__law_to [] [] := kn_of F__law_to (He.glo_ok X G (c.t.d.fact 119 (f := .glo "_law_to") rfl)) (F__law_to.bindsN (ps := ["_law_lines_here", "_law_number"]) fun _ _ _ _ _ _ us hl => match us, hl with | [_, _], _ => rfl) o__law_to
  have o__law_shelves := ok__law_shelves (P := P) (w := w) (mg := mg) (base := base) (ca := He.ga K) (T := Tof K tf) F__law_shelves B h__law_to
  have h__law_shelves : Kn P w K mg base (GY K (He.ga K) (Tof K tf)) 3 "_law_shelves" 2 m__law_shelves [] [] := kn_of F__law_shelves (He.glo_ok X G (c.t.d.fact 120 (f := .glo "_law_shelves") rfl)) (F__law_shelves.bindsN (ps := ["_law_m", "_law_name"]) fun _ _ _ _ _ _ us hl => match us, hl with | [_, _], _ => rfl) o__law_shelves
  have g_NoStash : mg "NoStash" = some (.ref ((GY K (He.ga K) (Tof K tf)).ca "NoStash")) := He.glo_ok X G (c.t.d.fact 121 (f := .glo "NoStash") rfl)
  have xm_NoStash := (xmB_ok (exAt (es := exs) c.more 3 rfl))
  have xf_NoStash : KnF P w K mg base (GY K (He.ga K) (Tof K tf)) "NoStash" := ⟨oexB_ok (exAt (es := exs) c.more 4 rfl), g_NoStash, xm_NoStash.1, _, _, _, xm_NoStash.2.1, xm_NoStash.2.2, ok_NoStashU_initU (P := P) (w := w) (mg := mg) (base := base) (ca := He.ga K) (T := Tof K tf) F_NoStashU_initU g_FoldError (basB_ok (exAt (es := exs) c.more 0 rfl)), (F_NoStashU_initU.bindsN (ps := ["self", "name"]) fun _ _ _ _ _ _ us hl => match us, hl with | [_, _], _ => rfl)⟩
  have o_Body_need_stash := ok_Body_need_stash (P := P) (w := w) (mg := mg) (base := base) (ca := He.ga K) (T := Tof K tf) F_Body_need_stash C_Body n_Body_store xf_NoStash
  have h_Body_need_stash : KnM P w K mg base (GY K (He.ga K) (Tof K tf)) 3 "Body" "need_stash" 2 m_Body_need_stash [] [] := knM_of F_Body_need_stash (He.cls_ok (c.t.d.fact 27 (f := .cls "Body") rfl)) (He.meth_ok (c.t.d.fact 122 (f := .meth "Body" "need_stash") rfl)) (F_Body_need_stash.bindsN (ps := ["self", "name"]) fun _ _ _ _ _ _ us hl => match us, hl with | [_, _], _ => rfl) o_Body_need_stash
  have o_Body_folding := ok_Body_folding (P := P) (w := w) (mg := mg) (base := base) (ca := He.ga K) (T := Tof K tf) F_Body_folding h_Body_need_stash
  have h_Body_folding : KnM P w K mg base (GY K (He.ga K) (Tof K tf)) 4 "Body" "folding" 2 m_Body_folding [] [] := knM_of F_Body_folding (He.cls_ok (c.t.d.fact 27 (f := .cls "Body") rfl)) (He.meth_ok (c.t.d.fact 123 (f := .meth "Body" "folding") rfl)) (F_Body_folding.bindsN (ps := ["self", "name"]) fun _ _ _ _ _ _ us hl => match us, hl with | [_, _], _ => rfl) o_Body_folding
  have x_NoBank : KnX K mg (GY K (He.ga K) (Tof K tf)) "NoBank" := knX_of X G (c.t.d.fact 124 (f := .glo "NoBank") rfl) (c.t.d.fact 125 (f := .exc "NoBank") rfl)
  have o_Body_shelf := ok_Body_shelf (P := P) (w := w) (mg := mg) (base := base) (ca := He.ga K) (T := Tof K tf) F_Body_shelf B h_Body_need_stash C_Body n_Body_wide x_NoBank h_picked
  have h_Body_shelf : KnM P w K mg base (GY K (He.ga K) (Tof K tf)) 4 "Body" "shelf" 3 m_Body_shelf [] [] := knM_of F_Body_shelf (He.cls_ok (c.t.d.fact 27 (f := .cls "Body") rfl)) (He.meth_ok (c.t.d.fact 126 (f := .meth "Body" "shelf") rfl)) (F_Body_shelf.bindsN (ps := ["self", "name", "bank"]) fun _ _ _ _ _ _ us hl => match us, hl with | [_, _, _], _ => rfl) o_Body_shelf
  have o__law_stands := ok__law_stands (P := P) (w := w) (mg := mg) (base := base) (ca := He.ga K) (T := Tof K tf) F__law_stands B h_BodyU_lenU h_Body_paid h_Body_stored h_Body_names h__law_same h__law_deep h_BodyU_reprU h_Body_moving h_Body_cells h_Body_rows h__law_shelves h_Body_folding h_Body_shelf
  have h__law_stands : Kn P w K mg base (GY K (He.ga K) (Tof K tf)) 9 "_law_stands" 2 m__law_stands [] [] := kn_of F__law_stands (He.glo_ok X G (c.t.d.fact 127 (f := .glo "_law_stands") rfl)) (F__law_stands.bindsN (ps := ["_law_body", "_law_m"]) fun _ _ _ _ _ _ us hl => match us, hl with | [_, _], _ => rfl) o__law_stands
  have o__law_choices := ok__law_choices (P := P) (w := w) (mg := mg) (base := base) (ca := He.ga K) (T := Tof K tf) F__law_choices B h__law_homes h__law_images
  have h__law_choices : Kn P w K mg base (GY K (He.ga K) (Tof K tf)) 3 "_law_choices" 3 m__law_choices [] [] := kn_of F__law_choices (He.glo_ok X G (c.t.d.fact 128 (f := .glo "_law_choices") rfl)) (F__law_choices.bindsN (ps := ["_law_one", "_law_other", "_law_low"]) fun _ _ _ _ _ _ us hl => match us, hl with | [_, _, _], _ => rfl) o__law_choices
  have o__law_swings := ok__law_swings (P := P) (w := w) (mg := mg) (base := base) (ca := He.ga K) (T := Tof K tf) F__law_swings h__law_choices
  have h__law_swings : Kn P w K mg base (GY K (He.ga K) (Tof K tf)) 4 "_law_swings" 3 m__law_swings [] [] := kn_of F__law_swings (He.glo_ok X G (c.t.d.fact 129 (f := .glo "_law_swings") rfl)) (F__law_swings.bindsN (ps := ["_law_one", "_law_other", "_law_low"]) fun _ _ _ _ _ _ us hl => match us, hl with | [_, _, _], _ => rfl) o__law_swings
  have x_NotMoving : KnX K mg (GY K (He.ga K) (Tof K tf)) "NotMoving" := knX_of X G (c.t.d.fact 130 (f := .glo "NotMoving") rfl) (c.t.d.fact 131 (f := .exc "NotMoving") rfl)
  have n_Move_swings : NoAttr K ((GY K (He.ga K) (Tof K tf)).ca "Move") "swings" := He.noat_ok (c.t.d.fact 132 (f := .noat "Move" "swings") rfl)
  have o_Move_is_ready := ok_Move_is_ready (P := P) (w := w) (mg := mg) (base := base) (ca := He.ga K) (T := Tof K tf) F_Move_is_ready C_Move n_Move_swings n_Move_left
  have h_Move_is_ready : KnM P w K mg base (GY K (He.ga K) (Tof K tf)) 1 "Move" "is_ready" 2 m_Move_is_ready [] [] := knM_of F_Move_is_ready (He.cls_ok (c.t.d.fact 90 (f := .cls "Move") rfl)) (He.meth_ok (c.t.d.fact 133 (f := .meth "Move" "is_ready") rfl)) (F_Move_is_ready.bindsN (ps := ["self", "berth"]) fun _ _ _ _ _ _ us hl => match us, hl with | [_, _], _ => rfl) o_Move_is_ready
  have o_Body_ready := ok_Body_ready (P := P) (w := w) (mg := mg) (base := base) (ca := He.ga K) (T := Tof K tf) F_Body_ready B h_Body_need C_Table n_Table_move x_NotMoving n_Table_grip h_Move_is_ready
  have h_Body_ready : KnM P w K mg base (GY K (He.ga K) (Tof K tf)) 4 "Body" "ready" 2 m_Body_ready [] [] := knM_of F_Body_ready (He.cls_ok (c.t.d.fact 27 (f := .cls "Body") rfl)) (He.meth_ok (c.t.d.fact 134 (f := .meth "Body" "ready") rfl)) (F_Body_ready.bindsN (ps := ["self", "name"]) fun _ _ _ _ _ _ us hl => match us, hl with | [_, _], _ => rfl) o_Body_ready
  have x_NoBerth : KnX K mg (GY K (He.ga K) (Tof K tf)) "NoBerth" := knX_of X G (c.t.d.fact 135 (f := .glo "NoBerth") rfl) (c.t.d.fact 136 (f := .exc "NoBerth") rfl)
  have n_Move_springs : NoAttr K ((GY K (He.ga K) (Tof K tf)).ca "Move") "springs" := He.noat_ok (c.t.d.fact 137 (f := .noat "Move" "springs") rfl)
  have o_Table_berth_now := ok_Table_berth_now (P := P) (w := w) (mg := mg) (base := base) (ca := He.ga K) (T := Tof K tf) F_Table_berth_now C_Table n_Table_move h_Move_is_ready C_Move n_Move_springs n_Table_grip
  have h_Table_berth_now : KnM P w K mg base (GY K (He.ga K) (Tof K tf)) 2 "Table" "berth_now" 2 m_Table_berth_now [] [] := knM_of F_Table_berth_now (He.cls_ok (c.t.d.fact 70 (f := .cls "Table") rfl)) (He.meth_ok (c.t.d.fact 138 (f := .meth "Table" "berth_now") rfl)) (F_Table_berth_now.bindsN (ps := ["self", "berth"]) fun _ _ _ _ _ _ us hl => match us, hl with | [_, _], _ => rfl) o_Table_berth_now
  have o_Body_held := ok_Body_held (P := P) (w := w) (mg := mg) (base := base) (ca := He.ga K) (T := Tof K tf) F_Body_held B h_Body_need C_Table n_Table_grip x_NoBerth h_Table_berth_now
  have h_Body_held : KnM P w K mg base (GY K (He.ga K) (Tof K tf)) 4 "Body" "held" 3 m_Body_held [] [] := knM_of F_Body_held (He.cls_ok (c.t.d.fact 27 (f := .cls "Body") rfl)) (He.meth_ok (c.t.d.fact 139 (f := .meth "Body" "held") rfl)) (F_Body_held.bindsN (ps := ["self", "name", "berth"]) fun _ _ _ _ _ _ us hl => match us, hl with | [_, _, _], _ => rfl) o_Body_held
  have o__law_held_right := ok__law_held_right (P := P) (w := w) (mg := mg) (base := base) (ca := He.ga K) (T := Tof K tf) F__law_held_right B h__law_images h__law_swings h_Body_ready h__law_same h_Body_held
  have h__law_held_right : Kn P w K mg base (GY K (He.ga K) (Tof K tf)) 6 "_law_held_right" 2 m__law_held_right [] [] := kn_of F__law_held_right (He.glo_ok X G (c.t.d.fact 140 (f := .glo "_law_held_right") rfl)) (F__law_held_right.bindsN (ps := ["_law_body", "_law_m"]) fun _ _ _ _ _ _ us hl => match us, hl with | [_, _], _ => rfl) o__law_held_right
  have o_law := ok_law (P := P) (w := w) (mg := mg) (base := base) (ca := He.ga K) (T := Tof K tf) F_law B h__law_box h__law_wide h__law_model k_Body_2_banks h__law_take h__law_deep h__law_lay h_Body_lay h_Body_lay_t h__law_many h__law_homes h_Body_moving h_Body_rows h_Body_digits h__law_same h_Body_cells h_Body_berths h__law_stands h__law_held_right
  exact o_law
end K29
namespace K29
open PySem L2 Mm Fb Gf
theorem live_go {α : Type} {g : MG} {b : MS} {r : Nat} (ψ : α → D) (ws : List α) (I : Nat → Envr → Sto → Prop) (hI : ∀ i env S, I i env S → S[r]? = some (.lst (ws.map ψ))) (step : ∀ i w env S, ws[i]? = some w → I i env S → ∃ e1 e2 S2, g (ψ w) env = some e1 ∧ b e1 S = .nx e2 S2 ∧ I (i + 1) e2 S2) :
    ∀ (m i : Nat) (env : Envr) (S : Sto), i ≤ ws.length → ws.length - i < m → I i env S → ∃ e' S', forLive g b r m i env S = .nx e' S' ∧ I ws.length e' S'
  | 0, i, env, S, _, h, _ => absurd h (Nat.not_lt_zero _)
  | m + 1, i, env, S, hi, hm, h => by
    have hS := hI i env S h
    cases e : ws[i]? with
    | none =>
      have e' : (ws.map ψ)[i]? = none := by rw [List.getElem?_map, e]; rfl
      have : i = ws.length := by have := List.getElem?_eq_none_iff.mp e; omega
      subst this
      refine ⟨env, S, ?_, h⟩
      unfold forLive
      simp only [hS, e']
    | some w =>
      have li := (List.getElem?_eq_some_iff.mp e).1
      have e' : (ws.map ψ)[i]? = some (ψ w) := by rw [List.getElem?_map, e]; rfl
      obtain ⟨e1, e2, S2, h1, h2, h3⟩ := step i w env S e h
      obtain ⟨e3, S3, q, hq⟩ := live_go ψ ws I hI step m (i + 1) e2 S2 (by omega) (by omega) h3
      refine ⟨e3, S3, ?_, hq⟩
      unfold forLive
      simp only [hS, e', h1, h2]
      exact q
theorem newT_ok (S : Sto) {rs : List Nat} {w r : Nat} (h : FOk rs w) (hr : S[r]? = some (.lst (nl rs))) : popI "Fold" S (m_FoldU_initU_t [.ref S.length, .ref r, .int w] (S ++ [.ins "Fold" []])) = .ok (fold rs w) S := by
  have h1 := h.len
  have h2 := h.wide
  have lr := (List.getElem?_eq_some_iff.mp hr).1
  have hr2 : ∀ c : Cell, (S ++ [c])[r]? = some (.lst (nl rs)) := fun c => by rw [List.getElem?_append_left lr]; exact hr
  obtain ⟨e0, S0, go, s2, rfl, rfl⟩ := live_go (g := gN 3) (b := sIf (cOr (cB (eOp iLt (eV 3) (eC (.int 0)))) (cB (eOp iGt (eOp iShr (eV 3) (eV 2)) (eC (.int 0))))) (sRaise "BadFold") sNil) (r := r) nd rs (fun _ env T => ∃ s, env = [.v (.ref S.length), .v (.ref r), .v (nd w), s] ∧ T = S ++ [.ins "Fold" []]) (fun i env T hI => by
    obtain ⟨s, _, rfl⟩ := hI
    exact hr2 _) (fun i x env T hx hI => by
    obtain ⟨s, rfl, rfl⟩ := hI
    refine ⟨[.v (.ref S.length), .v (.ref r), .v (nd w), .v (nd x)], [.v (.ref S.length), .v (.ref r), .v (nd w), .v (nd x)], S ++ [.ins "Fold" []], rfl, ?_, .v (nd x), rfl, rfl⟩
    have lx := h.lt x (List.mem_of_getElem? hx)
    have n0 : ¬ ((x : Int) < 0) := by omega
    have e : ((x : Int) >>> w) = ((x >>> w : Nat) : Int) := rfl
    have e2 : (x : Int) >>> w = 0 := by
      rw [e, Nat.shiftRight_eq_div_pow, Nat.div_eq_of_lt lx]
      rfl
    simp [n0, e2]) 100001 0 [.v (.ref S.length), .v (.ref r), .v (nd w), .no] (S ++ [.ins "Fold" []]) (Nat.zero_le _) (by omega) ⟨.no, rfl, rfl⟩
  have go : forLive (gN 3) (sIf (cOr (cB (eOp iLt (eV 3) (eC (.int 0)))) (cB (eOp iGt (eOp iShr (eV 3) (eV 2)) (eC (.int 0))))) (sRaise "BadFold") sNil) r 100001 0 [.v (.ref S.length), .v (.ref r), .v (.int w), .no] (S ++ [.ins "Fold" []]) = .nx [.v (.ref S.length), .v (.ref r), .v (nd w), s2] (S ++ [.ins "Fold" []]) := go
  have n1 : ¬ ((w : Int) < 0) := by omega
  have n2 : ¬ ((12 : Int) < w) := by omega
  have n3 : ¬ ((12 : Int) < rs.length) := by omega
  have fl : fLen (S ++ [.ins "Fold" []]) [.ref r] = some (.int (rs.length : Int)) := by
    unfold fLen
    simp only [hr2, nl_len]
  have ft : ∀ c : Cell, fTupA (S ++ [c]) [.ref r] = some (.tup (nl rs)) := fun c => by
    unfold fTupA
    simp only [hr2]
  have run : m_FoldU_initU_t [.ref S.length, .ref r, .int w] (S ++ [.ins "Fold" []]) = .ok (.val .non) (S ++ [.ins "Fold" [("lines", .tup (nl rs)), ("wide", nd w)]]) := by
    simp [m_FoldU_initU_t, n1, n2, n3, fl]
    rw [go]
    simp [ft, set_last, putFD, show ¬ ("lines" : Str) = "wide" by decide]
  rw [run]
  have u : underF S.length [("lines", .tup (nl rs)), ("wide", nd w)] := by
    refine ⟨?_, ?_, trivial⟩
    · unfold D.under
      exact under_nl _ _
    · unfold D.under
      trivial
  unfold popI
  simp only [List.getLast?_append, List.getLast?_singleton, Option.some_or]
  rw [if_pos ⟨rfl, rfl, u⟩]
  rfl
theorem fThaw_e (m : MF) (env : Envr) (S : Sto) : fThaw m env S = (match m (env.map (thV S)) [] with
  | .ok (.lst ds) _ => if flatL ds then .ok (.lst ds) S else .stuck
  | _ => .stuck) := rfl
theorem thV_lst {S : Sto} {r : Nat} {ds : List D} (hr : S[r]? = some (.lst ds)) (hn : noRefL ds = true) : thV S (.v (.ref r)) = .v (.lst ds) := by
  have nr : noRef (.lst ds) = true := hn
  have : thD S (.ref r) = some (.lst ds) := by
    show thF S 3 r = _
    unfold thF
    rw [hr]
    show mapRef (thF S 2) (.lst ds) = _
    exact mapRef_no nr
  simp only [thV, this]
theorem thV_no {S : Sto} {d : D} (hn : noRef d = true) : thV S (.v d) = .v d := by
  have : thD S d = some d := mapRef_no hn
  simp only [thV, this]
theorem nr_nl : ∀ xs : List Nat, noRefL (nl xs) = true
  | [] => rfl
  | i :: xs => by
    show (noRef (nd i) && noRefL (nl xs)) = true
    rw [nr_nl xs]
    rfl
theorem nr_ints : ∀ c : List Int, noRefL (c.map D.int) = true
  | [] => rfl
  | i :: c => by
    show (noRef (.int i) && noRefL (c.map D.int)) = true
    rw [nr_ints c]
    rfl
theorem flat_bls : ∀ bs : List Bool, flatL (bs.map D.bl) = true
  | [] => rfl
  | b :: bs => by
    show (_ && flatL (bs.map D.bl)) = true
    rw [flat_bls bs]
    rfl
theorem putD_mem2 {ks : List (Key × D)} {k : Key} {d : D} {kv : Key × D} (h : kv ∈ putD ks k d) : kv.2 = d ∨ kv ∈ ks := by
  unfold putD at h
  split at h
  · obtain ⟨a, ha, rfl⟩ := List.mem_map.mp h
    split
    · exact .inl rfl
    · exact .inr ha
  · rcases List.mem_append.mp h with h | h
    · exact .inr h
    · rw [List.mem_singleton.mp h]
      exact .inl rfl
def HInv3 (A : List Nat) (ys : List Nat) (ks : List (Key × D)) : Prop := HInv A ys ks ∧ ∀ kv ∈ ks, noRef kv.2 = true
theorem homes_goN (A : List Nat) (S : Sto) (s0 : Sl) : ∀ (xs ys : List Nat) (ks : List (Key × D)) (s2 s3 : Sl), HInv3 A ys ks → ys.length + xs.length ≤ 5000 → ∃ ks' s2' s3',
    forL (gT (gNC (gN 2) (gNC (gN 3) gN0))) (sDPutA 1 (eV 3) (eOp dAdd (eDGet2A 1 (eV 3) (mFrz (fLst aNil))) (mFrz (fLst (aCons (eV 2) aNil))))) (xs.map fun x => .tup [nd x, nd (app A x)]) [s0, .o (.dic ks), s2, s3] S = .nx [s0, .o (.dic ks'), s2', s3'] S ∧ HInv3 A (ys ++ xs) ks'
  | [], ys, ks, s2, s3, h, _ => ⟨ks, s2, s3, rfl, by rwa [List.append_nil]⟩
  | x :: xs, ys, ks, s2, s3, h, hz => by
    have hz1 : ys.length + xs.length + 1 ≤ 5000 := by simpa [Nat.add_assoc] using hz
    have h2 : HInv3 A (ys ++ [x]) (putD ks (.inl (app A x : Int)) (.lst (nl (hmL A ys (app A x) ++ [x])))) := by
      refine ⟨⟨?_, fun c => ?_⟩, fun kv hkv => ?_⟩
      · have := putD_len ks (.inl (app A x : Int)) (.lst (nl (hmL A ys (app A x) ++ [x])))
        have := h.1.1
        rw [List.length_append, List.length_singleton]
        omega
      · rw [lookK_put, h.1.2 c, hm_snoc]
        by_cases e : app A x = c
        · subst e
          simp
        · have e2 : ¬ ((Sum.inl (c : Int) : Key) = .inl ((app A x : Nat) : Int)) := fun z => e (by have := Sum.inl.inj z; omega)
          rw [if_neg e2, if_neg e]
      · rcases putD_mem2 hkv with e | e
        · rw [e]
          exact nr_nl _
        · exact h.2 kv e
    obtain ⟨ks', s2', s3', e, i⟩ := homes_goN A S s0 xs (ys ++ [x]) _ (.v (nd x)) (.v (nd (app A x))) h2 (by simp; omega)
    refine ⟨ks', s2', s3', ?_, by rw [List.append_assoc] at i; exact i⟩
    rw [List.map_cons]
    unfold forL
    have z0 := szB_of (n := 0) (by omega)
    have z1 := szB_of (n := 1) (by omega)
    have zk := szB_of (n := ks.length + 1) (by have := h.1.1; omega)
    have zl := szB_of (n := (hmL A ys (app A x)).length + 1) (by have := hm_len A ys (app A x); omega)
    have g : (lookK ks (.inl ((app A x : Nat) : Int))).getD (.lst []) = .lst (nl (hmL A ys (app A x))) := by
      rw [h.1.2]
      by_cases q : hmL A ys (app A x) = []
      · rw [if_pos q, q]; rfl
      · rw [if_neg q]; rfl
    have ec : nl (hmL A ys (app A x)) ++ [D.int x] = nl (hmL A ys (app A x) ++ [x]) := by simp [nl]
    have e' : forL (gT (gNC (gN 2) (gNC (gN 3) gN0))) (sDPutA 1 (eV 3) (eOp dAdd (eDGet2A 1 (eV 3) (mFrz (fLst aNil))) (mFrz (fLst (aCons (eV 2) aNil))))) (xs.map fun x => .tup [nd x, nd (app A x)]) [s0, .o (.dic (putD ks (.inl (app A x : Int)) (.lst (nl (hmL A ys (app A x)) ++ [.int x])))), .v (nd x), .v (nd (app A x))] S = .nx [s0, .o (.dic ks'), s2', s3'] S := by
      rw [ec]
      exact e
    generalize hmL A ys (app A x) = HH at *
    simp [z0, z1, zk, g, zl, e']
theorem nrK_of : ∀ ks : List (Key × D), (∀ kv ∈ ks, noRef kv.2 = true) → noRefK ks = true
  | [], _ => rfl
  | (k, d) :: ks, h => by
    show (noRef d && noRefK ks) = true
    rw [h _ List.mem_cons_self, nrK_of ks fun kv hkv => h kv (List.mem_cons_of_mem _ hkv)]
    rfl
theorem homesN_ok (S : Sto) {A : List Nat} (hA : A.length ≤ 12) : ∃ ks, m__law_homes [.tup (nl A)] S = .ok (.own (.dic ks)) S ∧ noRefK ks = true ∧ ∀ c, Sp A c → lookK ks (.inl (c : Int)) = some (.lst (nl (hmL A (List.range (2 ^ A.length)) c))) := by
  have p12 := pow_le (n := 12) hA
  have e12 : (2 : Nat) ^ 12 = 4096 := by decide
  obtain ⟨ks, s2, s3, e, i⟩ := homes_goN A S (.v (.tup (nl A))) (List.range (2 ^ A.length)) [] [] .no .no ⟨⟨Nat.le_refl _, fun c => rfl⟩, fun kv h => by cases h⟩ (by simp; omega)
  have im := images_ok S A (by omega) (.tup (nl A)) (.inl rfl)
  have es := enum_spl A
  rw [List.nil_append] at i
  refine ⟨ks, ?_, nrK_of ks i.2, fun c hc => ?_⟩
  · unfold m__law_homes
    simp [im, es, e]
  · obtain ⟨ks2, h1, h2⟩ := homes_ok S (A := A) hA
    have : m__law_homes [.tup (nl A)] S = .ok (.own (.dic ks)) S := by
      unfold m__law_homes
      simp [im, es, e]
    rw [this] at h1
    have : ks = ks2 := by
      injection h1 with h1
      injection h1 with h1
      injection h1
    rw [this]
    exact h2 c hc
section
variable {S : Sto} {n b l k : Nat} {ts ss : List (Key × D)} {p q : Int}
theorem needT_ok (h : Bd S n b l k ts ss p q) {A : List Nat} {v r : Nat} (hA : Lin (b + l) v A) (hd : b + l ≤ 12) (hv : v ≤ 12) (hr : S[r]? = some (.lst (nl A))) : m_Body_need_spread_t [.ref n, .ref r, .int v] S = .ok (.val (fold A v)) S := by
  have i := h.ins
  have F : FOk A v := ⟨by rw [hA.len]; exact hd, hv, hA.lt⟩
  have hl := hA.len
  have nw := newT_ok S F hr
  have on := onto_ok S F
  have on2 : (bas A).length = v := (bas_rr A).full (fun b hb => (bas_sp A b |>.mp (.mem hb)).lt hA.lt) fun x hx => (bas_sp A x).mpr (hA.all x hx)
  have le : (A.length : Int) = (b : Int) + l := by omega
  have fl : fLen S [.ref r] = some (.int (A.length : Int)) := by
    unfold fLen
    simp only [hr, nl_len]
  have tv := thV_lst hr (nr_nl A)
  have lc : fLc (itL (eV 1)) (gN 4) cYes (eOr (eOp iLt (eV 4) (eC (.int 0))) (eOp iGt (eOp iShr (eV 4) (eV 2)) (eC (.int 0)))) [4] [thV S (.v (.ref n)), .v (.lst (nl A)), .v (.int v), .no, .no] [] = .ok (.lst ((A.map fun _ => false).map D.bl)) [] := by
    rw [List.map_map]
    generalize thV S (.v (.ref n)) = sv
    refine flc_of nd (fun _ => .bl false) A (by simp [nl]) (by have := F.len; omega) fun y hy => ?_
    have n0 : ¬ ((y : Int) < 0) := by omega
    have e : ((y : Int) >>> v) = 0 := by
      have e : ((y : Int) >>> v) = ((y >>> v : Nat) : Int) := rfl
      rw [e, Nat.shiftRight_eq_div_pow, Nat.div_eq_of_lt (hA.lt y hy)]
      rfl
    simp [n0, e]
  have lt : fThaw (fLc (itL (eV 1)) (gN 4) cYes (eOr (eOp iLt (eV 4) (eC (.int 0))) (eOp iGt (eOp iShr (eV 4) (eV 2)) (eC (.int 0)))) [4]) [.v (.ref n), .v (.ref r), .v (.int v), .no, .no] S = .ok (.lst ((A.map fun _ => false).map D.bl)) S := by
    rw [fThaw_e]
    show (match fLc _ _ _ _ _ [thV S (.v (.ref n)), thV S (.v (.ref r)), thV S (.v (.int v)), thV S .no, thV S .no] [] with
      | .ok (.lst ds) _ => if flatL ds then Mm.R.ok (Cell.lst ds) S else .stuck
      | _ => .stuck) = _
    rw [tv, thV_no (d := .int v) rfl]
    show (match fLc _ _ _ _ _ [thV S (.v (.ref n)), .v (.lst (nl A)), .v (.int v), .no, .no] [] with
      | .ok (.lst ds) _ => if flatL ds then Mm.R.ok (Cell.lst ds) S else .stuck
      | _ => .stuck) = _
    rw [lc]
    simp only [flat_bls, if_true]
  have an : (A.map fun _ => false).any id = false := by simp
  have fa := fAny_eq S (A.map fun _ => false)
  rw [an] at fa
  unfold m_Body_need_spread_t
  generalize fThaw (fLc (itL (eV 1)) (gN 4) cYes (eOr (eOp iLt (eV 4) (eC (.int 0))) (eOp iGt (eOp iShr (eV 4) (eV 2)) (eC (.int 0)))) [4]) = TL at *
  simp [i, le, lt, fl, fa, Cell.d, -List.map_map]
  rw [nw]
  simp [on, on2]
theorem layT_ok (h : Bd S n b l k ts ss p q) {x : Str} (hx : nameB x = true) (hn : lookK ts (.inr x) = none) (hl : ts.length < 6) {A : List Nat} {v : Nat} (hA : Lin (b + l) v A) (hd : b + l ≤ 12) (hv : v ≤ b + l) {cs : List Int} (hc : cs.length = 2 ^ v) (hz : ∀ z ∈ cs, z.natAbs ≤ 1000000000)
    {ra rc : Nat} (ha : S[ra]? = some (.lst (nl A))) (ec : S[rc]? = some (.lst (cs.map D.int))) : m_Body_lay_t [.ref n, .str x, .ref ra, .ref rc] S = .ok (.val .non) (S.set (n + 1) (.dic (putD ts (.inr x) (tab A v cs)))) := by
  have i := h.ins
  have t := h.at1
  have N := need_new_ok h hx hn hl
  have F : FOk A v := ⟨by rw [hA.len]; exact hd, by omega, hA.lt⟩
  have G := digits_ok S (v := v) (most := b + l) hv (by omega) (cs.length : Int) (by rw [hc]) ((b : Int) + l) (by omega)
  have P := needT_ok h hA hd (by omega) ha
  have L := laid_ok S F hc (.lst (cs.map D.int)) (.inl rfl)
  have p12 : 2 ^ v ≤ 2 ^ 12 := Nat.pow_le_pow_right (by decide) (by omega)
  have tva := thV_lst ha (nr_nl A)
  have tvc := thV_lst ec (nr_ints cs)
  have lc : fLc (itL (eV 3)) (gN 5) cYes (eOr (eOp iLt (eV 5) (eUn fNeg (eC (.int 1000000000)))) (eOp iGt (eV 5) (eC (.int 1000000000)))) [5] [thV S (.v (.ref n)), .v (.str x), .v (.lst (nl A)), .v (.lst (cs.map D.int)), .v (nd v), .no] [] = .ok (.lst ((cs.map fun _ => false).map D.bl)) [] := by
    rw [List.map_map]
    generalize thV S (.v (.ref n)) = sv
    refine flc_of D.int (fun _ => .bl false) cs (by simp) (by rw [hc]; exact Nat.le_trans p12 (by decide)) fun y hy => ?_
    have := hz y hy
    have n0 : ¬ (y < -1000000000) := by omega
    have n1 : ¬ (1000000000 < y) := by omega
    simp [n0, n1]
  have lt : fThaw (fLc (itL (eV 3)) (gN 5) cYes (eOr (eOp iLt (eV 5) (eUn fNeg (eC (.int 1000000000)))) (eOp iGt (eV 5) (eC (.int 1000000000)))) [5]) [.v (.ref n), .v (.str x), .v (.ref ra), .v (.ref rc), .v (nd v), .no] S = .ok (.lst ((cs.map fun _ => false).map D.bl)) S := by
    rw [fThaw_e]
    show (match fLc _ _ _ _ _ [thV S (.v (.ref n)), thV S (.v (.str x)), thV S (.v (.ref ra)), thV S (.v (.ref rc)), thV S (.v (nd v)), thV S .no] [] with
      | .ok (.lst ds) _ => if flatL ds then Mm.R.ok (Cell.lst ds) S else .stuck
      | _ => .stuck) = _
    rw [tva, tvc, thV_no (d := .str x) rfl, thV_no (d := nd v) rfl]
    show (match fLc _ _ _ _ _ [thV S (.v (.ref n)), .v (.str x), .v (.lst (nl A)), .v (.lst (cs.map D.int)), .v (nd v), .no] [] with
      | .ok (.lst ds) _ => if flatL ds then Mm.R.ok (Cell.lst ds) S else .stuck
      | _ => .stuck) = _
    rw [lc]
    simp only [flat_bls, if_true]
  have an : (cs.map fun _ => false).any id = false := by simp
  have fa := fAny_eq S (cs.map fun _ => false)
  rw [an] at fa
  have sz := szB_of (n := ts.length + 1) (by omega)
  have len : fLen S [.ref rc] = some (.int cs.length) := by
    unfold fLen
    simp only [ec, List.length_map]
  have lo : fListOf S [.ref rc] = some (.lst (cs.map D.int)) := by
    unfold fListOf
    simp only [ec]
  unfold m_Body_lay_t
  generalize fThaw (fLc (itL (eV 3)) (gN 5) cYes (eOr (eOp iLt (eV 5) (eUn fNeg (eC (.int 1000000000)))) (eOp iGt (eV 5) (eC (.int 1000000000)))) [5]) = TL at *
  simp [i, N, len, G, lt, fa, P, lo, L, t, sz, Cell.d, -List.map_map]
end
end K29
namespace Fb
open PySem L2 Mm Gf
abbrev Fr := List (Str × Nat)
def bts : Fr → List Str → Nat
  | [], _ => 0
  | p :: F, s => if p.1 ∈ s then p.2 + bts F s else bts F s
def wix (A : Str → Nat) : Fr → List Str → Nat
  | [], _ => 0
  | p :: F, s => if p.1 ∈ s then A p.1 + 2 ^ p.2 * wix A F s else wix A F s
def cutL (s t : List Str) : Fr → Nat → List Nat
  | [], _ => []
  | p :: F, k => if p.1 ∈ s then (if p.1 ∈ t then (List.range p.2).map (fun i => 2 ^ (k + i)) ++ cutL s t F (k + p.2) else List.replicate p.2 0 ++ cutL s t F k) else cutL s t F k
def ordF (F : Fr) (s : List Str) : List Str := (nms F).filter fun x => decide (x ∈ s)
end Fb
namespace Fb
open PySem L2 Mm Gf
inductive Tr where
  | nm (x : Str)
  | sm (x : Str) (t : Tr)
  | bi (k : Str) (a b : Tr)
def Tr.d : Tr → D
  | .nm x => .tup [.str "name", .str x]
  | .sm x t => .tup [.str "sum", .str x, t.d]
  | .bi k a b => .tup [.str k, a.d, b.d]
def sid (F : Fr) (sd : Str → List Str) : Tr → List Str
  | .nm x => ordF F (sd x)
  | .sm x t => (sid F sd t).filter fun y => decide (y ≠ x)
  | .bi _ a b => ordF F (sid F sd a ++ sid F sd b)
def cel (F : Fr) (sd : Str → List Str) (cs : Str → List Int) : Tr → List Int
  | .nm x => cs x
  | .sm x t => totC (cutL (sid F sd t) (sid F sd (.sm x t)) F 0) (bts F (sid F sd t)) (bts F (sid F sd (.sm x t))) (cel F sd cs t)
  | .bi k a b => (List.range (2 ^ bts F (sid F sd (.bi k a b)))).map fun c => mixI k ((cel F sd cs a).getD (app (cutL (sid F sd (.bi k a b)) (sid F sd a) F 0) c) 0) ((cel F sd cs b).getD (app (cutL (sid F sd (.bi k a b)) (sid F sd b) F 0) c) 0)
def upd (A : Str → Nat) (x : Str) (k : Nat) : Str → Nat := fun y => if y = x then k else A y
def ev (F : Fr) (sd : Str → List Str) (cs : Str → List Int) : Tr → (Str → Nat) → Int
  | .nm x, A => (cs x).getD (wix A F (sd x)) 0
  | .sm x t, A => sm (2 ^ bts F [x]) (fun _ => true) fun k => ev F sd cs t (upd A x k)
  | .bi k a b, A => mixI k (ev F sd cs a A) (ev F sd cs b A)
end Fb
namespace Fb
open PySem L2 Mm Gf
def er (F : Fr) (sd : Str → List Str) (K : List Str) : Tr → Option (Bool × Str)
  | .nm x => if x ∈ K then none else some (false, x)
  | .sm x t => match er F sd K t with
    | some e => some e
    | none => if x ∈ sid F sd t then none else some (true, x)
  | .bi _ a b => match er F sd K a with
    | some e => some e
    | none => er F sd K b
end Fb
namespace Fb
open PySem L2 Mm Gf
abbrev SG : List (Str × Str) := [("+", "plus"), ("-", "less"), ("<", "least"), (">", "most")]
end Fb
namespace Fb
open PySem L2 Mm Gf
def sgnOf (w : Str) : Str := if w = "plus" then "+" else if w = "less" then "-" else if w = "least" then "<" else ">"
def isAt : Tr → Bool
  | .bi _ _ _ => false
  | _ => true
def brk (t : Tr) (z : Str) : Str := if isAt t = true then z else "(" ++ z ++ ")"
end Fb
namespace Fb
open PySem L2 Mm Gf
def opw (W : List Str) : Nat := (W.filter fun x => decide (x = ("(" : Str))).length
def brkW (t : Tr) (W : List Str) : List Str := if isAt t = true then W else ("(" : Str) :: (W ++ [(")" : Str)])
def wdT : Tr → List Str
  | .nm x => [x]
  | .sm x t => brkW t (wdT t) ++ [("/" : Str), x]
  | .bi w a b => wdT a ++ sgnOf w :: brkW b (wdT b)
end Fb
namespace Fb
open PySem L2 Mm Gf
def isM (x : Str) : Bool := decide (x = "/") || (SG.lookup x).isSome
def ms (r : List Tok) : Nat := (r.filter fun t => isM t.1).length
def pw (t : Tr) : Nat := opw (brkW t (wdT t))
end Fb
namespace Fb
open PySem L2 Mm Gf
structure We where
  F : Fr
  m : Nat
  l : Nat
  of : List (List Nat)
  K : List Str
  sd : Str → List Str
  ln : Str → List Nat
  cs : Str → List Int
def oF (W : We) (s : Nat) : List Nat := W.of.getD s []
def lyF (W : We) (s : Nat) (ys : List Str) : List Nat := (oF W s).map (app (cutL (nms W.F) ys W.F 0))
end Fb
namespace Fb
open PySem L2 Mm Gf
@[simp] theorem eLockD_eq (md m : ME) (env : Envr) (S : Sto) : eLockD md m env S = (match md env S with
  | .ok (.ref n) _ => (match S[n]? with
    | some (.dic ks) => unlkE n (m (wipeE env []) (S.set n (.lck ks)))
    | _ => .stuck)
  | _ => .stuck) := rfl
@[simp] theorem itItems_eq (md : ME) (env : Envr) (S : Sto) : itItems md env S = (md env S).bind fun d S1 => match d with
  | .ref n => (match S1[n]? with
    | some (.lck ks) => .ok (ks.map fun p => .tup [keyV p.1, p.2]) S1
    | _ => .stuck)
  | _ => .stuck := rfl
end Fb
namespace Fb
open PySem L2 Mm Gf
@[simp] theorem fThaw_eq (m : MF) (env : Envr) (S : Sto) : fThaw m env S = (match m (env.map (thV S)) [] with
  | .ok (.lst ds) _ => if flatL ds then .ok (.lst ds) S else .stuck
  | _ => .stuck) := rfl
end Fb
namespace Fb
open PySem L2 Mm Gf
def lay (d : Nat) (C : List Int) (M : List Nat) : List Int := (List.range (2 ^ d)).map fun k => C.getD (app M k) 0
end Fb
namespace Fb
open PySem L2 Mm Gf
def gr (W : We) (s : Nat) (t : Tr) : List Int := lay (W.m + W.l) (cel W.F W.sd W.cs t) (lyF W s (sid W.F W.sd t))
end Fb
namespace Fb
open PySem L2 Mm Gf
section
variable {S : Sto}
def cutV (s : List Str) : Fr → Nat → Nat
  | [], _ => 0
  | p :: F, c => if p.1 ∈ s then c % 2 ^ p.2 + 2 ^ p.2 * cutV s F (c / 2 ^ p.2) else cutV s F (c / 2 ^ p.2)
end
end Fb
namespace Fb
open PySem L2 Mm Gf
theorem lg_pow {k : Nat} (h : k ≤ 39) : lg (2 ^ k) = k := by
  have up : ∀ n j, j ≤ k → k - j ≤ n → lgF n j (2 ^ k) = k := fun n => by
    induction n with
    | zero =>
      intro j h1 h2
      unfold lgF
      omega
    | succ n ih =>
      intro j h1 h2
      unfold lgF
      by_cases e : j = k
      · rw [e, if_neg (Nat.lt_irrefl _)]
      · rw [if_pos (Nat.pow_lt_pow_right (by decide) (by omega))]
        exact ih (j + 1) (by omega) (by omega)
  exact up 40 0 (by omega) (by omega)
end Fb
namespace K29
open PySem L2 Mm Fb Gf
theorem seqn {m n : MS} {e e1 : Envr} {S S1 : Sto} (h : m e S = .nx e1 S1) : sSeq m n e S = n e1 S1 := by
  rw [sSeq_eq, h]
noncomputable def xk0 : MS := sCell 1 (fCall m__law_box [] (aCons (eV 0) aNil))
noncomputable def xk1 : MS := sCell 2 (fCall m__law_model [] (aCons (eCall m__law_wide [] (aCons (eV 1) aNil)) aNil))
noncomputable def xk2 : MS := sAsg (eNewC "Body" m_BodyU_initU [] (aCat (aCons (eOp fIx (eDGetA 2 (eC (.str "wide"))) (eC (.int 0))) (aCons (eOp fIx (eDGetA 2 (eC (.str "wide"))) (eC (.int 1))) aNil)) (aCons (eOp fIx (eDGetA 2 (eC (.str "wide"))) (eC (.int 2))) aNil))) (gN 3)
noncomputable def xk3 : MS := sAsg (eCall m__law_lay [] (aCons (eV 1) (aCons (eCall m__law_deep [] (aCons (eV 2) aNil)) aNil))) (gT (gNC (gN 5) (gNC (gN 6) (gNC (gN 7) (gNC (gN 8) gN0)))))
noncomputable def xk4 : MS := sAsg (mFrz (fLst (aCons (eCellOf (fCB fListOf (aCons (eV 7) aNil))) (aCons (eCellOf (fCB fListOf (aCons (eV 8) aNil))) aNil)))) (gN 9)
noncomputable def xk5 : MS := sAsg (eIf (cB (eOp fEq (eCall m__law_take [] (aCons (eV 1) (aCons (eC (.int 2)) aNil))) (eC (.int 0)))) (eMeth "Body" "lay" m_Body_lay_t [] (eV 3) (aCons (eV 6) (aCons (eOp fIx (eV 9) (eC (.int 0))) (aCons (eOp fIx (eV 9) (eC (.int 1))) aNil)))) (eMeth "Body" "lay" m_Body_lay [] (eV 3) (aCons (eV 6) (aCons (eV 7) (aCons (eV 8) aNil))))) (gN 10)
noncomputable def xk6 : MS := sClrE (eOp fIx (eV 9) (eC (.int 0)))
noncomputable def xk7 : MS := sClrE (eOp fIx (eV 9) (eC (.int 1)))
noncomputable def xk8 : MS := sDPut (eDGetA 2 (eC (.str "tables"))) (eV 6) (eTup (aCons (eV 7) (aCons (mFrz (fCB fListOf (aCons (eV 8) aNil))) (aCons (eC .non) aNil))))
noncomputable def xk9 : MS := sIf (cB (eOp fIsNot (eV 10) (eC .non))) (sRet (eC (.bl false))) sNil
noncomputable def xr10 : MS := sSeq xk8 xk9
noncomputable def xr11 : MS := sSeq xk7 xr10
noncomputable def xr12 : MS := sSeq xk6 xr11
noncomputable def xr13 : MS := sSeq xk5 xr12
noncomputable def xr14 : MS := sSeq xk4 xr13
noncomputable def xk15 : MS := sIf (cB (eDIn true (eV 6) (eDGetA 2 (eC (.str "tables"))))) xr14 sNil
noncomputable def xr16 : MS := sSeq xk3 xk15
noncomputable def xk17 : MS := sFor (itR1 (aCons (eOp dAdd (eC (.int 1)) (eCall m__law_take [] (aCons (eV 1) (aCons (eC (.int 4)) aNil)))) aNil)) (gN 4) xr16
noncomputable def y1 : MS := sAsg (eDGet (eDGetA 2 (eC (.str "tables"))) (eV 6)) (gT (gNC (gN 7) (gNC (gN 8) (gNC (gN 11) gN0))))
noncomputable def y2 : MS := sAsg (eCall m__law_many [] (aCons (eCB fLen (aCons (eV 8) aNil)) aNil)) (gN 12)
noncomputable def y3 : MS := sAsg (eCall m__law_homes [] (aCons (eV 7) aNil)) (gN 13)
noncomputable def y4 : MS := sIf (cNot (cB (eCall (m__law_same 4) [] (aCons (mFrz (fLst (aCons (eMeth "Body" "digits" m_Body_digits [] (eV 3) (aCons (eV 6) aNil)) (aCons (eMeth "Body" "rows" m_Body_rows [] (eV 3) (aCons (eV 6) aNil)) (aCons (eMeth "Body" "moving" m_Body_moving [] (eV 3) (aCons (eV 6) aNil)) aNil))))) (aCons (mFrz (fLst (aCons (eV 12) (aCons (eV 7) (aCons (eC .non) aNil))))) aNil))))) (sRet (eC (.bl false))) sNil
noncomputable def y5 : MS := sOwn 15 (fMeth "Body" "cells" m_Body_cells [] (eV 3) (aCons (eV 6) aNil))
noncomputable def y6 : MS := sIf (cLend [15] (cNot (cB (eCall (m__law_same 4) [] (aCons (eV 15) (aCons (eV 8) aNil)))))) (sRet (eC (.bl false))) sNil
noncomputable def y7 : MS := sClr 15
noncomputable def y8a : MS := sOwn 15 (fMeth "Body" "berths" m_Body_berths [] (eV 3) (aCons (eV 6) (aCons (eV 16) aNil)))
noncomputable def y8b : MS := sIf (cLend [15] (cNot (cB (eCall (m__law_same 4) [] (aCons (eV 15) (aCons (eDGetA 13 (eV 16)) aNil)))))) (sRet (eC (.bl false))) sNil
noncomputable def y8c : MS := sApp 15 (eC (.int 0))
noncomputable def y8B : MS := sSeq y8a (sSeq y8b y8c)
noncomputable def y8 : MS := sFor (itR1 (aCons (eOp iShl (eC (.int 1)) (eV 12)) aNil)) (gN 16) y8B
noncomputable def yI : MS := sSeq y4 (sSeq y5 (sSeq y6 (sSeq y7 y8)))
noncomputable def y9 : MS := sFor (itR1 (aCons (eC (.int 2)) aNil)) (gN 14) yI
noncomputable def yB : MS := sSeq y1 (sSeq y2 (sSeq y3 y9))
noncomputable def xk18 : MS := sForD (eDGetA 2 (eC (.str "tables"))) (gN 6) yB
noncomputable def xk19 : MS := sRet (eAnd (eCall m__law_stands [] (aCons (eV 3) (aCons (eV 2) aNil))) (eCall m__law_held_right [] (aCons (eV 3) (aCons (eV 2) aNil))))
noncomputable def xr20 : MS := sSeq xk18 xk19
noncomputable def xr21 : MS := sSeq xk17 xr20
noncomputable def xr22 : MS := sSeq xk2 xr21
noncomputable def xr23 : MS := sSeq xk1 xr22
noncomputable def xr24 : MS := sSeq xk0 xr23
theorem m_law_eq : m_law = mFn 17 xr24 := rfl
theorem sClrE_e (mo : ME) (env : Envr) (S : Sto) : sClrE mo env S = (mo env S).out env fun d0 S0 => (match d0 with
  | .ref n => (match S0[n]? with
    | some (.lst _) => .nx env (S0.set n (.lst []))
    | _ => .stuck)
  | _ => .stuck) := rfl
abbrev E (ns : List Int) (s4 s5 s6 s7 s8 s9 s10 s11 s12 s13 s14 s15 s16 : Sl) : Envr := [.v (.scr ns), .v (.ref 0), .v (.ref 3), .v (.ref 4), s4, s5, s6, s7, s8, s9, s10, s11, s12, s13, s14, s15, s16]
theorem lend_at (d : D) (h : noRef d = true) : some (lendV (.v d)) = some (.v d) := by
  show some (if noRef d = true then Sl.v d else .no) = _
  rw [if_pos h]
theorem round_ok (ns : List Int) {S : Sto} {x y z : Nat} {T : List E4} (w : Ws S 4 3 1 2 x y z T 0 0) (hl : T.length < 6) (s4 s5 s6 s7 s8 s9 s10 s11 s12 s13 s14 s15 s16 : Sl) :
    ∃ (S' : Sto) (T' : List E4) (t5 t6 t7 t8 t9 t10 : Sl), xr16 (E ns s4 s5 s6 s7 s8 s9 s10 s11 s12 s13 s14 s15 s16) S = .nx (E ns s4 t5 t6 t7 t8 t9 t10 s11 s12 s13 s14 s15 s16) S' ∧ Ws S' 4 3 1 2 x y z T' 0 0 ∧ T'.length ≤ T.length + 1 := by
  obtain ⟨b2, R2, rfl, hb2⟩ := w.bx
  have hx := w.hx
  have hy := w.hy
  have dM := deepM_ok w.ml
  obtain ⟨b3, nm, B, v, cs, ld, hb3, hnm, hB, hv, hcs, hz⟩ := lay_draw (R := R2) hb2 (d := x + y) (by omega) ((x : Int) + y) (by omega)
  have w3 := w.head hb3
  have a0 := w3.ml.at0
  have a1 := w3.ml.at1
  have c3 : xk3 (E ns s4 s5 s6 s7 s8 s9 s10 s11 s12 s13 s14 s15 s16) (b2 :: R2) = .nx (E ns s4 (.v (.str "lay")) (.v (.str nm)) (.v (.tup (nl B))) (.v (.tup (cs.map D.int))) s9 s10 s11 s12 s13 s14 s15 s16) (b3 :: R2) := by
    simp [xk3, dM, ld]
  by_cases hin : nm ∈ T.map (·.name)
  · obtain ⟨e, he, en⟩ := List.mem_map.mp hin
    have lk := lookK_at (f := mTb) he w.ok.nod
    rw [en] at lk
    refine ⟨b3 :: R2, T, .v (.str "lay"), .v (.str nm), .v (.tup (nl B)), .v (.tup (cs.map D.int)), s9, s10, ?_, w3, by omega⟩
    unfold xr16
    rw [seqn c3]
    simp [xk15, a0, a1, hasA, dicA, keyD, lk]
  · have lkM := lookK_no (f := mTb) hin
    have lkB := lookK_no (f := fun e => tab e.A e.v e.cs) hin
    have c15 : cB (eDIn true (eV 6) (eDGetA 2 (eC (.str "tables")))) (E ns s4 (.v (.str "lay")) (.v (.str nm)) (.v (.tup (nl B))) (.v (.tup (cs.map D.int))) s9 s10 s11 s12 s13 s14 s15 s16) (b3 :: R2) = .ok true (b3 :: R2) := by
      simp [a0, a1, hasA, dicA, keyD, lkM]
    -- handed lists
    have lb : (b3 :: R2).length = R2.length + 1 := rfl
    have l7 : 6 < (b3 :: R2).length := w3.bd.lt
    have z2 := szB_of (n := 2) (by omega)
    have c4 : xk4 (E ns s4 (.v (.str "lay")) (.v (.str nm)) (.v (.tup (nl B))) (.v (.tup (cs.map D.int))) s9 s10 s11 s12 s13 s14 s15 s16) (b3 :: R2) = .nx (E ns s4 (.v (.str "lay")) (.v (.str nm)) (.v (.tup (nl B))) (.v (.tup (cs.map D.int))) (.v (.lst [.ref (R2.length + 1), .ref (R2.length + 2)])) s10 s11 s12 s13 s14 s15 s16) (b3 :: (R2 ++ [.lst (nl B), .lst (cs.map D.int)])) := by
      simp [xk4, z2, Cell.d]
    obtain ⟨b4, u, t1, hb4, lu⟩ := takeKR (R := R2 ++ [.lst (nl B), .lst (cs.map D.int)]) hb3 2 2 rfl (by decide) (by decide)
    have w4 : Ws (b4 :: (R2 ++ [.lst (nl B), .lst (cs.map D.int)])) 4 3 1 2 x y z T 0 0 := (w3.app [.lst (nl B), .lst (cs.map D.int)]).head hb4
    have g1 : (b4 :: (R2 ++ [Cell.lst (nl B), .lst (cs.map D.int)]))[R2.length + 1]? = some (.lst (nl B)) := by simp
    have g2 : (b4 :: (R2 ++ [Cell.lst (nl B), .lst (cs.map D.int)]))[R2.length + 2]? = some (.lst (cs.map D.int)) := by
      rw [List.getElem?_cons_succ, List.getElem?_append_right (by omega)]
      have : R2.length + 1 - R2.length = 1 := by omega
      rw [this]
      rfl
    have zc : ∀ c ∈ cs, c.natAbs ≤ 1000000000 := fun c hc => Nat.le_trans (hz c hc) (by decide)
    have layV := lay_ok w4.bd (names8_nameB nm hnm).1 lkB (by rw [kTs_len]; omega) hB (by omega) hv hcs zc (.tup (nl B)) (.inl rfl) (.tup (cs.map D.int)) (.inr rfl)
    have layR := layT_ok w4.bd (names8_nameB nm hnm).1 lkB (by rw [kTs_len]; omega) hB (by omega) hv hcs zc g1 g2
    have eB := putD_new (f := fun e : E4 => tab e.A e.v e.cs) (T := T) (e := ⟨nm, B, v, cs⟩) hin
    have eM := putD_new (f := mTb) (T := T) (e := ⟨nm, B, v, cs⟩) hin
    rw [eB] at layV layR
    have w5 := w4.lay (e := ⟨nm, B, v, cs⟩) ⟨(names8_nameB nm hnm).2, hB, hv, hcs⟩ hin (by omega)
    have eM' : putD (mTs T) (.inr nm) (.tup [.tup (nl B), .lst (cs.map D.int), .non]) = mTs (T ++ [⟨nm, B, v, cs⟩]) := eM
    have off1 : Off (R2.length + 1) 4 3 1 2 := by
      unfold Off
      simp only [List.mem_cons, List.not_mem_nil, or_false, not_or]
      rw [lb] at l7
      omega
    have off2 : Off (R2.length + 2) 4 3 1 2 := by
      unfold Off
      simp only [List.mem_cons, List.not_mem_nil, or_false, not_or]
      rw [lb] at l7
      omega
    have w6 := (w5.setC off1 (.lst [])).setC off2 (.lst [])
    have ib := w4.bd.ins
    have m0 := w4.ml.at0
    have m1 := w4.ml.at1
    rw [lb] at l7
    generalize hS4 : b4 :: (R2 ++ [Cell.lst (nl B), .lst (cs.map D.int)]) = S4 at *
    generalize hBT : Cell.dic (bTs (T ++ [⟨nm, B, v, cs⟩])) = BT at *
    have c5 : xk5 (E ns s4 (.v (.str "lay")) (.v (.str nm)) (.v (.tup (nl B))) (.v (.tup (cs.map D.int))) (.v (.lst [.ref (R2.length + 1), .ref (R2.length + 2)])) s10 s11 s12 s13 s14 s15 s16) (b3 :: (R2 ++ [.lst (nl B), .lst (cs.map D.int)])) = .nx (E ns s4 (.v (.str "lay")) (.v (.str nm)) (.v (.tup (nl B))) (.v (.tup (cs.map D.int))) (.v (.lst [.ref (R2.length + 1), .ref (R2.length + 2)])) (.v .non) s11 s12 s13 s14 s15 s16) (S4.set 5 BT) := by
      have layV : m_Body_lay [.ref 4, .str nm, .tup (nl B), .tup (cs.map D.int)] S4 = .ok (.val .non) (S4.set 5 BT) := layV
      have layR : m_Body_lay_t [.ref 4, .str nm, .ref (R2.length + 1), .ref (R2.length + 2)] S4 = .ok (.val .non) (S4.set 5 BT) := layR
      generalize hq1 : R2.length + 1 = q1 at *
      generalize hq2 : R2.length + 2 = q2 at *
      generalize hS3 : b3 :: (R2 ++ [Cell.lst (nl B), .lst (cs.map D.int)]) = S3 at *
      generalize S4.set 5 BT = S5 at *
      generalize D.tup (nl B) = BD at *
      generalize D.tup (cs.map D.int) = CD at *
      by_cases hu : u = 0
      · subst hu
        simp [xk5, t1, ib, layR]
      · simp [xk5, t1, hu, ib, layV]
    have g3 : (S4.set 5 BT)[R2.length + 1]? = some (.lst (nl B)) := by
      rw [List.getElem?_set_ne (by omega)]
      exact g1
    have g4 : ((S4.set 5 BT).set (R2.length + 1) (.lst []))[R2.length + 2]? = some (.lst (cs.map D.int)) := by
      rw [List.getElem?_set_ne (by omega), List.getElem?_set_ne (by omega)]
      exact g2
    have ix1 : ∀ (s10 : Sl) (X : Sto), eOp fIx (eV 9) (eC (.int 0)) (E ns s4 (.v (.str "lay")) (.v (.str nm)) (.v (.tup (nl B))) (.v (.tup (cs.map D.int))) (.v (.lst [.ref (R2.length + 1), .ref (R2.length + 2)])) s10 s11 s12 s13 s14 s15 s16) X = .ok (.ref (R2.length + 1)) X := fun _ _ => rfl
    have ix2 : ∀ (s10 : Sl) (X : Sto), eOp fIx (eV 9) (eC (.int 1)) (E ns s4 (.v (.str "lay")) (.v (.str nm)) (.v (.tup (nl B))) (.v (.tup (cs.map D.int))) (.v (.lst [.ref (R2.length + 1), .ref (R2.length + 2)])) s10 s11 s12 s13 s14 s15 s16) X = .ok (.ref (R2.length + 2)) X := fun _ _ => rfl
    have c6 : xk6 (E ns s4 (.v (.str "lay")) (.v (.str nm)) (.v (.tup (nl B))) (.v (.tup (cs.map D.int))) (.v (.lst [.ref (R2.length + 1), .ref (R2.length + 2)])) (.v .non) s11 s12 s13 s14 s15 s16) (S4.set 5 BT) = .nx (E ns s4 (.v (.str "lay")) (.v (.str nm)) (.v (.tup (nl B))) (.v (.tup (cs.map D.int))) (.v (.lst [.ref (R2.length + 1), .ref (R2.length + 2)])) (.v .non) s11 s12 s13 s14 s15 s16) ((S4.set 5 BT).set (R2.length + 1) (.lst [])) := by
      unfold xk6
      rw [sClrE_e, ix1, out_ok']
      simp only [g3]
    have c7 : xk7 (E ns s4 (.v (.str "lay")) (.v (.str nm)) (.v (.tup (nl B))) (.v (.tup (cs.map D.int))) (.v (.lst [.ref (R2.length + 1), .ref (R2.length + 2)])) (.v .non) s11 s12 s13 s14 s15 s16) ((S4.set 5 BT).set (R2.length + 1) (.lst [])) = .nx (E ns s4 (.v (.str "lay")) (.v (.str nm)) (.v (.tup (nl B))) (.v (.tup (cs.map D.int))) (.v (.lst [.ref (R2.length + 1), .ref (R2.length + 2)])) (.v .non) s11 s12 s13 s14 s15 s16) (((S4.set 5 BT).set (R2.length + 1) (.lst [])).set (R2.length + 2) (.lst [])) := by
      unfold xk7
      rw [sClrE_e, ix2, out_ok']
      simp only [g4]
    have m0' : (((S4.set 5 BT).set (R2.length + 1) (.lst [])).set (R2.length + 2) (.lst []))[3]? = some (.dic (mRec x y z 1 2 0 0)) := by
      rw [List.getElem?_set_ne (by omega), List.getElem?_set_ne (by omega), List.getElem?_set_ne (by omega)]
      exact m0
    have m1' : (((S4.set 5 BT).set (R2.length + 1) (.lst [])).set (R2.length + 2) (.lst []))[1]? = some (.dic (mTs T)) := by
      rw [List.getElem?_set_ne (by omega), List.getElem?_set_ne (by omega), List.getElem?_set_ne (by omega)]
      exact m1
    have eq6 : (((S4.set 5 BT).set (R2.length + 1) (.lst [])).set (R2.length + 2) (.lst [])).set 1 (.dic (mTs (T ++ [⟨nm, B, v, cs⟩]))) = (((S4.set 5 BT).set 1 (.dic (mTs (T ++ [⟨nm, B, v, cs⟩])))).set (R2.length + 1) (.lst [])).set (R2.length + 2) (.lst []) := by
      rw [List.set_comm _ _ (show R2.length + 2 ≠ 1 by omega), List.set_comm (l := S4.set 5 BT) _ _ (show R2.length + 1 ≠ 1 by omega)]
    have z3 := szB_of (n := 3) (by omega)
    have zt := szB_of (n := (mTs T).length + 1) (by rw [kTs_len]; omega)
    have c8 : xk8 (E ns s4 (.v (.str "lay")) (.v (.str nm)) (.v (.tup (nl B))) (.v (.tup (cs.map D.int))) (.v (.lst [.ref (R2.length + 1), .ref (R2.length + 2)])) (.v .non) s11 s12 s13 s14 s15 s16) (((S4.set 5 BT).set (R2.length + 1) (.lst [])).set (R2.length + 2) (.lst [])) = .nx (E ns s4 (.v (.str "lay")) (.v (.str nm)) (.v (.tup (nl B))) (.v (.tup (cs.map D.int))) (.v (.lst [.ref (R2.length + 1), .ref (R2.length + 2)])) (.v .non) s11 s12 s13 s14 s15 s16) ((((S4.set 5 BT).set 1 (.dic (mTs (T ++ [⟨nm, B, v, cs⟩])))).set (R2.length + 1) (.lst [])).set (R2.length + 2) (.lst [])) := by
      rw [← eq6]
      generalize ((S4.set 5 BT).set (R2.length + 1) (.lst [])).set (R2.length + 2) (.lst []) = S6 at *
      generalize mTs (T ++ [⟨nm, B, v, cs⟩]) = MT at *
      generalize mTs T = M0 at *
      simp [xk8, m0', m1', hasA, dicA, keyD, z3, zt, eM']
    refine ⟨_, T ++ [⟨nm, B, v, cs⟩], .v (.str "lay"), .v (.str nm), .v (.tup (nl B)), .v (.tup (cs.map D.int)), .v (.lst [.ref (R2.length + 1), .ref (R2.length + 2)]), .v .non, ?_, w6, by simp⟩
    have c9 : ∀ X : Sto, xk9 (E ns s4 (.v (.str "lay")) (.v (.str nm)) (.v (.tup (nl B))) (.v (.tup (cs.map D.int))) (.v (.lst [.ref (R2.length + 1), .ref (R2.length + 2)])) (.v .non) s11 s12 s13 s14 s15 s16) X = .nx (E ns s4 (.v (.str "lay")) (.v (.str nm)) (.v (.tup (nl B))) (.v (.tup (cs.map D.int))) (.v (.lst [.ref (R2.length + 1), .ref (R2.length + 2)])) (.v .non) s11 s12 s13 s14 s15 s16) X := fun X => rfl
    unfold xr16 xk15
    rw [seqn c3, sIf_eq, c15, out_ok', if_pos rfl]
    unfold xr14 xr13 xr12 xr11 xr10
    rw [seqn c4, seqn c5, seqn c6, seqn c7, seqn c8]
    exact c9 _
structure Lk (S : Sto) (x y z : Nat) (T : List E4) : Prop where
  bd : Bd S 4 x y z (bTs T) [] 0 0
  m0 : S[3]? = some (.dic (mRec x y z 1 2 0 0))
  m1 : S[1]? = some (.lck (mTs T))
  ok : TOk (x + y) T
  hx : x ≤ 4
  hy : y ≤ 3
section
variable {S : Sto} {x y z : Nat} {T : List E4} {e : E4}
theorem berths_go (h : Lk S x y z T) (he : e ∈ T) (ns : List Int) {ks : List (Key × D)} (hkn : noRefK ks = true) (hk : ∀ c, Sp e.A c → lookK ks (.inl (c : Int)) = some (.lst (nl (hmL e.A (List.range (2 ^ e.A.length)) c)))) (s4 s5 s9 s10 s11 s14 s15 s16 : Sl) :
    ∃ t15 t16, y8 (E ns s4 s5 (.v (.str e.name)) (.v (.tup (nl e.A))) (.v (.lst (e.cs.map D.int))) s9 s10 s11 (.v (nd e.v)) (.v (.dic ks)) s14 s15 s16) S = .nx (E ns s4 s5 (.v (.str e.name)) (.v (.tup (nl e.A))) (.v (.lst (e.cs.map D.int))) s9 s10 s11 (.v (nd e.v)) (.v (.dic ks)) s14 t15 t16) S := by
  have hx := h.hx
  have hy := h.hy
  have ek := h.ok.ok e he
  have lin := ek.lin
  have vle := ek.vle
  have ib := h.bd.ins
  have lkB : lookK (bTs T) (.inr e.name) = some (tab e.A e.v e.cs) := lookK_at (f := fun e => tab e.A e.v e.cs) he h.ok.nod
  have p7 : 2 ^ e.v ≤ 2 ^ 7 := Nat.pow_le_pow_right (by decide) (by omega)
  have pw := powB_nat (i := 1) (by decide) e.v (by omega)
  have it : itR1 (aCons (eOp iShl (eC (.int 1)) (eV 12)) aNil) (E ns s4 s5 (.v (.str e.name)) (.v (.tup (nl e.A))) (.v (.lst (e.cs.map D.int))) s9 s10 s11 (.v (nd e.v)) (.v (.dic ks)) s14 s15 s16) S = .ok (nl (List.range (2 ^ e.v))) S := itR1_nat (by simp [pw]) (by omega)
  have key : NX (y8 (E ns s4 s5 (.v (.str e.name)) (.v (.tup (nl e.A))) (.v (.lst (e.cs.map D.int))) s9 s10 s11 (.v (nd e.v)) (.v (.dic ks)) s14 s15 s16) S) fun e' S' => S' = S ∧ ∃ t15 t16, e' = E ns s4 s5 (.v (.str e.name)) (.v (.tup (nl e.A))) (.v (.lst (e.cs.map D.int))) s9 s10 s11 (.v (nd e.v)) (.v (.dic ks)) s14 t15 t16 := by
    unfold y8
    rw [sFor_eq, it, out_ok']
    refine NX_for (fun ds e' S' => (∀ d ∈ ds, ∃ c, d = nd c ∧ c < 2 ^ e.v) ∧ S' = S ∧ ∃ t15 t16, e' = E ns s4 s5 (.v (.str e.name)) (.v (.tup (nl e.A))) (.v (.lst (e.cs.map D.int))) s9 s10 s11 (.v (nd e.v)) (.v (.dic ks)) s14 t15 t16) ⟨fun d hd => by
      obtain ⟨c, hc, rfl⟩ := List.mem_map.mp hd
      exact ⟨c, rfl, List.mem_range.mp hc⟩, rfl, s15, s16, rfl⟩ (fun d ds e' S' hI => ?_) fun e' S' hI => hI.2
    obtain ⟨hds, rfl, q15, q16, rfl⟩ := hI
    obtain ⟨c, rfl, hc⟩ := hds d List.mem_cons_self
    refine ⟨E ns s4 s5 (.v (.str e.name)) (.v (.tup (nl e.A))) (.v (.lst (e.cs.map D.int))) s9 s10 s11 (.v (nd e.v)) (.v (.dic ks)) s14 q15 (.v (nd c)), rfl, ?_⟩
    have bt := berthsB_ok h.bd lkB lin (by omega) (by omega) hc
    have hk := hk c (lin.all c hc)
    have hm := hm_len e.A (List.range (2 ^ e.A.length)) c
    rw [List.length_range, lin.len] at hm
    have p77 : 2 ^ (x + y) ≤ 2 ^ 7 := Nat.pow_le_pow_right (by decide) (by omega)
    rw [lin.len] at hk bt
    have zz := szB_of (n := (nl (hmL e.A (List.range (2 ^ (x + y))) c)).length + 1) (by rw [nl_len]; omega)
    have sm := same_refl [] 4 (.lst (nl (hmL e.A (List.range (2 ^ (x + y))) c))) (plain_l (n := 3) (by rw [nl_len]; omega) fun d hd => by
      obtain ⟨i, _, rfl⟩ := List.mem_map.mp hd
      rfl)
    have nrH : noRefL (nl (hmL e.A (List.range (2 ^ (x + y))) c)) = true := nr_nl _
    generalize nl (hmL e.A (List.range (2 ^ (x + y))) c) = HL at *
    have c8 : y8B (E ns s4 s5 (.v (.str e.name)) (.v (.tup (nl e.A))) (.v (.lst (e.cs.map D.int))) s9 s10 s11 (.v (nd e.v)) (.v (.dic ks)) s14 q15 (.v (nd c))) S' = .nx (E ns s4 s5 (.v (.str e.name)) (.v (.tup (nl e.A))) (.v (.lst (e.cs.map D.int))) s9 s10 s11 (.v (nd e.v)) (.v (.dic ks)) s14 (.o (.lst (HL ++ [.int 0]))) (.v (nd c))) S' := by
      have c1 : y8a (E ns s4 s5 (.v (.str e.name)) (.v (.tup (nl e.A))) (.v (.lst (e.cs.map D.int))) s9 s10 s11 (.v (nd e.v)) (.v (.dic ks)) s14 q15 (.v (nd c))) S' = .nx (E ns s4 s5 (.v (.str e.name)) (.v (.tup (nl e.A))) (.v (.lst (e.cs.map D.int))) s9 s10 s11 (.v (nd e.v)) (.v (.dic ks)) s14 (.o (.lst HL)) (.v (nd c))) S' := by
        simp [y8a, ib, bt]
      have c2 : y8b (E ns s4 s5 (.v (.str e.name)) (.v (.tup (nl e.A))) (.v (.lst (e.cs.map D.int))) s9 s10 s11 (.v (nd e.v)) (.v (.dic ks)) s14 (.o (.lst HL)) (.v (nd c))) S' = .nx (E ns s4 s5 (.v (.str e.name)) (.v (.tup (nl e.A))) (.v (.lst (e.cs.map D.int))) s9 s10 s11 (.v (nd e.v)) (.v (.dic ks)) s14 (.o (.lst HL)) (.v (nd c))) S' := by
        have ce : cLend [15] (cNot (cB (eCall (m__law_same 4) [] (aCons (eV 15) (aCons (eDGetA 13 (eV 16)) aNil))))) (E ns s4 s5 (.v (.str e.name)) (.v (.tup (nl e.A))) (.v (.lst (e.cs.map D.int))) s9 s10 s11 (.v (nd e.v)) (.v (.dic ks)) s14 (.o (.lst HL)) (.v (nd c))) S' = .ok false S' := by
          rw [cLend_eq]
          have g15 : (lendE [15] (E ns s4 s5 (.v (.str e.name)) (.v (.tup (nl e.A))) (.v (.lst (e.cs.map D.int))) s9 s10 s11 (.v (nd e.v)) (.v (.dic ks)) s14 (.o (.lst HL)) (.v (nd c))))[15]? = some (.v (.lst HL)) := lend_at (.lst HL) nrH
          have g16 : (lendE [15] (E ns s4 s5 (.v (.str e.name)) (.v (.tup (nl e.A))) (.v (.lst (e.cs.map D.int))) s9 s10 s11 (.v (nd e.v)) (.v (.dic ks)) s14 (.o (.lst HL)) (.v (nd c))))[16]? = some (.v (nd c)) := rfl
          have g13 : (lendE [15] (E ns s4 s5 (.v (.str e.name)) (.v (.tup (nl e.A))) (.v (.lst (e.cs.map D.int))) s9 s10 s11 (.v (nd e.v)) (.v (.dic ks)) s14 (.o (.lst HL)) (.v (nd c))))[13]? = some (.v (.dic ks)) := lend_at (.dic ks) hkn
          generalize lendE [15] (E ns s4 s5 (.v (.str e.name)) (.v (.tup (nl e.A))) (.v (.lst (e.cs.map D.int))) s9 s10 s11 (.v (nd e.v)) (.v (.dic ks)) s14 (.o (.lst HL)) (.v (nd c))) = EE at *
          simp [g15, g16, g13, hasA, dicA, keyD, hk, sm]
        unfold y8b
        rw [sIf_eq, ce]
        rfl
      have c3 : y8c (E ns s4 s5 (.v (.str e.name)) (.v (.tup (nl e.A))) (.v (.lst (e.cs.map D.int))) s9 s10 s11 (.v (nd e.v)) (.v (.dic ks)) s14 (.o (.lst HL)) (.v (nd c))) S' = .nx (E ns s4 s5 (.v (.str e.name)) (.v (.tup (nl e.A))) (.v (.lst (e.cs.map D.int))) s9 s10 s11 (.v (nd e.v)) (.v (.dic ks)) s14 (.o (.lst (HL ++ [.int 0]))) (.v (nd c))) S' := by
        simp [y8c, zz]
      unfold y8B
      rw [seqn c1, seqn c2, c3]
    rw [c8]
    exact ⟨fun d hd => hds d (List.mem_cons_of_mem _ hd), rfl, _, _, rfl⟩
  obtain ⟨e', S', q1, rfl, t15, t16, rfl⟩ := NX_iff.mp key
  exact ⟨t15, t16, q1⟩
theorem table_ok (h : Lk S x y z T) (he : e ∈ T) (ns : List Int) (s4 s5 s7 s8 s9 s10 s11 s12 s13 s14 s15 s16 : Sl) :
    ∃ t7 t8 t11 t12 t13 t14 t15 t16, yB (E ns s4 s5 (.v (.str e.name)) s7 s8 s9 s10 s11 s12 s13 s14 s15 s16) S = .nx (E ns s4 s5 (.v (.str e.name)) t7 t8 s9 s10 t11 t12 t13 t14 t15 t16) S := by
  have hx := h.hx
  have hy := h.hy
  have ek := h.ok.ok e he
  have lin := ek.lin
  have vle := ek.vle
  have clen := ek.len
  have ib := h.bd.ins
  have m0 := h.m0
  have m1 := h.m1
  have lkM := lookK_at (f := mTb) he h.ok.nod
  have lkB : lookK (bTs T) (.inr e.name) = some (tab e.A e.v e.cs) := lookK_at (f := fun e => tab e.A e.v e.cs) he h.ok.nod
  have p7 : 2 ^ e.v ≤ 2 ^ 7 := Nat.pow_le_pow_right (by decide) (by omega)
  have mn := manyM_any S (c := e.cs.length) (by omega) (e.cs.length : Int) rfl
  rw [clen, lg_pow (by omega)] at mn
  obtain ⟨ks, hh, hkn, hk⟩ := homesN_ok S (A := e.A) (by rw [lin.len]; omega)
  have c1 : y1 (E ns s4 s5 (.v (.str e.name)) s7 s8 s9 s10 s11 s12 s13 s14 s15 s16) S = .nx (E ns s4 s5 (.v (.str e.name)) (.v (.tup (nl e.A))) (.v (.lst (e.cs.map D.int))) s9 s10 (.v .non) s12 s13 s14 s15 s16) S := by
    have lkM : lookK (mTs T) (.inr e.name) = some (.tup [.tup (nl e.A), .lst (e.cs.map D.int), .non]) := lkM
    generalize mTs T = MT at *
    simp [y1, m0, m1, hasA, dicA, keyD, lkM]
  have fl : fLen S [.lst (e.cs.map D.int)] = some (.int ((2 ^ e.v : Nat) : Int)) := by
    show some (D.int ((e.cs.map D.int).length : Int)) = _
    rw [List.length_map, clen]
  have c2 : y2 (E ns s4 s5 (.v (.str e.name)) (.v (.tup (nl e.A))) (.v (.lst (e.cs.map D.int))) s9 s10 (.v .non) s12 s13 s14 s15 s16) S = .nx (E ns s4 s5 (.v (.str e.name)) (.v (.tup (nl e.A))) (.v (.lst (e.cs.map D.int))) s9 s10 (.v .non) (.v (nd e.v)) s13 s14 s15 s16) S := by
    generalize D.lst (e.cs.map D.int) = CD at *
    generalize hP : ((2 ^ e.v : Nat) : Int) = PP at *
    simp only [y2, sAsg_eq, eCall_eq, eCB_eq, aCons_eq, aNil_eq, eV_eq, List.getElem?_cons_succ, List.getElem?_cons_zero, bind_ok', fl, opt_some', List.append_nil, mn, r_val, out_ok']
    rfl
  have c3 : y3 (E ns s4 s5 (.v (.str e.name)) (.v (.tup (nl e.A))) (.v (.lst (e.cs.map D.int))) s9 s10 (.v .non) (.v (nd e.v)) s13 s14 s15 s16) S = .nx (E ns s4 s5 (.v (.str e.name)) (.v (.tup (nl e.A))) (.v (.lst (e.cs.map D.int))) s9 s10 (.v .non) (.v (nd e.v)) (.v (.dic ks)) s14 s15 s16) S := by
    simp [y3, hh, Cell.d]
  have dg := digitsB_ok h.bd (x := e.name) (A := e.A) (v := e.v) (gr := grp e.A e.cs) (mv := .non) lkB
  have ro := rowsB_ok h.bd (x := e.name) (A := e.A) (v := e.v) (gr := grp e.A e.cs) (mv := .non) lkB
  have mo := movingB_no h.bd (x := e.name) (A := e.A) (v := e.v) (gr := grp e.A e.cs) lkB
  have ce := cellsB_ok h.bd lkB lin (by omega) (by omega) clen
  have z3 := szB_of (n := 3) (by omega)
  have sm1 := same_refl S 4 (.lst [nd e.v, .tup (nl e.A), .non]) (plain_l (n := 3) (by simp) fun d hd => by
    simp only [List.mem_cons, List.not_mem_nil, or_false] at hd
    rcases hd with rfl | rfl | rfl
    · rfl
    · refine plain_t (n := 2) (by rw [nl_len, lin.len]; omega) fun d hd => ?_
      obtain ⟨i, _, rfl⟩ := List.mem_map.mp hd
      rfl
    · rfl)
  have sm2 := same_refl [] 4 (.lst (e.cs.map D.int)) (plain_l (n := 3) (by rw [List.length_map, clen]; omega) fun d hd => by
    obtain ⟨i, _, rfl⟩ := List.mem_map.mp hd
    rfl)
  have key : NX (y9 (E ns s4 s5 (.v (.str e.name)) (.v (.tup (nl e.A))) (.v (.lst (e.cs.map D.int))) s9 s10 (.v .non) (.v (nd e.v)) (.v (.dic ks)) s14 s15 s16) S) fun e' S' => S' = S ∧ ∃ t14 t15 t16, e' = E ns s4 s5 (.v (.str e.name)) (.v (.tup (nl e.A))) (.v (.lst (e.cs.map D.int))) s9 s10 (.v .non) (.v (nd e.v)) (.v (.dic ks)) t14 t15 t16 := by
    have it : ∃ ds, itR1 (aCons (eC (.int 2)) aNil) (E ns s4 s5 (.v (.str e.name)) (.v (.tup (nl e.A))) (.v (.lst (e.cs.map D.int))) s9 s10 (.v .non) (.v (nd e.v)) (.v (.dic ks)) s14 s15 s16) S = .ok ds S := by
      have r3 : rgB (2 : Int) = true := rgB_nat (n := 2) (by omega)
      exact ⟨_, by simp [r3]; rfl⟩
    obtain ⟨ds, it⟩ := it
    unfold y9
    rw [sFor_eq, it, out_ok']
    refine NX_for (fun ds e' S' => S' = S ∧ ∃ t14 t15 t16, e' = E ns s4 s5 (.v (.str e.name)) (.v (.tup (nl e.A))) (.v (.lst (e.cs.map D.int))) s9 s10 (.v .non) (.v (nd e.v)) (.v (.dic ks)) t14 t15 t16) ⟨rfl, _, _, _, rfl⟩ (fun d ds e' S' hI => ?_) fun e' S' hI => hI
    obtain ⟨rfl, q14, q15, q16, rfl⟩ := hI
    refine ⟨E ns s4 s5 (.v (.str e.name)) (.v (.tup (nl e.A))) (.v (.lst (e.cs.map D.int))) s9 s10 (.v .non) (.v (nd e.v)) (.v (.dic ks)) (.v d) q15 q16, rfl, ?_⟩
    have c4 : y4 (E ns s4 s5 (.v (.str e.name)) (.v (.tup (nl e.A))) (.v (.lst (e.cs.map D.int))) s9 s10 (.v .non) (.v (nd e.v)) (.v (.dic ks)) (.v d) q15 q16) S' = .nx (E ns s4 s5 (.v (.str e.name)) (.v (.tup (nl e.A))) (.v (.lst (e.cs.map D.int))) s9 s10 (.v .non) (.v (nd e.v)) (.v (.dic ks)) (.v d) q15 q16) S' := by
      generalize D.lst (e.cs.map D.int) = CD at *
      generalize D.tup (nl e.A) = AD at *
      simp [y4, ib, dg, ro, mo, z3, Cell.d, sm1]
    have c5 : y5 (E ns s4 s5 (.v (.str e.name)) (.v (.tup (nl e.A))) (.v (.lst (e.cs.map D.int))) s9 s10 (.v .non) (.v (nd e.v)) (.v (.dic ks)) (.v d) q15 q16) S' = .nx (E ns s4 s5 (.v (.str e.name)) (.v (.tup (nl e.A))) (.v (.lst (e.cs.map D.int))) s9 s10 (.v .non) (.v (nd e.v)) (.v (.dic ks)) (.v d) (.o (.lst (e.cs.map D.int))) q16) S' := by
      generalize D.tup (nl e.A) = AD at *
      generalize e.cs.map D.int = CL at *
      simp [y5, ib, ce]
    have c6 : y6 (E ns s4 s5 (.v (.str e.name)) (.v (.tup (nl e.A))) (.v (.lst (e.cs.map D.int))) s9 s10 (.v .non) (.v (nd e.v)) (.v (.dic ks)) (.v d) (.o (.lst (e.cs.map D.int))) q16) S' = .nx (E ns s4 s5 (.v (.str e.name)) (.v (.tup (nl e.A))) (.v (.lst (e.cs.map D.int))) s9 s10 (.v .non) (.v (nd e.v)) (.v (.dic ks)) (.v d) (.o (.lst (e.cs.map D.int))) q16) S' := by
      have ce : cLend [15] (cNot (cB (eCall (m__law_same 4) [] (aCons (eV 15) (aCons (eV 8) aNil))))) (E ns s4 s5 (.v (.str e.name)) (.v (.tup (nl e.A))) (.v (.lst (e.cs.map D.int))) s9 s10 (.v .non) (.v (nd e.v)) (.v (.dic ks)) (.v d) (.o (.lst (e.cs.map D.int))) q16) S' = .ok false S' := by
        rw [cLend_eq]
        have g15 : (lendE [15] (E ns s4 s5 (.v (.str e.name)) (.v (.tup (nl e.A))) (.v (.lst (e.cs.map D.int))) s9 s10 (.v .non) (.v (nd e.v)) (.v (.dic ks)) (.v d) (.o (.lst (e.cs.map D.int))) q16))[15]? = some (.v (.lst (e.cs.map D.int))) := lend_at (.lst (e.cs.map D.int)) (nr_ints _)
        have g8 : (lendE [15] (E ns s4 s5 (.v (.str e.name)) (.v (.tup (nl e.A))) (.v (.lst (e.cs.map D.int))) s9 s10 (.v .non) (.v (nd e.v)) (.v (.dic ks)) (.v d) (.o (.lst (e.cs.map D.int))) q16))[8]? = some (.v (.lst (e.cs.map D.int))) := lend_at (.lst (e.cs.map D.int)) (nr_ints _)
        generalize lendE [15] (E ns s4 s5 (.v (.str e.name)) (.v (.tup (nl e.A))) (.v (.lst (e.cs.map D.int))) s9 s10 (.v .non) (.v (nd e.v)) (.v (.dic ks)) (.v d) (.o (.lst (e.cs.map D.int))) q16) = EE at *
        generalize e.cs.map D.int = CL at *
        simp [g15, g8, sm2]
      unfold y6
      rw [sIf_eq, ce]
      rfl
    have c7 : y7 (E ns s4 s5 (.v (.str e.name)) (.v (.tup (nl e.A))) (.v (.lst (e.cs.map D.int))) s9 s10 (.v .non) (.v (nd e.v)) (.v (.dic ks)) (.v d) (.o (.lst (e.cs.map D.int))) q16) S' = .nx (E ns s4 s5 (.v (.str e.name)) (.v (.tup (nl e.A))) (.v (.lst (e.cs.map D.int))) s9 s10 (.v .non) (.v (nd e.v)) (.v (.dic ks)) (.v d) (.o (.lst [])) q16) S' := by
      unfold y7
      rw [sClr_eq]
      rfl
    obtain ⟨t15, t16, c8⟩ := berths_go h he ns hkn hk s4 s5 s9 s10 (.v .non) (.v d) (.o (.lst [])) q16
    have cI : yI (E ns s4 s5 (.v (.str e.name)) (.v (.tup (nl e.A))) (.v (.lst (e.cs.map D.int))) s9 s10 (.v .non) (.v (nd e.v)) (.v (.dic ks)) (.v d) q15 q16) S' = .nx (E ns s4 s5 (.v (.str e.name)) (.v (.tup (nl e.A))) (.v (.lst (e.cs.map D.int))) s9 s10 (.v .non) (.v (nd e.v)) (.v (.dic ks)) (.v d) t15 t16) S' := by
      unfold yI
      rw [seqn c4, seqn c5, seqn c6, seqn c7, c8]
    rw [cI]
    exact ⟨rfl, _, _, _, rfl⟩
  obtain ⟨e', S', q9, rfl, t14, t15, t16, rfl⟩ := NX_iff.mp key
  refine ⟨.v (.tup (nl e.A)), .v (.lst (e.cs.map D.int)), .v .non, .v (nd e.v), .v (.dic ks), t14, t15, t16, ?_⟩
  unfold yB
  rw [seqn c1, seqn c2, seqn c3, q9]
end
theorem look_ok (ns : List Int) {S : Sto} {x y z : Nat} {T : List E4} (w : Ws S 4 3 1 2 x y z T 0 0) (s4 s5 s6 s7 s8 s9 s10 s11 s12 s13 s14 s15 s16 : Sl) :
    ∃ t4 t5 t6 t7 t8 t9 t10 t11 t12 t13 t14 t15 t16, xk18 (E ns s4 s5 s6 s7 s8 s9 s10 s11 s12 s13 s14 s15 s16) S = .nx (E ns t4 t5 t6 t7 t8 t9 t10 t11 t12 t13 t14 t15 t16) S := by
  have a0 := w.ml.at0
  have a1 := w.ml.at1
  have l1 : 1 < S.length := (List.getElem?_eq_some_iff.mp a1).1
  have B := w.bd
  have md0 : eDGetA 2 (eC (.str "tables")) (E ns s4 s5 s6 s7 s8 s9 s10 s11 s12 s13 s14 s15 s16) S = .ok (.ref 1) S := by simp [a0, hasA, dicA, keyD]
  have l0 : (S.set 1 (Cell.lck (mTs T)))[3]? = some (.dic (mRec x y z 1 2 0 0)) := by
    rw [List.getElem?_set_ne (by decide)]
    exact a0
  have lt : (S.set 1 (Cell.lck (mTs T)))[1]? = some (.lck (mTs T)) := List.getElem?_set_self l1
  have LK : Lk (S.set 1 (Cell.lck (mTs T))) x y z T := ⟨⟨by rw [List.getElem?_set_ne (by decide)]; exact B.at0, by rw [List.getElem?_set_ne (by decide)]; exact B.at1, by rw [List.getElem?_set_ne (by decide)]; exact B.at2⟩, l0, lt, w.ok, w.hx, w.hy⟩
  have sb : (S.set 1 (Cell.lck (mTs T))).set 1 (.dic (mTs T)) = S := set_back a1
  obtain ⟨r4, r5, r6, r7, r8, r9, r10, r11, r12, r13, r14, r15, r16, we⟩ : ∃ r4 r5 r6 r7 r8 r9 r10 r11 r12 r13 r14 r15 r16, wipeE (E ns s4 s5 s6 s7 s8 s9 s10 s11 s12 s13 s14 s15 s16) [] = E ns r4 r5 r6 r7 r8 r9 r10 r11 r12 r13 r14 r15 r16 := ⟨_, _, _, _, _, _, _, _, _, _, _, _, _, rfl⟩
  have md1 : eDGetA 2 (eC (.str "tables")) (E ns r4 r5 r6 r7 r8 r9 r10 r11 r12 r13 r14 r15 r16) (S.set 1 (Cell.lck (mTs T))) = .ok (.ref 1) (S.set 1 (Cell.lck (mTs T))) := by simp [l0, hasA, dicA, keyD]
  have kv : keysV (mTs T) = T.map fun e => D.str e.name := by
    unfold keysV mTs kTs
    rw [List.map_map]
    rfl
  generalize hSl : S.set 1 (Cell.lck (mTs T)) = Sl at *
  have loop : NX (forL (gN 6) yB (T.map fun e => D.str e.name) (E ns r4 r5 r6 r7 r8 r9 r10 r11 r12 r13 r14 r15 r16) Sl) fun e S1 => S1 = Sl ∧ ∃ t4 t5 t6 t7 t8 t9 t10 t11 t12 t13 t14 t15 t16, e = E ns t4 t5 t6 t7 t8 t9 t10 t11 t12 t13 t14 t15 t16 := by
    refine NX_for (fun ds e S1 => S1 = Sl ∧ (∀ d ∈ ds, ∃ e ∈ T, d = .str e.name) ∧ ∃ t4 t5 t6 t7 t8 t9 t10 t11 t12 t13 t14 t15 t16, e = E ns t4 t5 t6 t7 t8 t9 t10 t11 t12 t13 t14 t15 t16) ⟨rfl, fun d hd => by
      obtain ⟨e, he, rfl⟩ := List.mem_map.mp hd
      exact ⟨e, he, rfl⟩, _, _, _, _, _, _, _, _, _, _, _, _, _, rfl⟩ (fun d ds env S1 h => ?_) fun e S1 h => ⟨h.1, h.2.2⟩
    obtain ⟨rfl, hds, q4, q5, q6, q7, q8, q9, q10, q11, q12, q13, q14, q15, q16, rfl⟩ := h
    obtain ⟨e, he, rfl⟩ := hds d List.mem_cons_self
    refine ⟨E ns q4 q5 (.v (.str e.name)) q7 q8 q9 q10 q11 q12 q13 q14 q15 q16, rfl, ?_⟩
    obtain ⟨t7, t8, t11, t12, t13, t14, t15, t16, q⟩ := table_ok LK he ns q4 q5 q7 q8 q9 q10 q11 q12 q13 q14 q15 q16
    rw [q]
    exact ⟨rfl, fun d hd => hds d (List.mem_cons_of_mem _ hd), _, _, _, _, _, _, _, _, _, _, _, _, _, rfl⟩
  obtain ⟨e1, S1, f1, rfl, t4, t5, t6, t7, t8, t9, t10, t11, t12, t13, t14, t15, t16, rfl⟩ := NX_iff.mp loop
  refine ⟨t4, t5, t6, t7, t8, t9, t10, t11, t12, t13, t14, t15, t16, ?_⟩
  unfold xk18
  rw [sForD_eq, md0]
  simp only [a1]
  rw [we, hSl, md1]
  simp only [out_ok', if_true]
  rw [kv, f1]
  unfold unlk
  simp only [lt]
  rw [sb]
theorem pure_law (ns : List Int) (hl : ns.length ≤ 63) (hb : ∀ z ∈ ns, Builtin.Int.intBits z ≤ 1048576) : ∃ S, m_law [.scr ns] [] = .ok (.val (.bl true)) S := by
  rw [m_law_eq]
  refine law_run (k := 15) (c := 0) ns rfl fun b hb => ?_
  obtain ⟨b1, x, y, z, t1, hb1, hx, hy, hz1, hz3⟩ := wide_ok (R := []) hb
  have md : m__law_model [.tup [nd x, nd y, nd z]] [b1] = .ok (.own (.dic (mRec x y z 1 2 0 0))) [b1, .dic [], .dic []] := model_ok [b1] x y z
  have W0 : Ws [b1, .dic [], .dic [], .dic (mRec x y z 1 2 0 0), bodyC 4 x y z 0 0, .dic [], .dic []] 4 3 1 2 x y z [] 0 0 := start_ws (A := [b1]) (x := x) (y := y) (z := z) ⟨b1, [], rfl, hb1⟩ hx hy ⟨hz1, hz3⟩
  have i0 : LE ns (List.replicate 15 .no) 0 = [.v (.scr ns), .v (.ref 0), .no, .no, .no, .no, .no, .no, .no, .no, .no, .no, .no, .no, .no, .no, .no] := rfl
  rw [i0]
  have c1 : xk1 [.v (.scr ns), .v (.ref 0), .no, .no, .no, .no, .no, .no, .no, .no, .no, .no, .no, .no, .no, .no, .no] [b] = .nx [.v (.scr ns), .v (.ref 0), .v (.ref 3), .no, .no, .no, .no, .no, .no, .no, .no, .no, .no, .no, .no, .no, .no] [b1, .dic [], .dic [], .dic (mRec x y z 1 2 0 0)] := by
    simp [xk1, t1, md]
  have nb : m_BodyU_initU [.ref 4, nd x, nd y, nd z] [b1, .dic [], .dic [], .dic (mRec x y z 1 2 0 0), .ins "Body" []] = .ok (.val .non) [b1, .dic [], .dic [], .dic (mRec x y z 1 2 0 0), bodyC 4 x y z 0 0, .dic [], .dic []] := newBd_ok [b1, .dic [], .dic [], .dic (mRec x y z 1 2 0 0)] hx hy hz1 hz3 x y z rfl rfl rfl
  have c2 : xk2 [.v (.scr ns), .v (.ref 0), .v (.ref 3), .no, .no, .no, .no, .no, .no, .no, .no, .no, .no, .no, .no, .no, .no] [b1, .dic [], .dic [], .dic (mRec x y z 1 2 0 0)] = .nx (E ns .no .no .no .no .no .no .no .no .no .no .no .no .no) [b1, .dic [], .dic [], .dic (mRec x y z 1 2 0 0), bodyC 4 x y z 0 0, .dic [], .dic []] := by
    simp [xk2, hasA, dicA, keyD, nb]
  generalize hS0 : [b1, Cell.dic [], .dic [], .dic (mRec x y z 1 2 0 0), bodyC 4 x y z 0 0, .dic [], .dic []] = S0 at *
  have key : NX (xk17 (E ns .no .no .no .no .no .no .no .no .no .no .no .no .no) S0) fun e S => ∃ T s4 s5 s6 s7 s8 s9 s10 s11 s12 s13 s14 s15 s16, e = E ns s4 s5 s6 s7 s8 s9 s10 s11 s12 s13 s14 s15 s16 ∧ Ws S 4 3 1 2 x y z T 0 0 := by
    obtain ⟨b0, R0, rfl, hb0⟩ := W0.bx
    obtain ⟨b4, u, t4, hb4, lu⟩ := takeKR (R := R0) hb0 4 4 rfl (by decide) (by decide)
    have W1 := W0.head hb4
    have it : itR1 (aCons (eOp dAdd (eC (.int 1)) (eCall m__law_take [] (aCons (eV 1) (aCons (eC (.int 4)) aNil)))) aNil) (E ns .no .no .no .no .no .no .no .no .no .no .no .no .no) (b0 :: R0) = .ok (nl (List.range (1 + u))) (b4 :: R0) := by
      have rg : rgB ((1 + u : Nat) : Int) = true := rgB_nat (by omega)
      have r0 := rng0 (1 + u)
      have da : dAdd (b4 :: R0) (.int 1) (nd u) = some (nd (1 + u)) := rfl
      generalize hK : 1 + u = k at *
      simp [t4, da, rg, r0]
    unfold xk17
    rw [sFor_eq, it, out_ok']
    refine NX_for (fun ds e S => ∃ T s4 s5 s6 s7 s8 s9 s10 s11 s12 s13 s14 s15 s16, e = E ns s4 s5 s6 s7 s8 s9 s10 s11 s12 s13 s14 s15 s16 ∧ Ws S 4 3 1 2 x y z T 0 0 ∧ T.length + ds.length ≤ 4) ⟨[], _, _, _, _, _, _, _, _, _, _, _, _, _, rfl, W1, by rw [nl_len, List.length_range]; simp; omega⟩ (fun d ds e S h => ?_) fun e S h => ?_
    · obtain ⟨T, s4, s5, s6, s7, s8, s9, s10, s11, s12, s13, s14, s15, s16, rfl, w, hl⟩ := h
      rw [List.length_cons] at hl
      refine ⟨E ns (.v d) s5 s6 s7 s8 s9 s10 s11 s12 s13 s14 s15 s16, rfl, ?_⟩
      obtain ⟨S', T', t5, t6, t7, t8, t9, t10, e, w', lt⟩ := round_ok ns w (by omega) (.v d) s5 s6 s7 s8 s9 s10 s11 s12 s13 s14 s15 s16
      rw [e]
      exact ⟨T', _, _, _, _, _, _, _, _, _, _, _, _, _, rfl, w', by omega⟩
    · obtain ⟨T, s4, s5, s6, s7, s8, s9, s10, s11, s12, s13, s14, s15, s16, rfl, w, _⟩ := h
      exact ⟨T, _, _, _, _, _, _, _, _, _, _, _, _, _, rfl, w⟩
  obtain ⟨e', S', eq, T, s4, s5, s6, s7, s8, s9, s10, s11, s12, s13, s14, s15, s16, rfl, w⟩ := NX_iff.mp key
  obtain ⟨t4, t5, t6, t7, t8, t9, t10, t11, t12, t13, t14, t15, t16, c18⟩ := look_ok ns w s4 s5 s6 s7 s8 s9 s10 s11 s12 s13 s14 s15 s16
  have st := stands_ok w.bd w.ml w.ok w.hx w.hy
  have ho := held_ok w.bd w.ml w.ok w.hx w.hy
  have c19 : xk19 (E ns t4 t5 t6 t7 t8 t9 t10 t11 t12 t13 t14 t15 t16) S' = .rt (.val (.bl true)) S' := by
    simp [xk19, st, ho]
  unfold xr23 xr22 xr21 xr20
  rw [seqn c1, seqn c2, seqn eq, seqn c18, c19]
  exact rfl
end K29
open PySem PySem.W PySem.Calls PyProof.Rows in
set_option maxHeartbeats 0 in
theorem PySem.Challenge.cw_foldberth_k29_tables_laid_holds : PySem.Challenge.rw_foldberth_k29_tables_laid.Holds := by
  w_on; o_law
  refine HandSHeadRun.head_any (r := OpenLaw.row PySem.Challenge.rw_foldberth_k29_tables_laid) (q := view (OpenLaw.row PySem.Challenge.rw_foldberth_k29_tables_laid).prog [78]) (H := K29.hk) (ob := K29.ob) (M := 20000) (loose := K29.loose) (d := HandSHeadRun.topDef (OpenLaw.row PySem.Challenge.rw_foldberth_k29_tables_laid).prog 78) (kwd := []) K29.ob_eq
    (by kernel_rfl) (fun s => by kernel_rfl) K29.run (by kernel_rfl) (by kernel_rfl) (by kernel_rfl) (by rfl) (by first | assumption | decide +kernel) (by decide +kernel) ⟨rfl, rfl, rfl, rfl, rfl, by decide +kernel⟩ ?hw ?hc
  case hw => w_witness2
  case hc =>
    refine LamX.walk_ofTsE (l := PySem.Challenge.rw_foldberth_k29_tables_laid) (n := 63) (k := 10) (x := "_law_script") (CX := fun w => L2N.CX (PySem.Challenge.rw_foldberth_k29_tables_laid).prog w) rfl (by decide) (by kernel_rfl) ⟨rfl, by decide, by decide⟩ ?F (fun w H s e s' z => Mm.cx_none _ w H s e s' z)
    intro w mg fa h Y G hmg0
    obtain ⟨K, KX, c⟩ := Y
    have hmg : mg ("law" : PySem.Str) = some (.ref fa) := by
      have e : (HandSHeadRun.topDef (OpenLaw.row PySem.Challenge.rw_foldberth_k29_tables_laid).prog 78).name = ("law" : PySem.Str) := by kernel_rfl
      rw [← e]
      exact hmg0
    obtain ⟨fd, hb, hF⟩ := K29.facts (P := (PySem.Challenge.rw_foldberth_k29_tables_laid).prog) (w := w) KX G hmg c
    exact ⟨K, KX, Mm.law_atT K29.tf c KX hb K29.pure_law hF⟩
