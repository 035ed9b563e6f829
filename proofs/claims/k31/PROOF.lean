import PyProof.Rows.All
import Wide.All
import OpenK.AllK
import Wide.FinOn
import HandS.Exc
import HandS.ExcInit
import HandS.ExcField
import HandS.Words
import HandS.Head0
import HandS.Head1
import HandS.Head2
import HandS.HeadEnd
import HandS.HeadHook1
import HandS.HeadHook2
import HandS.HeadHook3
import HandS.HeadHook4
import HandS.HeadWalk
import KE.KExcInit
import HandS.ForMost
import HandS.WordsExc
import HandS.CallSlots
import HandS.IsInst
import HandS.Flow
import HandS.Conv
import HandS.Wide
import HandS.Style
import HandS.StrMore
import HandS.FStr
import HandS.Lambda
import HandS.TupAny
import HandS.Deep
import PyProof.StrOps2
import HandS.TupLe
import PyProof.Rows.StrCase
import PyProof.StrBlockL
import HandS.Defaults
import HandS.ClsMeth
import HandS.SortKw
import KE.SortKeyHeap
import PyProof.CollectIter
import PyProof.WalksMore
import PyProof.ListStr
import KE.DatumOrd
import PyProof.TupleOfSeq
import PyProof.Rows.SortShellAny
import PyProof.Rows.SortWalk
import HandS.Small
import HandS.More
import HandS.DictComp
import KE.KUnpackStar
import HandS.NoneIn
import HandS.Zip
import KE.GoesEnum
import KE.GoesMore
import KE.GoesZip
import HandS.SetBool
import HandS.SetKeys
import HandS.Remove
import HandS.SortInts
import KE.KDictZip
import PyProof.StrLawsIn
import KE.KTryMore
import HandS.OwnEq
import HandS.WideMore
import KE.SortData
import PyProof.ExcBaseAll.ValueError
import PyProof.ExcBaseAll.LookupError
import PyProof.ExcBaseAll.IndexError
import HandS.EndTab
import PySem.Challenge.RW_nearcall_k31_how_many_steps
set_option Elab.async false
set_option linter.all false
set_option maxRecDepth 100000
set_option maxHeartbeats 4000000
namespace SL
open PySem PySem.Spec L2
open PyProof.Rows hiding St
def clsDef (s : Stmt) (j : Nat) : Stmt := match s with
  | .ClassDef _ _ _ b _ _ _ _ _ _ _ => b.getD j (.Pass ⟨0, 0, 0, 0⟩)
  | _ => .Pass ⟨0, 0, 0, 0⟩
def oexB (K : PySem.W.Frag) (C : Addr) : Bool := (match K.lookup C with
  | some ⟨.type "type", _, .cls cd, sl⟩ => (match cd.mro, sl.toList with
    | .ref C' :: bm, [_, _, _, _, some (.builtin n), _] => C' == C && n == "ValueError.__new__" && !cd.hasDel && cd.hasDict && PySem.HandSPX.refsVE bm
    | _, _ => false)
  | _ => false) && (decide (PySem.W.findIn K (.ref C) "__setattr__" = some (some (.builtin "object.__setattr__"))) && (decide (PySem.W.subIn K (.ref C) (.type "BaseException") = some true) && (decide (PySem.W.typeIn K (.ref C) = some (.type "type")) && PySem.W.keepIn K (.ref C))))
def oexIB (K : PySem.W.Frag) (C fI : Addr) (fs : List Str) : Bool := oexB K C && (decide (PySem.W.findIn K (.ref C) "__init__" = some (some (.ref fI))) && (decide (PySem.W.typeIn K (.ref fI) = some (.type "function")) && fs.all fun f => decide (PySem.W.findIn K (.ref C) f = some none)))
def crB (K : PySem.W.Frag) (C f : Addr) : Bool := PySem.W.readsIn K C (.type "type") && (decide (PySem.W.specialIn K (.ref C) "__getattribute__" = some (some (.builtin "type.__getattribute__"))) && (match PySem.W.findCls K (.ref C) (.type "type") "__init__" with
  | some (.val (.ref g)) => decide (g = f)
  | _ => false))
def veiB (K : PySem.W.Frag) : Bool := match PySem.W.findCls K (.type "ValueError") (.type "type") "__init__" with
  | some (.val (.builtin n)) => decide (n = "ValueError.__init__")
  | _ => false
def ctB (K : PySem.W.Frag) (c : Addr) (l : List (Addr × Bool)) : Bool := l.all fun p => decide (PySem.W.exmOne K (.ref p.1) (.ref c) = some p.2)
def xfAll (K : PySem.W.Frag) (l : List (Addr × Bool)) (fs : List Str) : Bool := l.all fun p => !p.2 || (xfB K p.1 && fs.all fun f => decide (PySem.W.findIn K (.ref p.1) f = some none))
section
variable {fa : List He.Fa} {fn : List He.DefD} {ex : PySem.W.Frag → Bool}
structure SaysY (fa : List He.Fa) (fn : List He.DefD) (ex : PySem.W.Frag → Bool) (K : PySem.W.Frag) : Prop where
  d : He.SaysD fa fn K
  more : ex K = true
structure TabsY (tf : List He.Defn) (h : Heap) (K : PySem.W.Frag) : Prop where
  hd : ∀ p ∈ tf, PySem.W.codeHdIn K (He.cT K p).1 (He.cT K p).2 = true
  out : ∀ p ∈ tf, K.lookup (He.cT K p).2 = none
  empty : ∀ p ∈ tf, h.get? (He.cT K p).2 = some { cls := .none, data := .fields #[] }
theorem tabsY_of {tf : List He.Defn} {h : Heap} {as : List Addr} (e : He.tabsB h.get? tf (He.frT h.get? as) = true) : TabsY tf h (He.frT h.get? as) := by
  have key : ∀ p ∈ tf, PySem.W.codeHdIn (He.frT h.get? as) (He.cT (He.frT h.get? as) p).1 (He.cT (He.frT h.get? as) p).2 = true ∧ ∃ o, h.get? (He.cT (He.frT h.get? as) p).2 = some o ∧ He.emptyTab o = true := fun p hp => by
    obtain ⟨h3, h4⟩ := Bool.and_eq_true_iff.mp (List.all_eq_true.mp e p hp)
    refine ⟨h3, ?_⟩
    cases q : h.get? (He.cT (He.frT h.get? as) p).2 with
    | none =>
      rw [q] at h4
      cases h4
    | some o =>
      rw [q] at h4
      exact ⟨o, rfl, h4⟩
  exact ⟨fun p hp => (key p hp).1, fun p hp => by
    obtain ⟨_, o, q, z⟩ := key p hp
    exact He.frT_none q z, fun p hp => by
    obtain ⟨_, o, q, z⟩ := key p hp
    rw [q, He.emptyTab_eq z]⟩
end
section
variable {fa : List He.Fa} {fn : List He.DefD} {ex : PySem.W.Frag → Bool}
def frZ (n : Nat) (g : Addr → Option Obj) : PySem.W.Frag := He.frT g (mainGlobals :: List.range n)
def obsZ (n : Nat) (fa : List He.Fa) (fn : List He.DefD) (tf : List He.Defn) (ex : PySem.W.Frag → Bool) (g : Addr → Option Obj) : He.AlD × Bool := (He.obsD fa fn (frZ n g), ex (frZ n g) && He.tabsB g tf (frZ n g))
def hookZ (n : Nat) (fa : List He.Fa) (fn : List He.DefD) (tf : List He.Defn) (ex : PySem.W.Frag → Bool) : PySem.W.Hook where
  α := He.AlD × Bool
  obs := fun s => obsZ n fa fn tf ex s.heap.get?
  val := fun _ => (He.valD fn, true)
  says := fun _ h => ∃ K : PySem.W.Frag, K.In h ∧ SaysY fa fn ex K ∧ TabsY tf h K
  of := fun _ s e => ⟨_, He.frT_in, ⟨congrArg Prod.fst e, (Bool.and_eq_true_iff.mp (congrArg Prod.snd e)).1⟩, tabsY_of (Bool.and_eq_true_iff.mp (congrArg Prod.snd e)).2⟩
  keeps := fun _ _ _ ⟨K, hK, c, t⟩ k => ⟨K, PySem.W.Frag.In.keeps hK k, c, ⟨t.hd, t.out, fun p hp => k _ _ (t.empty p hp)⟩⟩
theorem obsZ_eq {n : Nat} {tf : List He.Defn} {g : Addr → Option Obj} {s : Shared} (h : ∀ a, g a = s.heap.get? a) : obsZ n fa fn tf ex g = (hookZ n fa fn tf ex).obs s := by
  have e : g = s.heap.get? := funext h
  rw [e] <;> rfl
end
section
variable {fa : List He.Fa} {fn : List He.DefD} {ex : PySem.W.Frag → Bool}
structure EmpY (es : List Addr) (h : Heap) (K : PySem.W.Frag) : Prop where
  at_ : ∀ e ∈ es, K.lookup e = none ∧ ∃ o n, h.get? e = some o ∧ o.cls = .type "tuple" ∧ o.data = .seq #[] n
end
def oexW : Nat → String | 0 => "ValueError.__new__" | 1 => "LookupError.__new__" | _ => "IndexError.__new__"
def oexT : Nat → List Value
  | 0 => [.type "ValueError", .type "Exception", .type "BaseException", .type "object"]
  | 1 => [.type "LookupError", .type "Exception", .type "BaseException", .type "object"]
  | _ => [.type "IndexError", .type "LookupError", .type "Exception", .type "BaseException", .type "object"]
def oxB (K : PySem.W.Frag) (C : Addr) (i : Nat := 0) : Bool := (match K.lookup C with
  | some ⟨.type "type", _, .cls cd, sl⟩ => (match cd.mro, sl.toList with
    | .ref C' :: bm, [_, _, _, _, some (.builtin n), _] => C' == C && n == oexW i && !cd.hasDel && cd.hasDict && PySem.W.excTail (oexT i) bm
    | _, _ => false)
  | _ => false) && (decide (PySem.W.findIn K (.ref C) "__setattr__" = some (some (.builtin "object.__setattr__"))) && (decide (PySem.W.subIn K (.ref C) (.type "BaseException") = some true) && (decide (PySem.W.typeIn K (.ref C) = some (.type "type")) && PySem.W.keepIn K (.ref C))))
def oxIB (K : PySem.W.Frag) (C fI : Addr) (fs : List Str) (i : Nat := 0) : Bool := oxB K C i && (decide (PySem.W.findIn K (.ref C) "__init__" = some (some (.ref fI))) && (decide (PySem.W.typeIn K (.ref fI) = some (.type "function")) && fs.all fun f => decide (PySem.W.findIn K (.ref C) f = some none)))
def bxiB (K : PySem.W.Frag) (B n : String) : Bool := match PySem.W.findCls K (.type B) (.type "type") "__init__" with
  | some (.val (.builtin m)) => decide (m = n)
  | _ => false
end SL
namespace K31
open PySem PySem.Spec L2 SL
open PyProof.Rows hiding St
def top (i : Nat) : Stmt := PySem.Challenge.pw_nearcall_k31_how_many_steps.main.body.getD i (.Pass ⟨0, 0, 0, 0⟩)
abbrev tfL : List He.Defn := [("law", none)]
def dd_law : He.DefD := ⟨("law", none), "law", "law", defArgs (top 43), defBody (top 43), defScope (top 43), [], []⟩
def dd_law_start : He.DefD := ⟨("_law_start", none), "_law_start", "_law_start", defArgs (top 33), defBody (top 33), defScope (top 33), [], []⟩
def dd_law_names : He.DefD := ⟨("_law_names", none), "_law_names", "_law_names", defArgs (top 38), defBody (top 38), defScope (top 38), [], []⟩
def dd_law_tower : He.DefD := ⟨("_law_tower", none), "_law_tower", "_law_tower", defArgs (top 41), defBody (top 41), defScope (top 41), [], []⟩
def dd_law_count : He.DefD := ⟨("_law_count", none), "_law_count", "_law_count", defArgs (top 40), defBody (top 40), defScope (top 40), [], []⟩
def dd_law_told : He.DefD := ⟨("_law_told", none), "_law_told", "_law_told", defArgs (top 42), defBody (top 42), defScope (top 42), [], []⟩
def dd_many_done : He.DefD := ⟨("many_done", none), "many_done", "many_done", defArgs (top 29), defBody (top 29), defScope (top 29), [], [("book", .non)]⟩
def dd_law_same : He.DefD := ⟨("_law_same", none), "_law_same", "_law_same", defArgs (top 32), defBody (top 32), defScope (top 32), [], []⟩
def dd_spelled : He.DefD := ⟨("spelled", none), "spelled", "spelled", defArgs (top 30), defBody (top 30), defScope (top 30), [], [("book", .non), ("most", .int 400)]⟩
def dd_law_draw : He.DefD := ⟨("_law_draw", none), "_law_draw", "_law_draw", defArgs (top 34), defBody (top 34), defScope (top 34), [], []⟩
def dd_law_flat_tree : He.DefD := ⟨("_law_flat_tree", none), "_law_flat_tree", "_law_flat_tree", defArgs (top 39), defBody (top 39), defScope (top 39), [], []⟩
def dd_law_letters : He.DefD := ⟨("_law_letters", none), "_law_letters", "_law_letters", defArgs (top 36), defBody (top 36), defScope (top 36), [], []⟩
def dd_law_of : He.DefD := ⟨("_law_of", none), "_law_of", "_law_of", defArgs (top 35), defBody (top 35), defScope (top 35), [], []⟩
def dd_law_number : He.DefD := ⟨("_law_number", none), "_law_number", "_law_number", defArgs (top 37), defBody (top 37), defScope (top 37), [], []⟩
def dd_look_row : He.DefD := ⟨("look_row", none), "look_row", "look_row", defArgs (top 23), defBody (top 23), defScope (top 23), [], []⟩
def dd_Counter_init : He.DefD := ⟨("Counter", some "__init__"), "__init__", "Counter.__init__", defArgs (clsDef (top 28) 0), defBody (clsDef (top 28) 0), defScope (clsDef (top 28) 0), [], []⟩
def dd_Counter_of_row : He.DefD := ⟨("Counter", some "of_row"), "of_row", "Counter.of_row", defArgs (clsDef (top 28) 3), defBody (clsDef (top 28) 3), defScope (clsDef (top 28) 3), [], []⟩
def dd_Counter_set_out : He.DefD := ⟨("Counter", some "set_out"), "set_out", "Counter.set_out", defArgs (clsDef (top 28) 4), defBody (clsDef (top 28) 4), defScope (clsDef (top 28) 4), [], []⟩
def dd_is_row : He.DefD := ⟨("is_row", none), "is_row", "is_row", defArgs (top 22), defBody (top 22), defScope (top 22), [], []⟩
def dd_Counter_of_step : He.DefD := ⟨("Counter", some "of_step"), "of_step", "Counter.of_step", defArgs (clsDef (top 28) 2), defBody (clsDef (top 28) 2), defScope (clsDef (top 28) 2), [], []⟩
def dd_is_built : He.DefD := ⟨("is_built", none), "is_built", "is_built", defArgs (top 19), defBody (top 19), defScope (top 19), [], []⟩
def dd_many_steps : He.DefD := ⟨("many_steps", none), "many_steps", "many_steps", defArgs (top 20), defBody (top 20), defScope (top 20), [], []⟩
def dd_deep_of : He.DefD := ⟨("deep_of", none), "deep_of", "deep_of", defArgs (top 21), defBody (top 21), defScope (top 21), [], []⟩
def dd_Counter_of_name : He.DefD := ⟨("Counter", some "of_name"), "of_name", "Counter.of_name", defArgs (clsDef (top 28) 1), defBody (clsDef (top 28) 1), defScope (clsDef (top 28) 1), [], []⟩
def dd_is_step : He.DefD := ⟨("is_step", none), "is_step", "is_step", defArgs (top 18), defBody (top 18), defScope (top 18), [], []⟩
def dd_row_of : He.DefD := ⟨("row_of", none), "row_of", "row_of", defArgs (top 27), defBody (top 27), defScope (top 27), [], []⟩
def dd_are_letters : He.DefD := ⟨("are_letters", none), "are_letters", "are_letters", defArgs (top 16), defBody (top 16), defScope (top 16), [], []⟩
def dd_is_name : He.DefD := ⟨("is_name", none), "is_name", "is_name", defArgs (top 15), defBody (top 15), defScope (top 15), [], []⟩
def dd_is_times : He.DefD := ⟨("is_times", none), "is_times", "is_times", defArgs (top 17), defBody (top 17), defScope (top 17), [], []⟩
def dd_HallError_init : He.DefD := ⟨("HallError", some "__init__"), "__init__", "HallError.__init__", defArgs (clsDef (top 1) 0), defBody (clsDef (top 1) 0), defScope (clsDef (top 1) 0), [], []⟩
def dd_Missing_init : He.DefD := ⟨("Missing", some "__init__"), "__init__", "Missing.__init__", defArgs (clsDef (top 2) 0), defBody (clsDef (top 2) 0), defScope (clsDef (top 2) 0), [], []⟩
def dd_BadTree_init : He.DefD := ⟨("BadTree", some "__init__"), "__init__", "BadTree.__init__", defArgs (clsDef (top 3) 0), defBody (clsDef (top 3) 0), defScope (clsDef (top 3) 0), [], []⟩
def dd_Ring_init : He.DefD := ⟨("Ring", some "__init__"), "__init__", "Ring.__init__", defArgs (clsDef (top 4) 0), defBody (clsDef (top 4) 0), defScope (clsDef (top 4) 0), [], []⟩
def dd_TooMany_init : He.DefD := ⟨("TooMany", some "__init__"), "__init__", "TooMany.__init__", defArgs (clsDef (top 5) 0), defBody (clsDef (top 5) 0), defScope (clsDef (top 5) 0), [], []⟩
def dd_NoRow_init : He.DefD := ⟨("NoRow", some "__init__"), "__init__", "NoRow.__init__", defArgs (clsDef (top 6) 0), defBody (clsDef (top 6) 0), defScope (clsDef (top 6) 0), [], []⟩
def fn : List He.DefD := [dd_law, dd_law_start, dd_law_names, dd_law_tower, dd_law_count, dd_law_told, dd_many_done, dd_law_same, dd_spelled, dd_law_draw, dd_law_flat_tree, dd_law_letters, dd_law_of, dd_law_number, dd_look_row, dd_Counter_init, dd_Counter_of_row, dd_Counter_set_out, dd_is_row, dd_Counter_of_step, dd_is_built, dd_many_steps, dd_deep_of, dd_Counter_of_name, dd_is_step, dd_row_of, dd_are_letters, dd_is_name, dd_is_times, dd_HallError_init, dd_Missing_init, dd_BadTree_init, dd_Ring_init, dd_TooMany_init, dd_NoRow_init]
def fa : List He.Fa := [.glo "_law_start", .glo "_law_names", .free "range", .glo "_law_tower", .glo "_law_count", .glo "_law_told", .glo "TooMany", .glo "many_done", .glo "_law_same", .glo "spelled", .glo "_law_draw", .free "min", .free "max", .free "list", .free "isinstance", .free "len", .glo "_law_flat_tree", .int "MOST_DONE" 1000000000000000000000000000000000000000000000000000000000000, .int "MOST_LISTED" 400, .glo "_law_letters", .glo "_law_of", .glo "_law_number", .glo "look_row", .mkr "Counter", .glo "Counter", .cls "Counter", .meth "Counter" "of_row", .free "tuple", .free "all", .free "bool", .free "str", .meth "Counter" "set_out", .glo "is_row", .glo "BadTree", .noat "Counter" "book", .noat "Counter" "known", .noat "Counter" "open_names", .meth "Counter" "of_step", .glo "is_built", .glo "many_steps", .int "MOST_STEPS" 60, .glo "deep_of", .int "MOST_DEEP" 12, .meth "Counter" "of_name", .glo "is_step", .free "sum", .glo "row_of", .glo "Ring", .glo "are_letters", .glo "is_name", .glo "is_times", .glo "NoRow", .int "MOST_SIDES" 12, .str "LETTERS" "abcdefghijklmnopqrstuvwxyzABCDEFGHIJKLMNOPQRSTUVWXYZ", .int "MOST_NAME" 8, .str "SMALL" "abcdefghijklmnopqrstuvwxyz", .free "int", .int "MOST_TIMES" 1000000000000000000000000000000, .free "ValueError", .free "LookupError", .glo "HallError", .glo "Missing", .glo "law"]
def ex (K : PySem.W.Frag) : Bool := (ctB K (He.ga K "TooMany") [(He.ga K "TooMany", true)]) && ((xfAll K [(He.ga K "TooMany", true)] ["most"]) && ((oexIB K (He.ga K "TooMany") (He.fAd K ("TooMany", some "__init__")) ["most", "word"]) && ((oexIB K (He.ga K "BadTree") (He.fAd K ("BadTree", some "__init__")) ["word"]) && ((oexIB K (He.ga K "Ring") (He.fAd K ("Ring", some "__init__")) ["name", "word"]) && ((oxIB K (He.ga K "NoRow") (He.fAd K ("NoRow", some "__init__")) ["name", "word"] 1) && ((veiB K) && ((bxiB K "LookupError" "LookupError.__init__") && ((crB K (He.ga K "HallError") (He.fAd K ("HallError", some "__init__"))) && ((crB K (He.ga K "Missing") (He.fAd K ("Missing", some "__init__"))) && (true))))))))))
def loose0 : List Str := ["HallError", "Missing", "BadTree", "Ring", "TooMany", "NoRow", "SMALL", "MOST_STEPS", "MOST_DEEP", "MOST_TIMES", "MOST_NAME", "MOST_SIDES", "LETTERS", "is_name", "are_letters", "is_times", "is_step", "is_built", "many_steps", "deep_of", "is_row", "look_row", "MOST_DONE", "MOST_LISTED"]
def loose1 : List Str := ["row_of", "Counter", "many_done", "spelled", "_law_same", "_law_start", "_law_draw", "_law_of", "_law_letters", "_law_number", "_law_names", "_law_flat_tree", "_law_count", "_law_tower", "_law_told"]
def loose : List Str := loose0 ++ loose1
abbrev R : PySem.W.OpenRow := PySem.W.OpenLaw.row PySem.Challenge.rw_nearcall_k31_how_many_steps
abbrev hk : PySem.W.Hook := hookZ 1500 fa fn tfL ex
def ob (s : PySem.W.SharedT) : He.AlD × Bool := obsZ 1500 fa fn tfL ex (HandSHeadRun.getT s)
theorem ob_eq (s : PySem.W.SharedT) : ob s = hk.obs s.abs := obsZ_eq (HandSHeadRun.getT_eq s)
theorem run (w : World) : HandSHeadRun.RunEq R (PySem.W.view R.prog [43]) hk ob 40000 loose w := by
  intro os
  kernel_rfl
end K31
namespace SL
open PySem PySem.Spec L2
open PyProof.Rows hiding St
inductive D where
  | non | bl (b : Bool) | int (i : Int) | str (l : List Nat)
  | tup (xs : List D) | lst (xs : List D) | dct (ks : List Key) (ds : List D) | obj (C : Addr) (ns : List Str) (ds : List D)
  | loc (n : Nat) | raw (v : V) | exn (a dd : Addr) (ns : List Str) (ds : List D)
structure LamT where
  q : Str
  params : Arguments
  body : Expr
  scope : Scope
def FunO (a : Addr) (κ : List (Str × Addr)) (l : LamT) (pm : Value) (c : Addr) (ctv : Value) : HO := .ext fun h => h.get? a = some (PySem.W.kla_obj "<lambda>" l.q l.params l.body l.scope (cloFrom κ l.scope.names []) pm c ctv)
inductive Cell where
  | lst (xs : List D) | dct (ks : List Key) (ds : List D) | obj (C : Addr) (ns : List Str) (ds : List D)
  | tab (P : Addr) (q : Str) | fn (κ : List (Str × Addr)) (j : Nat) (l : LamT)
  /-- a table, with it texts of no sign: tuples of nothing that stand from the beginning -/
  | emp (P : Addr) (q : Str) (es : List Addr)
abbrev Store := List Cell
abbrev DEnv := List (Option D)
structure Ex where
  C : Addr
  ns : List Str
  ds : List D
inductive Res (α : Type) where
  | ok (a : α) (S : Store)
  | exc (x : Ex) (S : Store)
  | stuck
def Res.bind {α β : Type} (r : Res α) (f : α → Store → Res β) : Res β := match r with
  | .ok a S => f a S
  | .exc x S => .exc x S
  | .stuck => .stuck
def RdT (H : Hp) (a : Addr) (vs : List V) : Prop := H a = some (.tup vs) ∨ (vs = [] ∧ ∃ ob, H a = some (.frz ob (.tup vs)))
theorem RdT.rd {H : Hp} {a : Addr} {vs : List V} (h : RdT H a vs) : Rd H a (.tup vs) := h.elim .inl fun h => .inr h.2
theorem RdT.at {H : Hp} {a : Addr} {vs : List V} (h : RdT H a vs) (hn : vs ≠ []) : H a = some (.tup vs) := h.elim id fun z => absurd z.1 hn
mutual
def Rep (H : Hp) (ρ : List Addr) : D → V → Prop
  | .non, v => v = .non
  | .bl b, v => v = .bl b
  | .int i, v => v = .int i
  | .str l, v => v = .str ⟨l.toArray⟩
  | .raw u, v => v = u
  | .loc n, v => ∃ a, ρ[n]? = some a ∧ v = .ref a
  | .tup ds, v => ∃ a vs, v = .ref a ∧ RdT H a vs ∧ a ∉ ρ ∧ Reps H ρ ds vs
  | .lst ds, v => ∃ a vs, v = .ref a ∧ H a = some (.lst vs) ∧ a ∉ ρ ∧ Reps H ρ ds vs
  | .dct ks ds, v => ∃ a vs, v = .ref a ∧ Rd H a (.dK (ks.zip vs)) ∧ a ∉ ρ ∧ ks.length = ds.length ∧ Reps H ρ ds vs
  | .obj C ns ds, v => ∃ a dx vs, v = .ref a ∧ H a = some (.ins C dx (ns.zip vs)) ∧ a ∉ ρ ∧ ns.length = ds.length ∧ Reps H ρ ds vs
  | .exn a dd ns ds, v => ∃ vs, v = .ref a ∧ H dd = some (.xd (ns.zip vs)) ∧ dd ∉ ρ ∧ ns.length = ds.length ∧ Reps H ρ ds vs
def Reps (H : Hp) (ρ : List Addr) : List D → List V → Prop
  | [], vs => vs = []
  | d :: ds, vs => ∃ v r, vs = v :: r ∧ Rep H ρ d v ∧ Reps H ρ ds r
end
def TabR (H : Hp) (ρ : List Addr) (a P : Addr) (q : Str) : Prop := a = P ∧ ∃ ps : Array Value, H a = some (.tbl ps) ∧ TriplesOk ps.toList ∧ ∀ (pos : Pos) (cv : Value), codeAmong pos ps.toList = some cv → ∃ c, cv = .ref c ∧ H c = some (LamX.CodeO c q) ∧ c ∉ ρ
def RepC (H : Hp) (ρ : List Addr) (a : Addr) : Cell → Prop
  | .lst ds => ∃ vs, H a = some (.lst vs) ∧ Reps H ρ ds vs
  | .dct ks ds => ∃ vs, H a = some (.dK (ks.zip vs)) ∧ ks.length = ds.length ∧ Reps H ρ ds vs
  | .obj C ns ds => ∃ dx vs, H a = some (.ins C dx (ns.zip vs)) ∧ ns.length = ds.length ∧ Reps H ρ ds vs
  | .tab P q => TabR H ρ a P q
  | .emp P q es => TabR H ρ a P q ∧ ∀ e ∈ es, (∃ ob, H e = some (.frz ob (.tup []))) ∧ e ∉ ρ
  | .fn κ _ l => ∃ (pm : Value) (c : Addr) (ctv : Value), H a = some (FunO a κ l pm c ctv) ∧ H c = some (LamX.CodeO c l.q) ∧ c ∉ ρ
def RepX (H : Hp) (ρ : List Addr) (x : Ex) (cls : Value) (dd : Option Addr) : Prop :=
  cls = .ref x.C ∧ ∃ d vs, dd = some d ∧ H d = some (.xd (x.ns.zip vs)) ∧ d ∉ ρ ∧ x.ns.length = x.ds.length ∧ Reps H ρ x.ds vs
structure StS (H : Hp) (S : Store) (ρ : List Addr) : Prop where
  len : ρ.length = S.length
  nd : ρ.Nodup
  cells : ∀ (n : Nat) (a : Addr) (c : Cell), ρ[n]? = some a → S[n]? = some c → RepC H ρ a c
def EnvS (H : Hp) (ρ : List Addr) (δ : DEnv) (σ : St) : Prop := δ.length = σ.length ∧ ∀ (i : Nat) (d : D), δ[i]? = some (some d) → ∃ v, σ[i]? = some (some v) ∧ Rep H ρ d v
structure StE (σ : St) (H : Hp) (δ : DEnv) (S : Store) (ρ : List Addr) : Prop where
  st : StS H S ρ
  env : EnvS H ρ δ σ
structure Nx (H : Hp) (ρ : List Addr) (H' : Hp) (ρ' : List Addr) : Prop where
  pre : ∃ t, ρ' = ρ ++ t
  new : ∀ a, a ∈ ρ' → a ∉ ρ → H a = none
  thr : ∀ a, H' a = none → H a = none
  stay : ∀ a o, H a = some o → a ∉ ρ → (∀ ps, o ≠ .tbl ps) → H' a = some o
  tbl : ∀ a ps, H a = some (.tbl ps) → a ∉ ρ → ∃ more, H' a = some (.tbl (ps ++ more))
section
variable {H H' H1 H2 : Hp} {ρ ρ' ρ1 ρ2 : List Addr} {a p : Addr} {o : HO}
theorem Nx.refl (H : Hp) (ρ : List Addr) : Nx H ρ H ρ := ⟨⟨[], by simp⟩, fun a h n => absurd h n, fun a h => h, fun a o h _ _ => h, fun a ps h _ => ⟨#[], by simpa using h⟩⟩
theorem Nx.mem (n : Nx H ρ H' ρ') (h : a ∈ ρ) : a ∈ ρ' := by
  obtain ⟨t, rfl⟩ := n.pre
  exact List.mem_append_left _ h
theorem Nx.notin (n : Nx H ρ H' ρ') (h : H a = some o) (k : a ∉ ρ) : a ∉ ρ' := fun z => by
  have := n.new a z k
  rw [h] at this
  cases this
theorem Nx.at (n : Nx H ρ H' ρ') {i : Nat} (h : ρ[i]? = some a) : ρ'[i]? = some a := by
  obtain ⟨t, rfl⟩ := n.pre
  have hl := (List.getElem?_eq_some_iff.mp h).1
  rw [List.getElem?_append_left hl]
  exact h
theorem Nx.trans (a : Nx H ρ H1 ρ1) (b : Nx H1 ρ1 H2 ρ2) : Nx H ρ H2 ρ2 where
  pre := by
    obtain ⟨t, rfl⟩ := a.pre
    obtain ⟨u, rfl⟩ := b.pre
    exact ⟨t ++ u, by simp⟩
  new := fun x h n => by
    by_cases h1 : x ∈ ρ1
    · exact a.new x h1 n
    · exact a.thr x (b.new x h h1)
  thr := fun x h => a.thr x (b.thr x h)
  stay := fun x o h n t => b.stay x o (a.stay x o h n t) (a.notin h n) t
  tbl := fun x ps h n => by
    obtain ⟨m, e⟩ := a.tbl x ps h n
    obtain ⟨m2, e2⟩ := b.tbl x _ e (a.notin h n)
    exact ⟨m ++ m2, by rw [e2, Array.append_assoc]⟩
theorem Nx.alloc (hp : H p = none) : Nx H ρ (upd H p o) ρ where
  pre := ⟨[], by simp⟩
  new := fun a h n => absurd h n
  thr := fun a h => by
    by_cases e : a = p
    · rw [e]; exact hp
    · rw [upd_ne e] at h; exact h
  stay := fun a u h _ _ => by rw [upd_ne (ne_of_none h hp)]; exact h
  tbl := fun a ps h _ => ⟨#[], by rw [upd_ne (ne_of_none h hp), h]; simp⟩
theorem Nx.push (hp : H p = none) : Nx H ρ (upd H p o) (ρ ++ [p]) where
  pre := ⟨[p], rfl⟩
  new := fun a h n => by
    rcases List.mem_append.mp h with h | h
    · exact absurd h n
    · rw [List.mem_singleton.mp h]; exact hp
  thr := (Nx.alloc (ρ := ρ) hp).thr
  stay := (Nx.alloc (ρ := ρ) hp).stay
  tbl := (Nx.alloc (ρ := ρ) hp).tbl
theorem Nx.set (ha : a ∈ ρ) (hn : H a ≠ none) : Nx H ρ (upd H a o) ρ where
  pre := ⟨[], by simp⟩
  new := fun b h n => absurd h n
  thr := fun b h => by
    by_cases e : b = a
    · rw [e, upd_same] at h; cases h
    · rw [upd_ne e] at h; exact h
  stay := fun b u h n _ => by rw [upd_ne (fun e => n (by rw [e]; exact ha))]; exact h
  tbl := fun b ps h n => ⟨#[], by rw [upd_ne (fun e => n (by rw [e]; exact ha)), h]; simp⟩
end
section
variable {H H' : Hp} {ρ ρ' : List Addr} {a p : Addr} {o : HO} {xs : List V}
mutual
theorem Rep.mono (n : Nx H ρ H' ρ') : ∀ (d : D) (v : V), Rep H ρ d v → Rep H' ρ' d v
  | .non, v, h => h
  | .bl b, v, h => h
  | .int i, v, h => h
  | .str x, v, h => h
  | .raw u, v, h => h
  | .loc m, v, h => by
    obtain ⟨a, h1, h2⟩ := h
    exact ⟨a, n.at h1, h2⟩
  | .tup ds, v, h => by
    obtain ⟨a, vs, e, h1, k, h2⟩ := h
    rcases h1 with h1 | ⟨e0, od, h1⟩
    · exact ⟨a, vs, e, .inl (n.stay a _ h1 k (fun ps z => by cases z)), n.notin h1 k, Reps.mono n ds vs h2⟩
    · exact ⟨a, vs, e, .inr ⟨e0, od, n.stay a _ h1 k (fun ps z => by cases z)⟩, n.notin h1 k, Reps.mono n ds vs h2⟩
  | .lst ds, v, h => by
    obtain ⟨a, vs, e, h1, k, h2⟩ := h
    exact ⟨a, vs, e, n.stay a _ h1 k (fun ps z => by cases z), n.notin h1 k, Reps.mono n ds vs h2⟩
  | .dct ks ds, v, h => by
    obtain ⟨a, vs, e, h1, k, l, h2⟩ := h
    rcases h1 with h1 | ⟨od, h1⟩
    · exact ⟨a, vs, e, .inl (n.stay a _ h1 k (fun ps z => by cases z)), n.notin h1 k, l, Reps.mono n ds vs h2⟩
    · exact ⟨a, vs, e, .inr ⟨od, n.stay a _ h1 k (fun ps z => by cases z)⟩, n.notin h1 k, l, Reps.mono n ds vs h2⟩
  | .obj C ns ds, v, h => by
    obtain ⟨a, dx, vs, e, h1, k, l, h2⟩ := h
    exact ⟨a, dx, vs, e, n.stay a _ h1 k (fun ps z => by cases z), n.notin h1 k, l, Reps.mono n ds vs h2⟩
  | .exn a dd ns ds, v, h => by
    obtain ⟨vs, e, h1, k, l, h2⟩ := h
    exact ⟨vs, e, n.stay dd _ h1 k (fun ps z => by cases z), n.notin h1 k, l, Reps.mono n ds vs h2⟩
theorem Reps.mono (n : Nx H ρ H' ρ') : ∀ (ds : List D) (vs : List V), Reps H ρ ds vs → Reps H' ρ' ds vs
  | [], vs, h => h
  | d :: ds, vs, h => by
    obtain ⟨v, r, e, h1, h2⟩ := h
    exact ⟨v, r, e, Rep.mono n d v h1, Reps.mono n ds r h2⟩
end
theorem Reps.len : ∀ {ds : List D} {vs : List V}, Reps H ρ ds vs → ds.length = vs.length
  | [], vs, h => by cases h; rfl
  | d :: ds, vs, h => by
    obtain ⟨v, r, rfl, _, h2⟩ := h
    simp [Reps.len h2]
theorem Reps.getD : ∀ {ds : List D} {vs : List V} {i : Nat} {d : D}, Reps H ρ ds vs → ds[i]? = some d → ∃ v, vs[i]? = some v ∧ Rep H ρ d v
  | [], vs, i, d, h, e => by simp at e
  | d' :: ds, vs, 0, d, h, e => by
    obtain ⟨v, r, rfl, h1, h2⟩ := h
    simp at e
    subst e
    exact ⟨v, rfl, h1⟩
  | d' :: ds, vs, i + 1, d, h, e => by
    obtain ⟨v, r, rfl, h1, h2⟩ := h
    simp at e
    obtain ⟨v', e1, e2⟩ := Reps.getD h2 e
    exact ⟨v', by simpa using e1, e2⟩
theorem Reps.append : ∀ {ds es : List D} {vs us : List V}, Reps H ρ ds vs → Reps H ρ es us → Reps H ρ (ds ++ es) (vs ++ us)
  | [], es, vs, us, h, k => by cases h; exact k
  | d :: ds, es, vs, us, h, k => by
    obtain ⟨v, r, rfl, h1, h2⟩ := h
    exact ⟨v, r ++ us, rfl, h1, Reps.append h2 k⟩
theorem Reps.nil : Reps H ρ [] [] := rfl
theorem Reps.cons {d : D} {v : V} {ds : List D} {vs : List V} (h : Rep H ρ d v) (k : Reps H ρ ds vs) : Reps H ρ (d :: ds) (v :: vs) := ⟨v, vs, rfl, h, k⟩
theorem Reps.one {d : D} {v : V} (h : Rep H ρ d v) : Reps H ρ [d] [v] := ⟨v, [], rfl, h, rfl⟩
theorem Reps.take : ∀ {ds : List D} {vs : List V} (n : Nat), Reps H ρ ds vs → Reps H ρ (ds.take n) (vs.take n)
  | ds, vs, 0, h => rfl
  | [], vs, n + 1, h => by cases h; rfl
  | d :: ds, vs, n + 1, h => by
    obtain ⟨v, r, rfl, h1, h2⟩ := h
    exact ⟨v, _, rfl, h1, Reps.take n h2⟩
theorem Reps.drop : ∀ {ds : List D} {vs : List V} (n : Nat), Reps H ρ ds vs → Reps H ρ (ds.drop n) (vs.drop n)
  | ds, vs, 0, h => h
  | [], vs, n + 1, h => by cases h; rfl
  | d :: ds, vs, n + 1, h => by
    obtain ⟨v, r, rfl, h1, h2⟩ := h
    exact Reps.drop n h2
theorem Reps.set : ∀ {ds : List D} {vs : List V} (n : Nat) {d : D} {v : V}, Reps H ρ ds vs → Rep H ρ d v → Reps H ρ (ds.set n d) (vs.set n v)
  | [], vs, n, d, v, h, k => by cases h; rfl
  | d' :: ds, vs, 0, d, v, h, k => by
    obtain ⟨v', r, rfl, h1, h2⟩ := h
    exact ⟨v, r, rfl, k, h2⟩
  | d' :: ds, vs, n + 1, d, v, h, k => by
    obtain ⟨v', r, rfl, h1, h2⟩ := h
    exact ⟨v', _, rfl, h1, Reps.set n h2 k⟩
theorem Reps.reverse : ∀ {ds : List D} {vs : List V}, Reps H ρ ds vs → Reps H ρ ds.reverse vs.reverse
  | [], vs, h => by cases h; rfl
  | d :: ds, vs, h => by
    obtain ⟨v, r, rfl, h1, h2⟩ := h
    rw [List.reverse_cons, List.reverse_cons]
    exact (Reps.reverse h2).append (Reps.one h1)
theorem TabR.mono {P : Addr} {q : Str} (n : Nx H ρ H' ρ') (e : H' a = H a) (h : TabR H ρ a P q) : TabR H' ρ' a P q := by
  obtain ⟨h0, ps, h1, h2, h3⟩ := h
  refine ⟨h0, ps, e.trans h1, h2, fun pos cv hc => ?_⟩
  obtain ⟨c, e1, e2, e3⟩ := h3 pos cv hc
  exact ⟨c, e1, n.stay c _ e2 e3 fun ps => LamX.codeO_ne ps, n.notin e2 e3⟩
theorem RepC.mono {c : Cell} (n : Nx H ρ H' ρ') (e : H' a = H a) (h : RepC H ρ a c) : RepC H' ρ' a c := by
  cases c with
  | lst ds =>
    obtain ⟨vs, h1, h2⟩ := h
    exact ⟨vs, e.trans h1, Reps.mono n _ _ h2⟩
  | dct ks ds =>
    obtain ⟨vs, h1, l, h2⟩ := h
    exact ⟨vs, e.trans h1, l, Reps.mono n _ _ h2⟩
  | obj C ns ds =>
    obtain ⟨dx, vs, h1, l, h2⟩ := h
    exact ⟨dx, vs, e.trans h1, l, Reps.mono n _ _ h2⟩
  | tab P q => exact TabR.mono n e h
  | emp P q es =>
    refine ⟨TabR.mono n e h.1, fun x hx => ?_⟩
    obtain ⟨⟨ob, h1⟩, h2⟩ := h.2 x hx
    exact ⟨⟨ob, n.stay x _ h1 h2 fun ps z => by cases z⟩, n.notin h1 h2⟩
  | fn κ j l =>
    obtain ⟨pm, c, ctv, h1, h2, h3⟩ := h
    exact ⟨pm, c, ctv, e.trans h1, n.stay c _ h2 h3 fun ps => LamX.codeO_ne ps, n.notin h2 h3⟩
theorem RepC.ne {c : Cell} (h : RepC H ρ a c) : H a ≠ none := by
  cases c with
  | lst ds => obtain ⟨vs, h1, _⟩ := h; rw [h1]; simp
  | dct ks ds => obtain ⟨vs, h1, _⟩ := h; rw [h1]; simp
  | obj C ns ds => obtain ⟨dx, vs, h1, _⟩ := h; rw [h1]; simp
  | tab P q => obtain ⟨_, ps, h1, _⟩ := h; rw [h1]; simp
  | emp P q es => obtain ⟨⟨_, ps, h1, _⟩, _⟩ := h; rw [h1]; simp
  | fn κ j l => obtain ⟨_, _, _, h1, _⟩ := h; rw [h1]; simp
variable {S : Store}
theorem StS.trk (h : StS H S ρ) (ha : a ∈ ρ) : H a ≠ none := by
  obtain ⟨n, hn, e⟩ := List.getElem_of_mem ha
  have e1 : ρ[n]? = some a := by rw [List.getElem?_eq_getElem hn, e]
  have hS : n < S.length := by rw [← h.len]; exact hn
  exact (h.cells n a _ e1 (List.getElem?_eq_getElem hS)).ne
theorem StS.alloc (h : StS H S ρ) (hp : H p = none) : StS (upd H p o) S ρ :=
  ⟨h.len, h.nd, fun n a c e1 e2 => (h.cells n a c e1 e2).mono (Nx.alloc hp) (upd_ne (fun z => by
    have := (h.cells n a c e1 e2).ne
    rw [z] at this
    exact this hp))⟩
theorem StS.push {c : Cell} (h : StS H S ρ) (hp : H p = none) (hc : RepC (upd H p o) (ρ ++ [p]) p c) : StS (upd H p o) (S ++ [c]) (ρ ++ [p]) := by
  have hpn : p ∉ ρ := fun z => h.trk z hp
  refine ⟨by simp [h.len], ?_, fun n a c' e1 e2 => ?_⟩
  · rw [List.nodup_append]
    refine ⟨h.nd, by simp, fun x hx y hy => ?_⟩
    rw [List.mem_singleton] at hy
    intro z
    subst z
    subst hy
    exact hpn hx
  · by_cases hn : n < ρ.length
    · rw [List.getElem?_append_left hn] at e1
      rw [List.getElem?_append_left (by rw [← h.len]; exact hn)] at e2
      refine (h.cells n a c' e1 e2).mono (Nx.push hp) (upd_ne (fun z => ?_))
      subst z
      exact hpn (List.mem_of_getElem? e1)
    · have hn' : ρ.length ≤ n := Nat.le_of_not_lt hn
      rw [List.getElem?_append_right hn'] at e1
      rw [List.getElem?_append_right (by rw [← h.len]; exact hn')] at e2
      have hz : n - ρ.length = 0 := by
        rcases Nat.eq_zero_or_pos (n - ρ.length) with z | z
        · exact z
        · rw [List.getElem?_eq_none (by simp only [List.length_singleton]; omega)] at e1
          cases e1
      rw [hz] at e1
      rw [← h.len, hz] at e2
      simp at e1 e2
      subst e1
      subst e2
      exact hc
theorem StS.set {c : Cell} {n : Nat} (h : StS H S ρ) (ha : ρ[n]? = some a) (hc : RepC (upd H a o) ρ a c) : StS (upd H a o) (S.set n c) ρ := by
  have hm : a ∈ ρ := List.mem_of_getElem? ha
  have nx : Nx H ρ (upd H a o) ρ := Nx.set hm (h.trk hm)
  refine ⟨by simp [h.len], h.nd, fun m b c' e1 e2 => ?_⟩
  by_cases hmn : m = n
  · subst hmn
    rw [ha] at e1
    cases e1
    have hl : m < S.length := by rw [← h.len]; exact (List.getElem?_eq_some_iff.mp ha).1
    rw [List.getElem?_set_self hl] at e2
    cases e2
    exact hc
  · rw [List.getElem?_set_ne (fun z => hmn z.symm)] at e2
    refine (h.cells m b c' e1 e2).mono nx (upd_ne (fun z => hmn ?_))
    subst z
    exact (List.getElem?_inj (List.getElem?_eq_some_iff.mp e1).1 h.nd).mp (e1.trans ha.symm)
theorem EnvS.mono {δ : DEnv} {σ : St} (n : Nx H ρ H' ρ') (h : EnvS H ρ δ σ) : EnvS H' ρ' δ σ := ⟨h.1, fun i d e => by
  obtain ⟨v, e1, r⟩ := h.2 i d e
  exact ⟨v, e1, Rep.mono n _ _ r⟩⟩
theorem EnvS.set {δ : DEnv} {σ : St} {d : D} {v : V} (i : Nat) (h : EnvS H ρ δ σ) (r : Rep H ρ d v) : EnvS H ρ (δ.set i (some d)) (σ.set i (some v)) := by
  refine ⟨by simp [h.1], fun j d' e => ?_⟩
  by_cases hj : j = i
  · subst hj
    by_cases hl : j < δ.length
    · rw [List.getElem?_set_self hl] at e
      cases e
      exact ⟨v, by rw [List.getElem?_set_self (by rw [← h.1]; exact hl)], r⟩
    · rw [List.getElem?_eq_none (by simpa using hl)] at e
      cases e
  · rw [List.getElem?_set_ne (fun z => hj z.symm)] at e ⊢
    exact h.2 j d' e
theorem EnvS.unset {δ : DEnv} {σ : St} {w : Option V} (i : Nat) (h : EnvS H ρ δ σ) : EnvS H ρ (δ.set i none) (σ.set i w) := by
  refine ⟨by simp [h.1], fun j d' e => ?_⟩
  by_cases hj : j = i
  · subst hj
    by_cases hl : j < δ.length
    · rw [List.getElem?_set_self hl] at e
      cases e
    · rw [List.getElem?_eq_none (by simpa using hl)] at e
      cases e
  · rw [List.getElem?_set_ne (fun z => hj z.symm)] at e ⊢
    exact h.2 j d' e
theorem StE.next {σ : St} {δ : DEnv} {S' : Store} (I : StE σ H δ S ρ) (n : Nx H ρ H' ρ') (h : StS H' S' ρ') : StE σ H' δ S' ρ' := ⟨h, I.env.mono n⟩
end
section
variable (W : WX) {α β : Type} (R : Hp → List Addr → α → β → Prop)
def RunG (σ : St) (H : Hp) (ρ : List Addr) (r : Res α) (Q : β → Hp → Prop) : Prop := match r with
  | .ok a S' => ∀ b H' ρ', Nx H ρ H' ρ' → StS H' S' ρ' → R H' ρ' a b → Q b H'
  | .exc x S' => ∀ c dd H' ρ', Nx H ρ H' ρ' → StS H' S' ρ' → RepX H' ρ' x c dd → W c dd σ H'
  | .stuck => False
def tG (m : DEnv → Store → Res α) : St → Hp → (β → Hp → Prop) → Prop := fun σ H Q => ∃ δ S ρ, StE σ H δ S ρ ∧ RunG W R σ H ρ (m δ S) Q
end
abbrev tE (W : WX) (m : DEnv → Store → Res D) : TE := tG W (Rep) m
abbrev tA (W : WX) (m : DEnv → Store → Res (List D)) : TA := tG W (Reps) m
abbrev EqR : Hp → List Addr → Bool → Bool → Prop := fun _ _ a b => a = b
abbrev tT (W : WX) (m : DEnv → Store → Res Bool) : TT := tG W EqR m
section
variable {W : WX} {α β α2 β2 : Type} {R : Hp → List Addr → α → β → Prop} {R2 : Hp → List Addr → α2 → β2 → Prop} {σ : St} {H : Hp} {δ : DEnv} {S : Store} {ρ : List Addr}
theorem bindG {m1 : DEnv → Store → Res α} {k : α → Store → Res α2} {Q : β2 → Hp → Prop} {P : β → Hp → Prop} (I : StE σ H δ S ρ) (h : RunG W R2 σ H ρ ((m1 δ S).bind k) Q)
    (hk : ∀ a b S1 H1 ρ1, Nx H ρ H1 ρ1 → StE σ H1 δ S1 ρ1 → R H1 ρ1 a b → RunG W R2 σ H1 ρ1 (k a S1) Q → P b H1) : tG W R m1 σ H P := by
  refine ⟨δ, S, ρ, I, ?_⟩
  cases e : m1 δ S with
  | ok a S1 =>
    rw [e] at h
    intro b H1 ρ1 n st r
    refine hk a b S1 H1 ρ1 n (I.next n st) r ?_
    have h' : RunG W R2 σ H ρ (k a S1) Q := h
    cases e2 : k a S1 with
    | ok a2 S2 =>
      rw [e2] at h'
      exact fun b2 H2 ρ2 n2 st2 r2 => h' b2 H2 ρ2 (n.trans n2) st2 r2
    | exc x S2 =>
      rw [e2] at h'
      exact fun c dd H2 ρ2 n2 st2 r2 => h' c dd H2 ρ2 (n.trans n2) st2 r2
    | stuck =>
      rw [e2] at h'
      exact h'
  | exc x S1 =>
    rw [e] at h
    exact h
  | stuck =>
    rw [e] at h
    exact h
theorem RunG.ok {a : α} {b : β} {Q : β → Hp → Prop} (h : RunG W R σ H ρ (.ok a S) Q) (st : StS H S ρ) (r : R H ρ a b) : Q b H := h b H ρ (Nx.refl H ρ) st r
theorem RunG.okN {a : α} {b : β} {Q : β → Hp → Prop} {H' : Hp} {ρ' : List Addr} (h : RunG W R σ H ρ (.ok a S) Q) (n : Nx H ρ H' ρ') (st : StS H' S ρ') (r : R H' ρ' a b) : Q b H' := h b H' ρ' n st r
theorem RunG.imp {r : Res α} {Q Q' : β → Hp → Prop} (h : RunG W R σ H ρ r Q) (hq : ∀ b H', Q b H' → Q' b H') : RunG W R σ H ρ r Q' := by
  cases r with
  | ok a S' => exact fun b H' ρ' n st rr => hq _ _ (h b H' ρ' n st rr)
  | exc x S' => exact h
  | stuck => exact h
end
theorem PE.weak {X : Cx} {e : Expr} {t t' : TE} (h : PE X e t) (hw : ∀ σ H Q, t' σ H Q → t σ H Q) : PE X e t' := ⟨fun pins s σ H Q I q => h.run pins s σ H Q I (hw _ _ _ q)⟩
theorem PT.weak {X : Cx} {e : Expr} {t t' : TT} (h : PT X e t) (hw : ∀ σ H Q, t' σ H Q → t σ H Q) : PT X e t' := ⟨fun pins s σ H Q I q => h.run pins s σ H Q I (hw _ _ _ q)⟩
theorem PW.weak {X : Cx} {e : Expr} {t t' : TT} (h : PW X e t) (hw : ∀ σ H Q, t' σ H Q → t σ H Q) : PW X e t' := ⟨fun w pins s σ H Q I q => h.run w pins s σ H Q I (hw _ _ _ q)⟩
theorem PA.weak {X : Cx} {es : List Expr} {t t' : TA} (h : PA X es t) (hw : ∀ σ H Q, t' σ H Q → t σ H Q) : PA X es t' := ⟨fun p pins s σ H Q I q => h.run p pins s σ H Q I (hw _ _ _ q)⟩
theorem PS.weak {X : Cx} {e : Stmt} {t t' : TS} (h : PS X e t) (hw : ∀ D σ H, t' D σ H → t D σ H) : PS X e t' := ⟨fun pins s σ H D I q => h.run pins s σ H D I (hw _ _ _ q)⟩
theorem PSs.weak {X : Cx} {e : List Stmt} {t t' : TS} (h : PSs X e t) (hw : ∀ D σ H, t' D σ H → t D σ H) : PSs X e t' := ⟨fun pins s σ H D I q => h.run pins s σ H D I (hw _ _ _ q)⟩
abbrev ME := DEnv → Store → Res D
abbrev MB := DEnv → Store → Res Bool
abbrev MA := DEnv → Store → Res (List D)
def RO {α : Type} (o : Option α) (S : Store) : Res α := match o with
  | some a => .ok a S
  | none => .stuck
@[simp] theorem RO_some {α : Type} (a : α) (S : Store) : RO (some a) S = .ok a S := rfl
@[simp] theorem RO_none {α : Type} (S : Store) : RO (none : Option α) S = .stuck := rfl
@[simp] theorem bind_ok {α β : Type} (a : α) (S : Store) (f : α → Store → Res β) : (Res.ok a S).bind f = f a S := rfl
@[simp] theorem bind_exc {α β : Type} (x : Ex) (S : Store) (f : α → Store → Res β) : (Res.exc x S : Res α).bind f = .exc x S := rfl
@[simp] theorem bind_stuck {α β : Type} (f : α → Store → Res β) : (Res.stuck : Res α).bind f = .stuck := rfl
def vM (i : Nat) : ME := fun δ S => match δ[i]? with
  | some (some d) => .ok d S
  | _ => .stuck
def cM (d : D) : ME := fun _ S => .ok d S
def op2M (g : Store → D → D → Option D) (ma mb : ME) : ME := fun δ S => (ma δ S).bind fun x S1 => (mb δ S1).bind fun y S2 => RO (g S2 x y) S2
def op1M (g : Store → D → Option D) (ma : ME) : ME := fun δ S => (ma δ S).bind fun x S1 => RO (g S1 x) S1
def nilM : MA := fun _ S => .ok [] S
def consM (ma : ME) (mr : MA) : MA := fun δ S => (ma δ S).bind fun x S1 => (mr δ S1).bind fun r S2 => .ok (x :: r) S2
def callG (g : Store → List D → Option D) (ms : MA) : ME := fun δ S => (ms δ S).bind fun xs S1 => RO (g S1 xs) S1
section
variable {X : Cx} {W : WX} {a b e : Expr} {es : List Expr} {ma mb me : ME} {ms : MA} {pos : Pos}
abbrev KD (H : Hp) (ρ : List Addr) (S : Store) (z : D) (Q : VK) : Prop := ∀ w H', Nx H ρ H' ρ → StS H' S ρ → Rep H' ρ z w → Q w H'
theorem KD.now {H : Hp} {ρ : List Addr} {S : Store} {z : D} {Q : VK} (k : KD H ρ S z Q) (st : StS H S ρ) {w : V} (r : Rep H ρ z w) : Q w H := k w H (Nx.refl H ρ) st r
theorem KD.lst {H : Hp} {ρ : List Addr} {S : Store} {ds : List D} {vs : List V} {Q : VK} (k : KD H ρ S (.lst ds) Q) (st : StS H S ρ) (r : Reps H ρ ds vs) {p : Addr} (hp : H p = none) : Q (.ref p) (upd H p (.lst vs)) :=
  k (.ref p) _ (Nx.alloc hp) (st.alloc hp) ⟨p, vs, rfl, upd_same, fun z => st.trk z hp, Reps.mono (Nx.alloc hp) _ _ r⟩
theorem KD.tup {H : Hp} {ρ : List Addr} {S : Store} {ds : List D} {vs : List V} {Q : VK} (k : KD H ρ S (.tup ds) Q) (st : StS H S ρ) (r : Reps H ρ ds vs) {p : Addr} (hp : H p = none) : Q (.ref p) (upd H p (.tup vs)) :=
  k (.ref p) _ (Nx.alloc hp) (st.alloc hp) ⟨p, vs, rfl, .inl upd_same, fun z => st.trk z hp, Reps.mono (Nx.alloc hp) _ _ r⟩
def OpSnd (r : R2) (g : Store → D → D → Option D) : Prop := ∀ (H : Hp) (ρ : List Addr) (S : Store) (x y z : D) (v u : V) (Q : VK), StS H S ρ → Rep H ρ x v → Rep H ρ y u → g S x y = some z → KD H ρ S z Q → r v u H Q
def CaSnd (r : List V → Hp → VK → Prop) (g : Store → List D → Option D) : Prop := ∀ (H : Hp) (ρ : List Addr) (S : Store) (xs : List D) (z : D) (vs : List V) (Q : VK), StS H S ρ → Reps H ρ xs vs → g S xs = some z → KD H ρ S z Q → r vs H Q
theorem RunG.ro {α β : Type} {R : Hp → List Addr → α → β → Prop} {σ : St} {H : Hp} {ρ : List Addr} {o : Option α} {S : Store} {Q : β → Hp → Prop} (h : RunG W R σ H ρ (RO o S) Q) : ∃ a, o = some a ∧ ∀ b H' ρ', Nx H ρ H' ρ' → StS H' S ρ' → R H' ρ' a b → Q b H' := by
  cases o with
  | none => exact False.elim h
  | some a => exact ⟨a, rfl, h⟩
theorem OpSnd.tE {r : R2} {g : Store → D → D → Option D} (s : OpSnd r g) (σ : St) (H : Hp) (Q : VK) (h : tE W (op2M g ma mb) σ H Q) : tOp r (tE W ma) (tE W mb) σ H Q := by
  obtain ⟨δ, S, ρ, I, h⟩ := h
  refine bindG I h fun x v S1 H1 ρ1 n1 I1 r1 h1 => ?_
  refine bindG I1 h1 fun y u S2 H2 ρ2 n2 I2 r2 h2 => ?_
  obtain ⟨z, e, k⟩ := h2.ro
  exact s H2 ρ2 S2 x y z v u Q I2.st (Rep.mono n2 _ _ r1) r2 e fun w H' n st r => k w H' ρ2 n st r
theorem pd_op {op : Operator} {r : R2} {g : Store → D → D → Option D} (ho : OpR X (binaryOp op) r) (s : OpSnd r g) (ha : PE X a (tE W ma)) (hb : PE X b (tE W mb)) : PE X (.BinOp a op b pos) (tE W (op2M g ma mb)) :=
  PE.weak (pe_op ho ha hb) s.tE
theorem pd_cmp {op : CmpOp} {r : R2} {g : Store → D → D → Option D} (ho : OpR X (compareOp op) r) (s : OpSnd r g) (ha : PE X a (tE W ma)) (hb : PE X b (tE W mb)) (hm : behindInMarks op b = false := by first | exact nomark _ | rfl) : PE X (.Compare a [op] [b] pos) (tE W (op2M g ma mb)) :=
  PE.weak (pe_cmpR ho ha hb hm) s.tE
def asB (o : Option D) : Option Bool := match o with
  | some (.bl b) => some b
  | _ => none
def cmpB (g : Store → D → D → Option D) (ma mb : ME) : MB := fun δ S => (ma δ S).bind fun x S1 => (mb δ S1).bind fun y S2 => RO (asB (g S2 x y)) S2
theorem pd_cmpT {op : CmpOp} {r : R2} {g : Store → D → D → Option D} (ho : OpR X (compareOp op) r) (s : OpSnd r g) (ha : PE X a (tE W ma)) (hb : PE X b (tE W mb)) (hm : behindInMarks op b = false := by first | exact nomark _ | rfl) : PT X (.Compare a [op] [b] pos) (tT W (cmpB g ma mb)) := by
  refine PT.weak (pt_cmpR ho ha hb hm) fun σ H Q h => ?_
  obtain ⟨δ, S, ρ, I, h⟩ := h
  refine bindG I h fun x v S1 H1 ρ1 n1 I1 r1 h1 => ?_
  refine bindG I1 h1 fun y u S2 H2 ρ2 n2 I2 r2 h2 => ?_
  obtain ⟨z, e, k⟩ := h2.ro
  cases eg : g S2 x y with
  | none => rw [eg] at e; cases e
  | some d =>
    rw [eg] at e
    cases d with
    | bl c =>
      have ez : c = z := Option.some.inj e
      subst ez
      exact s H2 ρ2 S2 x y (.bl c) v u _ I2.st (Rep.mono n2 _ _ r1) r2 eg fun w H' n st r => ⟨c, r, k c H' ρ2 n st rfl⟩
    | _ => cases e
theorem tE_var {i : Nat} (σ : St) (H : Hp) (Q : VK) (h : tE W (vM i) σ H Q) : tVar i σ H Q := by
  obtain ⟨δ, S, ρ, I, h⟩ := h
  unfold vM at h
  split at h
  · rename_i d e
    obtain ⟨v, e1, r⟩ := I.env.2 i d e
    exact ⟨v, e1, h.ok I.st r⟩
  · exact False.elim h
theorem pd_var (i : Nat) {x : Str} {pos : Pos} (hN : X.N[i]? = some x := by rfl) (hv : Vis X.env.scope x := by first | exact Or.inl rfl | exact Or.inr (Or.inl rfl) | exact Or.inr (Or.inr rfl)) (hd : (x == ("__debug__" : Str)) = false := by decide)
    (hcd : (x == ("__classdict__" : Str)) = false := by decide) : PE X (.Name x pos) (tE W (vM i)) := PE.weak (pe_var hN hv hd hcd) tE_var
theorem tE_c {d : D} {v : V} (hr : ∀ H ρ, Rep H ρ d v) (σ : St) (H : Hp) (Q : VK) (h : tE W (cM d) σ H Q) : tC v σ H Q := by
  obtain ⟨δ, S, ρ, I, h⟩ := h
  exact RunG.ok h I.st (hr _ _)
theorem pd_int {i : Int} {j : Nat} : PE X (.Constant (.int i) j pos) (tE W (cM (.int i))) := PE.weak pe_int (tE_c fun _ _ => rfl)
theorem pd_bl {b : Bool} {j : Nat} : PE X (.Constant (.bool b) j pos) (tE W (cM (.bl b))) := PE.weak pe_bl (tE_c fun _ _ => rfl)
theorem pd_non {j : Nat} : PE X (.Constant .none j pos) (tE W (cM .non)) := PE.weak pe_non (tE_c fun _ _ => rfl)
theorem pd_str {x : Str} {j : Nat} (l : List Nat) (hx : x = ⟨l.toArray⟩ := by decide +kernel) : PE X (.Constant (.str x) j pos) (tE W (cM (.str l))) := PE.weak pe_str (tE_c fun _ _ => by rw [hx]; rfl)
theorem pd_globI {x : Str} {i : Int} {t : Tok} (hm : X.mg x = some (.int i t)) (hg : Gl X x := by rfl) (hd : (x == ("__debug__" : Str)) = false := by decide) : PE X (.Name x pos) (tE W (cM (.int i))) := PE.weak (pe_glob (v := V.int i) hg hm ⟨t, rfl⟩ hd) (tE_c fun _ _ => rfl)
theorem pd_globS {x y : Str} {t : Tok} (l : List Nat) (hm : X.mg x = some (.str y t)) (hy : y = ⟨l.toArray⟩ := by decide +kernel) (hg : Gl X x := by rfl) (hd : (x == ("__debug__" : Str)) = false := by decide) : PE X (.Name x pos) (tE W (cM (.str l))) := PE.weak (pe_glob (v := V.str y) hg hm ⟨t, rfl⟩ hd) (tE_c fun _ _ => by rw [hy]; rfl)
theorem pd_ty {x : Str} {n : String} (hm : X.mg x = none) (hv : bootBuiltins x = some (.type n) := by decide +kernel) (hg : Gl X x := by rfl) (hn : x ≠ "__name__" := by decide) (hd : (x == ("__debug__" : Str)) = false := by decide) : PE X (.Name x pos) (tE W (cM (.raw (.ty n)))) := PE.weak (pe_bltn (v := V.ty n) hg hm hv rfl hn hd) (tE_c fun _ _ => rfl)
theorem pd_nil : PA X [] (tA W nilM) := PA.weak pa_nil fun σ H Q h => by
  obtain ⟨δ, S, ρ, I, h⟩ := h
  exact RunG.ok h I.st Reps.nil
theorem pd_cons (ha : PE X e (tE W me)) (hr : PA X es (tA W ms)) (hs : starEach (e :: es) X.env = (false, eval e X.env) :: starEach es X.env := by rfl) : PA X (e :: es) (tA W (consM me ms)) := by
  refine PA.weak (pa_cons ha hr hs) fun σ H Q h => ?_
  obtain ⟨δ, S, ρ, I, h⟩ := h
  refine bindG I h fun x v S1 H1 ρ1 n1 I1 r1 h1 => ?_
  refine bindG I1 h1 fun xs vs S2 H2 ρ2 n2 I2 r2 h2 => ?_
  exact RunG.ok h2 I2.st (Reps.cons (Rep.mono n2 _ _ r1) r2)
def tupG (_ : Store) (xs : List D) : Option D := if xs.length ≤ 100000 then some (.tup xs) else none
def lstG (_ : Store) (xs : List D) : Option D := if xs.length ≤ 100000 then some (.lst xs) else none
theorem sz5 {n : Nat} (h : n ≤ 100000) : n ≤ sizeLine := Nat.le_trans h (by decide)
theorem pd_tup {x1} (h : PA X es (tA W ms)) : PE X (.Tuple es x1 pos) (tE W (callG tupG ms)) := by
  refine PE.weak (pe_tup h) fun σ H Q h => ?_
  obtain ⟨δ, S, ρ, I, h⟩ := h
  refine bindG I h fun xs vs S1 H1 ρ1 n1 I1 r1 h1 => ?_
  obtain ⟨z, e, k⟩ := h1.ro
  unfold tupG at e
  split at e
  · rename_i hl
    cases e
    refine ⟨by rw [← r1.len]; exact sz5 hl, fun p hp => ?_⟩
    exact KD.tup (Q := Q) (fun w H' n st r => k w H' ρ1 n st r) I1.st r1 hp
  · cases e
theorem pd_lst (h : PA X es (tA W ms)) : PE X (.List es pos) (tE W (callG lstG ms)) := by
  refine PE.weak (pe_lst h) fun σ H Q h => ?_
  obtain ⟨δ, S, ρ, I, h⟩ := h
  refine bindG I h fun xs vs S1 H1 ρ1 n1 I1 r1 h1 => ?_
  obtain ⟨z, e, k⟩ := h1.ro
  unfold lstG at e
  split at e
  · rename_i hl
    cases e
    refine ⟨by rw [← r1.len]; exact sz5 hl, fun p hp => ?_⟩
    exact KD.lst (Q := Q) (fun w H' n st r => k w H' ρ1 n st r) I1.st r1 hp
  · cases e
def lstLM (ms : MA) : ME := fun δ S => (ms δ S).bind fun xs S1 => if xs.length ≤ 100000 then .ok (.loc S1.length) (S1 ++ [.lst xs]) else .stuck
theorem pd_lstL (h : PA X es (tA W ms)) : PE X (.List es pos) (tE W (lstLM ms)) := by
  refine PE.weak (pe_lst h) fun σ H Q h => ?_
  obtain ⟨δ, S, ρ, I, h⟩ := h
  refine bindG I h fun xs vs S1 H1 ρ1 n1 I1 r1 h1 => ?_
  split at h1
  · rename_i hl
    refine ⟨by rw [← r1.len]; exact sz5 hl, fun p hp => ?_⟩
    refine RunG.okN h1 (Nx.push hp) (I1.st.push hp ⟨vs, upd_same, Reps.mono (Nx.push hp) _ _ r1⟩) ⟨p, ?_, rfl⟩
    rw [← I1.st.len]
    simp
  · exact False.elim h1
end
def asL (S : Store) : D → Option (List D)
  | .lst ds => some ds
  | .loc n => match S[n]? with
    | some (.lst ds) => some ds
    | _ => none
  | _ => none
def asT : D → Option (List D)
  | .tup ds => some ds
  | _ => none
def asQ (S : Store) (d : D) : Option (List D) := match asL S d with
  | some ds => some ds
  | none => asT d
section
variable {H : Hp} {ρ : List Addr} {S : Store} {d : D} {ds : List D} {v : V}
theorem asL_rep (st : StS H S ρ) (r : Rep H ρ d v) (h : asL S d = some ds) : ∃ a vs, v = .ref a ∧ H a = some (.lst vs) ∧ Reps H ρ ds vs := by
  cases d with
  | lst es =>
    cases h
    obtain ⟨a, vs, rfl, h1, _, h2⟩ := r
    exact ⟨a, vs, rfl, h1, h2⟩
  | loc n =>
    obtain ⟨a, ha, rfl⟩ := r
    simp only [asL] at h
    split at h
    · rename_i ds' e
      cases h
      obtain ⟨vs, h1, h2⟩ := st.cells n a _ ha e
      exact ⟨a, vs, rfl, h1, h2⟩
    · cases h
  | _ => cases h
theorem asT_rep (r : Rep H ρ d v) (h : asT d = some ds) : ∃ a vs, v = .ref a ∧ RdT H a vs ∧ Reps H ρ ds vs := by
  cases d with
  | tup es =>
    cases h
    obtain ⟨a, vs, rfl, h1, _, h2⟩ := r
    exact ⟨a, vs, rfl, h1, h2⟩
  | _ => cases h
theorem asQ_rep {K : PySem.W.Frag} (st : StS H S ρ) (r : Rep H ρ d v) (h : asQ S d = some ds) : ∃ a vs, v = .ref a ∧ (SqL K H a vs ∨ SqT K H a vs) ∧ Reps H ρ ds vs := by
  unfold asQ at h
  split at h
  · rename_i e
    cases h
    obtain ⟨a, vs, h0, h1, h2⟩ := asL_rep st r e
    exact ⟨a, vs, h0, .inl (.inl (.inl h1)), h2⟩
  · obtain ⟨a, vs, h0, h1, h2⟩ := asT_rep r h
    exact ⟨a, vs, h0, .inr (.inl h1.rd), h2⟩
end
theorem str_app (a b : List Nat) : (⟨a.toArray⟩ : Str) ++ (⟨b.toArray⟩ : Str) = ⟨(a ++ b).toArray⟩ := by
  show (⟨a.toArray ++ b.toArray⟩ : Str) = _
  simp
theorem str_len (a : List Nat) : (⟨a.toArray⟩ : Str).length = a.length := by
  show a.toArray.size = _
  simp
theorem str_inj {a b : List Nat} : ((⟨a.toArray⟩ : Str) = ⟨b.toArray⟩) ↔ a = b := by
  constructor
  · intro h
    have := congrArg (fun s : Str => s.cps.toList) h
    simpa using this
  · rintro rfl
    rfl
section
variable {X : Cx}
def addG (S : Store) (x y : D) : Option D := match x, y with
  | .int i, .int j => some (.int (i + j))
  | .str a, .str b => if a.length + b.length ≤ 1000000 then some (.str (a ++ b)) else none
  | .tup a, .tup b => if a.length + b.length ≤ 1000000 then some (.tup (a ++ b)) else none
  | x, y => match asL S x, asL S y with
    | some a, some b => if a.length + b.length ≤ 1000000 then some (.lst (a ++ b)) else none
    | _, _ => none
theorem sz6 {n : Nat} (h : n ≤ 1000000) : n ≤ sizeLine := Nat.le_trans h (by decide)
def rAddA (K : PySem.W.Frag) : R2 := fun x y H Q => (∃ i j, x = .int i ∧ y = .int j ∧ Q (.int (i + j)) H) ∨ ((∃ i j, x = .str i ∧ y = .str j ∧ i.length + j.length ≤ sizeLine ∧ Q (.str (i ++ j)) H) ∨ (rCatA K x y H Q ∨ rCat x y H Q))
theorem op_addA : OpR X (binaryOp .Add) (rAddA X.K) := OpR.or op_add (OpR.or op_add_str (OpR.or op_catA op_cat))
theorem snd_add {K : PySem.W.Frag} : OpSnd (rAddA K) addG := by
  intro H ρ S x y z v u Q st rx ry e k
  unfold addG at e
  split at e
  · cases e
    cases rx
    cases ry
    exact .inl ⟨_, _, rfl, rfl, k.now st rfl⟩
  · rename_i a b
    split at e
    · rename_i hl
      cases e
      cases rx
      cases ry
      refine .inr (.inl ⟨_, _, rfl, rfl, by rw [str_len, str_len]; exact sz6 hl, ?_⟩)
      rw [str_app]
      exact k.now st rfl
    · cases e
  · rename_i a b
    split at e
    · rename_i hl
      cases e
      obtain ⟨p, vs, rfl, h1, n1, r1⟩ := rx
      obtain ⟨q, us, rfl, h2, n2, r2⟩ := ry
      refine .inr (.inr (.inl ⟨p, q, vs, us, rfl, rfl, .inl h1.rd, .inl h2.rd, by rw [← r1.len, ← r2.len]; exact sz6 hl, fun hx => ?_, fun hx hy => ?_, fun hx hy a' ha => ?_⟩))
      · refine k.now st ⟨q, us, rfl, h2, n2, ?_⟩
        subst hx
        have := r1.len
        cases a with
        | nil => exact r2
        | cons _ _ => simp at this
      · refine k.now st ⟨p, vs, rfl, h1, n1, ?_⟩
        subst hy
        have := r2.len
        cases b with
        | nil => rw [List.append_nil]; exact r1
        | cons _ _ => simp at this
      · exact KD.tup k st (r1.append r2) ha
    · cases e
  · split at e
    · rename_i a b ea eb
      split at e
      · rename_i hl
        cases e
        obtain ⟨p, vs, rfl, h1, r1⟩ := asL_rep st rx ea
        obtain ⟨q, us, rfl, h2, r2⟩ := asL_rep st ry eb
        refine .inr (.inr (.inr ⟨p, q, vs, us, rfl, rfl, h1, h2, by rw [← r1.len, ← r2.len]; exact sz6 hl, fun a' ha => ?_⟩))
        exact KD.lst k st (r1.append r2) ha
      · cases e
    · cases e
def subG (_ : Store) (x y : D) : Option D := match x, y with
  | .int i, .int j => some (.int (i - j))
  | _, _ => none
theorem snd_sub : OpSnd (rI0 fun i j => .int (i - j)) subG := by
  intro H ρ S x y z v u Q st rx ry e k
  unfold subG at e
  split at e
  · cases e
    cases rx
    cases ry
    exact ⟨_, _, rfl, rfl, k.now st rfl⟩
  · cases e
theorem foldl_rep (a : Array Nat) : ∀ (k : Nat) (acc : Array Nat), ((List.replicate k a).foldl (· ++ ·) acc).toList = acc.toList ++ (List.replicate k a.toList).flatten
  | 0, acc => by simp
  | k + 1, acc => by
    rw [List.replicate_succ, List.foldl_cons, foldl_rep a k, List.replicate_succ, List.flatten_cons, Array.toList_append, List.append_assoc]
def rMulS : R2 := fun x y H Q => ∃ (l : List Nat) (k : Int), x = .str ⟨l.toArray⟩ ∧ y = .int k ∧ 0 ≤ k ∧ k ≤ 1000000 ∧ l.length * k.toNat ≤ 1000000 ∧ Q (.str ⟨(List.replicate k.toNat l).flatten.toArray⟩) H
theorem op_mulS : OpR X (binaryOp .Mult) rMulS := by
  intro pins s σ H x y v u Q I rx ry h
  obtain ⟨l, k, rfl, rfl, h0, h1, h2, q⟩ := h
  obtain ⟨t, rfl⟩ := rx
  obtain ⟨t', rfl⟩ := ry
  refine PySem.P.mul_str ?_ (fun hn hx => ?_) (fun hn hx => ?_) ?_
  · have a1 : ¬ k < -(2 ^ 63 : Int) := by omega
    have a2 : ¬ k ≥ 2 ^ 63 := by omega
    rw [decide_eq_false a1, decide_eq_false a2]; rfl
  · rw [str_len]
    have hk : 1 ≤ k := by omega
    intro hz
    have : (2 ^ 63 - 1 : Int) / k ≥ l.length := by
      refine (Int.le_ediv_iff_mul_le (by omega)).mpr ?_
      have e : (l.length : Int) * k = ((l.length * k.toNat : Nat) : Int) := by
        rw [Int.natCast_mul, Int.toNat_of_nonneg h0]
      rw [e]
      omega
    omega
  · rw [str_len]
    show decide (_ > _) = false
    refine decide_eq_false ?_
    have := sz6 h2
    omega
  · by_cases hn : k < 1
    · rw [if_pos hn]
      have e0 : k.toNat = 0 := by omega
      rw [e0] at q
      refine ⟨by decide, V.str ⟨#[]⟩, H, I.tok _, ⟨_, rfl⟩, by simpa using q⟩
    · rw [if_neg hn]
      split
      · rename_i hx
        refine ⟨V.str ⟨l.toArray⟩, H, I, ⟨t, rfl⟩, ?_⟩
        have e : (List.replicate k.toNat l).flatten = l := by
          rcases Bool.or_eq_true_iff.mp hx with z | z
          · have : k = 1 := by simpa using z
            subst this
            simp
          · rw [str_len] at z
            have : l = [] := by simpa using z
            subst this
            simp
        rw [e] at q
        exact q
      · have e : (⟨(List.replicate k.toNat (⟨l.toArray⟩ : Str).cps).foldl (· ++ ·) #[]⟩ : Str) = ⟨(List.replicate k.toNat l).flatten.toArray⟩ := by
          have := foldl_rep l.toArray k.toNat #[]
          simp only [List.nil_append] at this
          congr 1
          apply Array.toList_inj.mp
          rw [this]
        rw [e]
        refine ⟨?_, V.str ⟨(List.replicate k.toNat l).flatten.toArray⟩, H, I.tok _, ⟨_, rfl⟩, q⟩
        rw [str_len]
        have : (List.replicate k.toNat l).flatten.length = l.length * k.toNat := by
          rw [List.length_flatten, List.map_replicate, List.sum_replicate_nat, Nat.mul_comm]
        rw [this]
        exact sz6 h2
abbrev mulOk (i j : Int) : Prop := ((-(2 ^ 64) < i ∧ i < 2 ^ 64) ∨ (-(2 ^ 64) < j ∧ j < 2 ^ 64)) ∨ i.natAbs.log2 + j.natAbs.log2 < 1000000
def mulG (S : Store) (x y : D) : Option D := match x, y with
  | .int i, .int j => if mulOk i j then some (.int (i * j)) else none
  | .str l, .int k => if 0 ≤ k ∧ k ≤ 1000000 ∧ l.length * k.toNat ≤ 1000000 then some (.str (List.replicate k.toNat l).flatten) else none
  | x, .int k => match asL S x with
    | some a => if 0 ≤ k ∧ k ≤ 1000000 ∧ a.length * k.toNat ≤ 1000000 then some (.lst (List.replicate k.toNat a).flatten) else none
    | none => none
  | _, _ => none
def rMulA : R2 := fun x y H Q => (rI CMul (fun i j => .int (i * j)) x y H Q ∨ rI CMulW (fun i j => .int (i * j)) x y H Q) ∨ (rMulS x y H Q ∨ rRep x y H Q)
theorem op_mulA : OpR X (binaryOp .Mult) rMulA := OpR.or (OpR.or op_mul op_mulW) (OpR.or op_mulS op_rep)
theorem Reps.rep {H : Hp} {ρ : List Addr} {ds : List D} {vs : List V} (r : Reps H ρ ds vs) : ∀ k : Nat, Reps H ρ (List.replicate k ds).flatten (List.replicate k vs).flatten
  | 0 => by simpa using Reps.nil
  | k + 1 => by
    rw [List.replicate_succ, List.replicate_succ, List.flatten_cons, List.flatten_cons]
    exact r.append (Reps.rep r k)
theorem snd_mul : OpSnd rMulA mulG := by
  intro H ρ S x y z v u Q st rx ry e k
  unfold mulG at e
  split at e
  · split at e
    · rename_i hc
      cases e
      cases rx
      cases ry
      rcases hc with hc | hc
      · exact .inl (.inl ⟨_, _, rfl, rfl, hc, k.now st rfl⟩)
      · exact .inl (.inr ⟨_, _, rfl, rfl, hc, k.now st rfl⟩)
    · cases e
  · split at e
    · rename_i hc
      cases e
      cases rx
      cases ry
      exact .inr (.inl ⟨_, _, rfl, rfl, hc.1, hc.2.1, hc.2.2, k.now st rfl⟩)
    · cases e
  · split at e
    · rename_i a ea
      split at e
      · rename_i hc
        cases e
        obtain ⟨p, vs, rfl, h1, r1⟩ := asL_rep st rx ea
        cases ry
        refine .inr (.inr ⟨p, _, vs, rfl, rfl, h1, by omega, by omega, ?_, fun a' ha => ?_⟩)
        · rw [← r1.len]; exact sz6 hc.2.2
        · exact KD.lst k st (r1.rep _) ha
      · cases e
    · cases e
  · cases e
def fdivG (_ : Store) (x y : D) : Option D := match x, y with
  | .int i, .int j => if 0 < j ∧ j.natAbs.log2 < 9000 then some (.int (i / j)) else none
  | _, _ => none
theorem snd_fdiv : OpSnd (rI CDivW fun i j => .int (i / j)) fdivG := by
  intro H ρ S x y z v u Q st rx ry e k
  unfold fdivG at e
  split at e
  · split at e
    · rename_i hc
      cases e
      cases rx
      cases ry
      exact ⟨_, _, rfl, rfl, hc, k.now st rfl⟩
    · cases e
  · cases e
def modG (_ : Store) (x y : D) : Option D := match x, y with
  | .int i, .int j => if 0 < j then some (.int (i % j)) else none
  | _, _ => none
theorem snd_mod : OpSnd (rI (fun _ j => 0 < j) fun i j => .int (i % j)) modG := by
  intro H ρ S x y z v u Q st rx ry e k
  unfold modG at e
  split at e
  · split at e
    · rename_i hc
      cases e
      cases rx
      cases ry
      exact ⟨_, _, rfl, rfl, hc, k.now st rfl⟩
    · cases e
  · cases e
def powG (_ : Store) (x y : D) : Option D := match x, y with
  | .int i, .int j => if 0 ≤ j ∧ j ≤ 1000000 ∧ i.natAbs < 2 ^ 64 then some (.int (i ^ j.toNat)) else none
  | _, _ => none
theorem snd_pow : OpSnd (rI CPow fun i j => .int (i ^ j.toNat)) powG := by
  intro H ρ S x y z v u Q st rx ry e k
  unfold powG at e
  split at e
  · split at e
    · rename_i hc
      cases e
      cases rx
      cases ry
      exact ⟨_, _, rfl, rfl, hc, k.now st rfl⟩
    · cases e
  · cases e
end
section
variable {X : Cx} {W : WX} {a b c e : Expr} {es rest : List Expr} {ma mb mc me : ME} {na nb : MB} {ms : MA} {pos : Pos}
def ltG (_ : Store) (x y : D) : Option D := match x, y with
  | .int i, .int j => some (.bl (decide (i < j)))
  | .str a, .str b => some (.bl (decide (a < b)))
  | _, _ => none
def leG (_ : Store) (x y : D) : Option D := match x, y with
  | .int i, .int j => some (.bl (decide (i ≤ j)))
  | .str a, .str b => some (.bl (!decide (b < a)))
  | _, _ => none
def gtG (_ : Store) (x y : D) : Option D := match x, y with
  | .int i, .int j => some (.bl (decide (j < i)))
  | .str a, .str b => some (.bl (decide (b < a)))
  | _, _ => none
def geG (_ : Store) (x y : D) : Option D := match x, y with
  | .int i, .int j => some (.bl (decide (j ≤ i)))
  | .str a, .str b => some (.bl (!decide (a < b)))
  | _, _ => none
def rLtA : R2 := fun x y H Q => rI0 (fun i j => .bl (decide (i < j))) x y H Q ∨ ∃ i j, x = .str i ∧ y = .str j ∧ Q (.bl (decide (i.cps.toList < j.cps.toList))) H
def rLeA : R2 := fun x y H Q => rI0 (fun i j => .bl (decide (i ≤ j))) x y H Q ∨ ∃ i j, x = .str i ∧ y = .str j ∧ Q (.bl (!decide (j.cps.toList < i.cps.toList))) H
def rGtA : R2 := fun x y H Q => rI0 (fun i j => .bl (decide (j < i))) x y H Q ∨ ∃ i j, x = .str i ∧ y = .str j ∧ Q (.bl (decide (j.cps.toList < i.cps.toList))) H
def rGeA : R2 := fun x y H Q => rI0 (fun i j => .bl (decide (j ≤ i))) x y H Q ∨ ∃ i j, x = .str i ∧ y = .str j ∧ Q (.bl (!decide (i.cps.toList < j.cps.toList))) H
theorem op_ltA : OpR X (compareOp .Lt) rLtA := OpR.or op_lt op_lt_str
theorem op_leA : OpR X (compareOp .LtE) rLeA := OpR.or op_le op_le_str
theorem op_gtA : OpR X (compareOp .Gt) rGtA := OpR.or op_gt op_gt_str
theorem op_geA : OpR X (compareOp .GtE) rGeA := OpR.or op_ge op_ge_str
theorem snd_lt : OpSnd rLtA ltG := by
  intro H ρ S x y z v u Q st rx ry e k
  unfold ltG at e
  split at e
  · cases e; cases rx; cases ry
    exact .inl ⟨_, _, rfl, rfl, k.now st rfl⟩
  · cases e; cases rx; cases ry
    exact .inr ⟨_, _, rfl, rfl, k.now st rfl⟩
  · cases e
theorem snd_le : OpSnd rLeA leG := by
  intro H ρ S x y z v u Q st rx ry e k
  unfold leG at e
  split at e
  · cases e; cases rx; cases ry
    exact .inl ⟨_, _, rfl, rfl, k.now st rfl⟩
  · cases e; cases rx; cases ry
    exact .inr ⟨_, _, rfl, rfl, k.now st rfl⟩
  · cases e
theorem snd_gt : OpSnd rGtA gtG := by
  intro H ρ S x y z v u Q st rx ry e k
  unfold gtG at e
  split at e
  · cases e; cases rx; cases ry
    exact .inl ⟨_, _, rfl, rfl, k.now st rfl⟩
  · cases e; cases rx; cases ry
    exact .inr ⟨_, _, rfl, rfl, k.now st rfl⟩
  · cases e
theorem snd_ge : OpSnd rGeA geG := by
  intro H ρ S x y z v u Q st rx ry e k
  unfold geG at e
  split at e
  · cases e; cases rx; cases ry
    exact .inl ⟨_, _, rfl, rfl, k.now st rfl⟩
  · cases e; cases rx; cases ry
    exact .inr ⟨_, _, rfl, rfl, k.now st rfl⟩
  · cases e
theorem dec_str {a b : List Nat} : decide (V.str ⟨a.toArray⟩ = V.str ⟨b.toArray⟩) = decide (a = b) := decide_eq_decide.mpr ⟨fun h => str_inj.mp (V.str.inj h), fun h => congrArg V.str (str_inj.mpr h)⟩
theorem dec_int {a b : Int} : decide (V.int a = V.int b) = decide (a = b) := decide_eq_decide.mpr ⟨fun h => V.int.inj h, fun h => congrArg V.int h⟩
mutual
def toPy : D → Option PyData
  | .non => some .none
  | .bl b => some (.bool b)
  | .int i => some (.int i)
  | .str l => some (.str ⟨l.toArray⟩)
  | .tup ds => match toPys ds with
    | some ps => some (.tuple ps)
    | none => none
  | .lst ds => match toPys ds with
    | some ps => some (.list ps)
    | none => none
  | _ => none
def toPys : List D → Option (List PyData)
  | [] => some []
  | d :: ds => match toPy d, toPys ds with
    | some p, some ps => some (p :: ps)
    | _, _ => none
end
def toPyS (S : Store) (d : D) : Option PyData := match d with
  | .loc _ => match asL S d with
    | some ds => match toPys ds with
      | some ps => some (.list ps)
      | none => none
    | none => none
  | d => toPy d
mutual
theorem toPy_dp {K : PySem.W.Frag} {H : Hp} {ρ : List Addr} : ∀ (d : D) (v : V) (p : PyData), toPy d = some p → Rep H ρ d v → Dp K H v p
  | .non, v, p, e, r => by cases e; cases r; exact .non
  | .bl b, v, p, e, r => by cases e; cases r; exact .bl b
  | .int i, v, p, e, r => by cases e; cases r; exact .int i
  | .str l, v, p, e, r => by cases e; cases r; exact .str _
  | .tup ds, v, p, e, r => by
    obtain ⟨a, vs, rfl, h1, _, r1⟩ := r
    simp only [toPy] at e
    split at e
    · rename_i ps ep
      cases e
      exact .tup (.inl h1.rd) (toPys_dp ds vs ps ep r1)
    · cases e
  | .lst ds, v, p, e, r => by
    obtain ⟨a, vs, rfl, h1, _, r1⟩ := r
    simp only [toPy] at e
    split at e
    · rename_i ps ep
      cases e
      exact .lst (.inl (.inl h1)) (toPys_dp ds vs ps ep r1)
    · cases e
  | .dct _ _, v, p, e, r => by cases e
  | .obj _ _ _, v, p, e, r => by cases e
  | .loc _, v, p, e, r => by cases e
  | .raw _, v, p, e, r => by cases e
  | .exn _ _ _ _, v, p, e, r => by cases e
theorem toPys_dp {K : PySem.W.Frag} {H : Hp} {ρ : List Addr} : ∀ (ds : List D) (vs : List V) (ps : List PyData), toPys ds = some ps → Reps H ρ ds vs → DpAll K H vs ps
  | [], vs, ps, e, r => by cases e; cases r; exact .nil
  | d :: ds, vs, ps, e, r => by
    obtain ⟨v, us, rfl, h1, h2⟩ := r
    simp only [toPys] at e
    split at e
    · rename_i p ps' e1 e2
      cases e
      exact .cons (toPy_dp d v p e1 h1) (toPys_dp ds us ps' e2 h2)
    · cases e
end
theorem toPyS_dp {K : PySem.W.Frag} {H : Hp} {ρ : List Addr} {S : Store} {d : D} {v : V} {p : PyData} (st : StS H S ρ) (e : toPyS S d = some p) (r : Rep H ρ d v) : Dp K H v p := by
  cases d with
  | loc n =>
    simp only [toPyS] at e
    split at e
    · rename_i ds ea
      split at e
      · rename_i ps ep
        cases e
        obtain ⟨a, vs, rfl, h1, r1⟩ := asL_rep st r ea
        exact .lst (.inl (.inl h1)) (toPys_dp ds vs ps ep r1)
      · cases e
    · cases e
  | _ => exact toPy_dp _ v p e r
def eqB (S : Store) (x y : D) : Option Bool := match x, y with
  | .str a, .str b => some (decide (a = b))
  | .int i, .int j => some (decide (i = j))
  | x, y => match toPyS S x, toPyS S y with
    | some p, some q => if SeqAt.shaped p = true ∧ SeqAt.shaped q = true then some (PyData.eqv p q) else none
    | _, _ => none
def eqG (S : Store) (x y : D) : Option D := match eqB S x y with
  | some b => some (.bl b)
  | none => none
def neG (S : Store) (x y : D) : Option D := match eqB S x y with
  | some b => some (.bl (!b))
  | none => none
def rEqA (K : PySem.W.Frag) : R2 := fun x y H Q => rEq x y H Q ∨ rEqD K x y H Q
def rNeA (K : PySem.W.Frag) : R2 := fun x y H Q => rNe x y H Q ∨ rNeD K x y H Q
theorem op_eqA (hu : X.A.units + 64 < cLine) : OpR X (compareOp .Eq) (rEqA X.K) := OpR.or op_eq (op_eqD hu)
theorem op_neA (hu : X.A.units + 64 < cLine) : OpR X (compareOp .NotEq) (rNeA X.K) := OpR.or op_ne (op_neD hu)
theorem snd_eq {K : PySem.W.Frag} : OpSnd (rEqA K) eqG := by
  intro H ρ S x y z v u Q st rx ry e k
  unfold eqG at e
  split at e
  · rename_i b eb
    cases e
    unfold eqB at eb
    split at eb
    · cases eb; cases rx; cases ry
      refine .inl ⟨rfl, ?_⟩
      rw [dec_str]
      exact k.now st rfl
    · cases eb; cases rx; cases ry
      refine .inl ⟨rfl, ?_⟩
      rw [dec_int]
      exact k.now st rfl
    · split at eb
      · rename_i p q ep eq
        split at eb
        · rename_i hs
          cases eb
          exact .inr ⟨p, q, toPyS_dp st ep rx, toPyS_dp st eq ry, hs.1, hs.2, k.now st rfl⟩
        · cases eb
      · cases eb
  · cases e
theorem snd_ne {K : PySem.W.Frag} : OpSnd (rNeA K) neG := by
  intro H ρ S x y z v u Q st rx ry e k
  unfold neG at e
  split at e
  · rename_i b eb
    cases e
    unfold eqB at eb
    split at eb
    · cases eb; cases rx; cases ry
      refine .inl ⟨rfl, ?_⟩
      rw [dec_str]
      exact k.now st rfl
    · cases eb; cases rx; cases ry
      refine .inl ⟨rfl, ?_⟩
      rw [dec_int]
      exact k.now st rfl
    · split at eb
      · rename_i p q ep eq
        split at eb
        · rename_i hs
          cases eb
          exact .inr ⟨p, q, toPyS_dp st ep rx, toPyS_dp st eq ry, hs.1, hs.2, k.now st rfl⟩
        · cases eb
      · cases eb
  · cases e
def isN : D → Bool
  | .non => true
  | _ => false
def isB (S : Store) (x y : D) : Option Bool := match y with
  | .non => match x with
    | .raw _ => none
    | x => some (isN x)
  | .bl b => match x with
    | .bl a => some (decide (a = b))
    | .str _ => some false
    | _ => none
  | _ => none
def isG (S : Store) (x y : D) : Option D := match isB S x y with
  | some b => some (.bl b)
  | none => none
theorem op_is_sb : OpR X (compareOp .Is) (fun x y H Q => ∃ l b, x = .str l ∧ y = .bl b ∧ Q (.bl false) H) := by
  intro pins s σ H x y v u Q I rx ry h
  obtain ⟨l, b, rfl, rfl, q⟩ := h
  obtain ⟨t, e⟩ := (show ∃ t, v = Value.str l t from rx)
  cases e
  cases (show u = Value.bool b from ry)
  exact wpAny_is_other rfl (fun z => nomatch z) ⟨.bl false, H, I, rfl, q⟩
def rIsA : R2 := fun x y H Q => (y = .non ∧ Q (.bl (decide (x = .non))) H) ∨ ((∃ a b, x = .bl a ∧ y = .bl b ∧ Q (.bl (decide (a = b))) H) ∨ ∃ l b, x = .str l ∧ y = .bl b ∧ Q (.bl false) H)
theorem op_isA : OpR X (compareOp .Is) rIsA := OpR.or op_isN (OpR.or op_is_bl op_is_sb)
theorem isN_rep {H : Hp} {ρ : List Addr} {x : D} {v : V} (r : Rep H ρ x v) (h : ∀ u, x ≠ .raw u) : decide (v = .non) = isN x := by
  cases x with
  | non => cases r; rfl
  | bl _ => cases r; rfl
  | int _ => cases r; rfl
  | str _ => cases r; rfl
  | tup _ => obtain ⟨a, vs, rfl, _⟩ := r; rfl
  | lst _ => obtain ⟨a, vs, rfl, _⟩ := r; rfl
  | dct _ _ => obtain ⟨a, vs, rfl, _⟩ := r; rfl
  | obj _ _ _ => obtain ⟨a, d, vs, rfl, _⟩ := r; rfl
  | loc _ => obtain ⟨a, _, rfl⟩ := r; rfl
  | raw u => exact absurd rfl (h u)
  | exn _ _ _ _ => obtain ⟨vs, rfl, _⟩ := r; rfl
theorem snd_is : OpSnd rIsA isG := by
  intro H ρ S x y z v u Q st rx ry e k
  unfold isG at e
  split at e
  · rename_i b eb
    cases e
    unfold isB at eb
    split at eb
    · split at eb
      · cases eb
      · rename_i x' hx
        cases eb
        cases ry
        refine .inl ⟨rfl, ?_⟩
        rw [isN_rep rx hx]
        exact k.now st rfl
    · split at eb
      · cases eb
        cases rx
        cases ry
        exact .inr (.inl ⟨_, _, rfl, rfl, k.now st rfl⟩)
      · cases eb
        cases rx
        cases ry
        exact .inr (.inr ⟨_, _, rfl, rfl, k.now st rfl⟩)
      · cases eb
    · cases eb
  · cases e
def flV : D → Option V
  | .non => some .non
  | .bl b => some (.bl b)
  | .int i => some (.int i)
  | .str l => some (.str ⟨l.toArray⟩)
  | _ => none
theorem flV_rep {H : Hp} {ρ : List Addr} {x : D} {v w : V} (r : Rep H ρ x v) (h : flV x = some w) : v = w ∧ flatV v = true := by
  cases x with
  | non => cases h; cases r; exact ⟨rfl, rfl⟩
  | bl _ => cases h; cases r; exact ⟨rfl, rfl⟩
  | int _ => cases h; cases r; exact ⟨rfl, rfl⟩
  | str _ => cases h; cases r; exact ⟨rfl, rfl⟩
  | _ => cases h
def flVs : List D → Option (List V)
  | [] => some []
  | d :: ds => match flV d, flVs ds with
    | some v, some vs => some (v :: vs)
    | _, _ => none
theorem flVs_rep {H : Hp} {ρ : List Addr} : ∀ {ds : List D} {vs ws : List V}, Reps H ρ ds vs → flVs ds = some ws → vs = ws ∧ vs.all flatV = true
  | [], vs, ws, r, h => by cases r; cases h; exact ⟨rfl, rfl⟩
  | d :: ds, vs, ws, r, h => by
    obtain ⟨v, us, rfl, h1, h2⟩ := r
    simp only [flVs] at h
    split at h
    · rename_i w ws' e1 e2
      cases h
      obtain ⟨rfl, f1⟩ := flV_rep h1 e1
      obtain ⟨rfl, f2⟩ := flVs_rep h2 e2
      exact ⟨rfl, by rw [List.all_cons, f1, f2]; rfl⟩
    · cases h
def memK (ks : List Key) (k : Key) : Bool := ks.any fun q => decide (q = k)
def asDct (S : Store) : D → Option (List Key × List D)
  | .dct ks ds => some (ks, ds)
  | .loc n => match S[n]? with
    | some (.dct ks ds) => some (ks, ds)
    | _ => none
  | _ => none
def keyD : D → Option Key
  | .int i => some (.inl i)
  | .str l => some (.inr ⟨l.toArray⟩)
  | _ => none
theorem asDct_rep {H : Hp} {ρ : List Addr} {S : Store} {d : D} {v : V} {ks : List Key} {ds : List D} (st : StS H S ρ) (r : Rep H ρ d v) (h : asDct S d = some (ks, ds)) : ∃ a vs, v = .ref a ∧ Rd H a (.dK (ks.zip vs)) ∧ ks.length = ds.length ∧ Reps H ρ ds vs := by
  cases d with
  | dct ks' es =>
    cases h
    obtain ⟨a, vs, rfl, h1, _, l, h2⟩ := r
    exact ⟨a, vs, rfl, h1, l, h2⟩
  | loc n =>
    obtain ⟨a, ha, rfl⟩ := r
    simp only [asDct] at h
    split at h
    · rename_i ks' ds' e
      cases h
      obtain ⟨vs, h1, l, h2⟩ := st.cells n a _ ha e
      exact ⟨a, vs, rfl, .inl h1, l, h2⟩
    · cases h
  | _ => cases h
theorem keyD_rep {H : Hp} {ρ : List Addr} {x : D} {v : V} {k : Key} (r : Rep H ρ x v) (h : keyD x = some k) : v = kV k := by
  cases x with
  | int _ => cases h; cases r; rfl
  | str _ => cases h; cases r; rfl
  | _ => cases h
theorem valV_zip_isSome : ∀ {ks : List Key} {vs : List V} {k : Key}, ks.length = vs.length → (valV (ks.zip vs) k).isSome = memK ks k
  | [], [], k, _ => rfl
  | [], _ :: _, _, h => by cases h
  | _ :: _, [], _, h => by cases h
  | q :: ks, v :: vs, k, h => by
    have ih := valV_zip_isSome (ks := ks) (vs := vs) (k := k) (by simpa using h)
    rw [List.zip_cons_cons]
    by_cases e : q = k
    · rw [valV_pos (show ((q, v) : Key × V).1 = k from e)]
      simp [memK, e]
    · have : valV ((q, v) :: ks.zip vs) k = valV (ks.zip vs) k := by simp [valV, List.find?_cons, e]
      rw [this, ih]
      simp [memK, e]
def inB (S : Store) (x y : D) : Option Bool := match y with
  | .str z => match x with
    | .str [c] => some (decide (c ∈ z))
    | .str l => some (!(Builtin.Str.occurrences (⟨z.toArray⟩ : Str) (⟨l.toArray⟩ : Str) 0 (⟨z.toArray⟩ : Str).length 1).isEmpty)
    | _ => none
  | y => match asQ S y with
    | some ds => match flV x, flVs ds with
      | some v, some vs => some (inV v vs)
      | _, _ => none
    | none => match asDct S y, keyD x with
      | some (ks, _), some k => some (memK ks k)
      | _, _ => none
def inG (S : Store) (x y : D) : Option D := match inB S x y with
  | some b => some (.bl b)
  | none => none
def ninG (S : Store) (x y : D) : Option D := match inB S x y with
  | some b => some (.bl (!b))
  | none => none
def rInA (K : PySem.W.Frag) : R2 := fun x y H Q => (∃ (c : Nat) (z : Str), x = .str ⟨#[c]⟩ ∧ y = .str z ∧ Q (.bl (decide (c ∈ z.cps.toList))) H) ∨
  ((∃ i j, x = .str i ∧ y = .str j ∧ Q (.bl (!(Builtin.Str.occurrences j i 0 j.length 1).isEmpty)) H) ∨ (rIn K false x y H Q ∨ ∃ a o, y = .ref a ∧ DGet H a x o ∧ Q (.bl o.isSome) H))
def rNinA (K : PySem.W.Frag) : R2 := fun x y H Q => (∃ (c : Nat) (z : Str), x = .str ⟨#[c]⟩ ∧ y = .str z ∧ Q (.bl (!decide (c ∈ z.cps.toList))) H) ∨
  ((∃ i j, x = .str i ∧ y = .str j ∧ Q (.bl (!(!(Builtin.Str.occurrences j i 0 j.length 1).isEmpty))) H) ∨ (rIn K true x y H Q ∨ ∃ a o, y = .ref a ∧ DGet H a x o ∧ Q (.bl (!o.isSome)) H))
theorem op_inD1 (hu : X.A.units + 1 < cLine) : OpR X (compareOp .In) (fun x y H Q => ∃ a o, y = .ref a ∧ DGet H a x o ∧ Q (.bl o.isSome) H) := by
  intro pins s σ H x y v u Q I rx ry h
  obtain ⟨a, o, rfl, g, q⟩ := h
  cases ry
  exact d_in hu I g rx fun s' I' => ⟨.bl o.isSome, H, I', rfl, q⟩
theorem op_ninD1 (hu : X.A.units + 1 < cLine) : OpR X (compareOp .NotIn) (fun x y H Q => ∃ a o, y = .ref a ∧ DGet H a x o ∧ Q (.bl (!o.isSome)) H) := by
  intro pins s σ H x y v u Q I rx ry h
  obtain ⟨a, o, rfl, g, q⟩ := h
  cases ry
  exact d_notIn hu I g rx fun s' I' => ⟨.bl (!o.isSome), H, I', rfl, q⟩
theorem op_inA (hu : X.A.units + 64 < cLine) : OpR X (compareOp .In) (rInA X.K) := OpR.or op_in_sign (OpR.or op_in_str (OpR.or op_in_seq (op_inD1 (by omega))))
theorem op_ninA (hu : X.A.units + 64 < cLine) : OpR X (compareOp .NotIn) (rNinA X.K) := OpR.or op_notIn_sign (OpR.or op_notin_str (OpR.or op_notIn_seq (op_ninD1 (by omega))))
theorem snd_in {K : PySem.W.Frag} : OpSnd (rInA K) inG := by
  intro H ρ S x y z v u Q st rx ry e k
  unfold inG at e
  split at e
  · rename_i b eb
    cases e
    unfold inB at eb
    split at eb
    · split at eb
      · cases eb; cases rx; cases ry
        exact .inl ⟨_, _, rfl, rfl, by simpa using k.now st rfl⟩
      · cases eb; cases rx; cases ry
        exact .inr (.inl ⟨_, _, rfl, rfl, k.now st rfl⟩)
      · cases eb
    · split at eb
      · rename_i ds ed
        split at eb
        · rename_i v' vs' e1 e2
          cases eb
          obtain ⟨a, vs, rfl, hq, rs⟩ := asQ_rep (K := K) st ry ed
          obtain ⟨rfl, f1⟩ := flV_rep rx e1
          obtain ⟨rfl, f2⟩ := flVs_rep rs e2
          exact .inr (.inr (.inl ⟨a, vs, rfl, hq, f1, f2, k.now st rfl⟩))
        · cases eb
      · split at eb
        · rename_i ks ds' k' e1 e2
          cases eb
          obtain ⟨a, vs, rfl, h1, l, r1⟩ := asDct_rep st ry e1
          have ek := keyD_rep rx e2
          subst ek
          refine .inr (.inr (.inr ⟨a, _, rfl, .inl ⟨_, _, h1, rfl, rfl⟩, ?_⟩))
          rw [valV_zip_isSome (by rw [l, r1.len])]
          exact k.now st rfl
        · cases eb
  · cases e
theorem snd_nin {K : PySem.W.Frag} : OpSnd (rNinA K) ninG := by
  intro H ρ S x y z v u Q st rx ry e k
  unfold ninG at e
  split at e
  · rename_i b eb
    cases e
    unfold inB at eb
    split at eb
    · split at eb
      · cases eb; cases rx; cases ry
        exact .inl ⟨_, _, rfl, rfl, by simpa using k.now st rfl⟩
      · cases eb; cases rx; cases ry
        exact .inr (.inl ⟨_, _, rfl, rfl, k.now st rfl⟩)
      · cases eb
    · split at eb
      · rename_i ds ed
        split at eb
        · rename_i v' vs' e1 e2
          cases eb
          obtain ⟨a, vs, rfl, hq, rs⟩ := asQ_rep (K := K) st ry ed
          obtain ⟨rfl, f1⟩ := flV_rep rx e1
          obtain ⟨rfl, f2⟩ := flVs_rep rs e2
          exact .inr (.inr (.inl ⟨a, vs, rfl, hq, f1, f2, k.now st rfl⟩))
        · cases eb
      · split at eb
        · rename_i ks ds' k' e1 e2
          cases eb
          obtain ⟨a, vs, rfl, h1, l, r1⟩ := asDct_rep st ry e1
          have ek := keyD_rep rx e2
          subst ek
          refine .inr (.inr (.inr ⟨a, _, rfl, .inl ⟨_, _, h1, rfl, rfl⟩, ?_⟩))
          rw [valV_zip_isSome (by rw [l, r1.len])]
          exact k.now st rfl
        · cases eb
  · cases e
end
section
variable {X : Cx} {W : WX} {a b c e : Expr} {es rest : List Expr} {ma mb mc me : ME} {na nb : MB} {ms : MA} {pos : Pos}
def truthB (S : Store) (x : D) : Option Bool := match x with
  | .non => some false
  | .bl b => some b
  | .int i => some (i != 0)
  | .str l => if l.length ≤ 1000000 then some (l.length != 0) else none
  | .lst ds => some (!ds.isEmpty)
  | .tup ds => some (!ds.isEmpty)
  | .loc n => match S[n]? with
    | some (.lst ds) => some (!ds.isEmpty)
    | some (.dct ks _) => some (!ks.isEmpty)
    | _ => none
  | _ => none
theorem Reps.emp {H : Hp} {ρ : List Addr} {ds : List D} {vs : List V} (r : Reps H ρ ds vs) : ds.isEmpty = vs.isEmpty := by
  cases ds with
  | nil => cases r; rfl
  | cons d ds => obtain ⟨v, us, rfl, _⟩ := r; rfl
theorem zip_emp {α β : Type} : ∀ {ks : List α} {vs : List β}, ks.length = vs.length → (ks.zip vs).isEmpty = ks.isEmpty
  | [], _, _ => rfl
  | _ :: _, [], h => by cases h
  | _ :: _, _ :: _, _ => rfl
theorem truth_rep {K : PySem.W.Frag} {H : Hp} {ρ : List Addr} {S : Store} {x : D} {v : V} {c : Bool} (st : StS H S ρ) (r : Rep H ρ x v) (h : truthB S x = some c) : TruV K v H c := by
  cases x with
  | non => cases h; cases r; rfl
  | bl _ => cases h; cases r; rfl
  | int _ => cases h; cases r; rfl
  | str l =>
    cases r
    simp only [truthB] at h
    split at h
    · rename_i hl
      cases h
      refine ⟨by rw [str_len]; exact sz6 hl, ?_⟩
      rw [str_len]
      cases hz : l.length with
      | zero => rfl
      | succ n => simp; omega
    · cases h
  | tup ds =>
    cases h
    obtain ⟨a, vs, rfl, h1, _, r1⟩ := r
    exact .inr (.inl ⟨vs, .inl h1.rd, by rw [r1.emp]⟩)
  | lst ds =>
    cases h
    obtain ⟨a, vs, rfl, h1, _, r1⟩ := r
    exact .inl ⟨vs, .inl (.inl h1), by rw [r1.emp]⟩
  | loc n =>
    obtain ⟨a, ha, rfl⟩ := r
    simp only [truthB] at h
    split at h
    · rename_i ds e
      cases h
      obtain ⟨vs, h1, r1⟩ := st.cells n a _ ha e
      exact .inl ⟨vs, .inl (.inl h1), by rw [r1.emp]⟩
    · rename_i ks ds e
      cases h
      obtain ⟨vs, h1, l, r1⟩ := st.cells n a _ ha e
      exact .inr (.inr ⟨_, h1, by rw [zip_emp (by rw [l, r1.len])]⟩)
    · cases h
  | _ => cases h
def trM (ma : ME) : MB := fun δ S => (ma δ S).bind fun x S1 => RO (truthB S1 x) S1
theorem pd_truth (ha : PE X a (tE W ma)) (he : ∀ whole, isTrue a X.env whole = (do let v ← whole; standAt a.pos; holding [v] (truthy v)) := by intro _; rfl) : PT X a (tT W (trM ma)) := by
  refine PT.weak (pt_truth ha he) fun σ H Q h => ?_
  obtain ⟨δ, S, ρ, I, h⟩ := h
  refine bindG I h fun x v S1 H1 ρ1 n1 I1 r1 h1 => ?_
  obtain ⟨c, ec, k⟩ := h1.ro
  exact ⟨c, truth_rep I1.st r1 ec, k c H1 ρ1 (Nx.refl _ _) I1.st rfl⟩
def andB (na nb : MB) : MB := fun δ S => (na δ S).bind fun c S1 => if c = true then nb δ S1 else .ok false S1
def orB (na nb : MB) : MB := fun δ S => (na δ S).bind fun c S1 => if c = true then .ok true S1 else nb δ S1
def notB (na : MB) : MB := fun δ S => (na δ S).bind fun c S1 => .ok (!c) S1
theorem tT_and {na nb : MB} (σ : St) (H : Hp) (Q : Bool → Hp → Prop) (h : tT W (andB na nb) σ H Q) : tAnd (tT W na) (tT W nb) σ H Q := by
  obtain ⟨δ, S, ρ, I, h⟩ := h
  refine bindG I h fun c c' S1 H1 ρ1 n1 I1 r1 h1 => ?_
  cases r1
  show if c = true then _ else _
  cases c with
  | true => rw [if_pos rfl] at h1 ⊢; exact ⟨δ, S1, ρ1, I1, h1⟩
  | false => rw [if_neg Bool.false_ne_true] at h1 ⊢; exact RunG.ok h1 I1.st rfl
theorem tT_or {na nb : MB} (σ : St) (H : Hp) (Q : Bool → Hp → Prop) (h : tT W (orB na nb) σ H Q) : tOr (tT W na) (tT W nb) σ H Q := by
  obtain ⟨δ, S, ρ, I, h⟩ := h
  refine bindG I h fun c c' S1 H1 ρ1 n1 I1 r1 h1 => ?_
  cases r1
  show if c = true then _ else _
  cases c with
  | true => rw [if_pos rfl] at h1 ⊢; exact RunG.ok h1 I1.st rfl
  | false => rw [if_neg Bool.false_ne_true] at h1 ⊢; exact ⟨δ, S1, ρ1, I1, h1⟩
theorem pw_dand (ha : PT X a (tT W na)) (hb : PW X (.BoolOp .And (b :: rest) pos) (tT W nb)) : PW X (.BoolOp .And (a :: b :: rest) pos) (tT W (andB na nb)) := PW.weak (pw_and ha hb) tT_and
theorem pw_dand1 (ha : PT X a (tT W na)) : PW X (.BoolOp .And [a] pos) (tT W na) := pw_and1 ha
theorem pw_dor (ha : PT X a (tT W na)) (hb : PW X (.BoolOp .Or (b :: rest) pos) (tT W nb)) : PW X (.BoolOp .Or (a :: b :: rest) pos) (tT W (orB na nb)) := PW.weak (pw_or ha hb) tT_or
theorem pw_dor1 (ha : PT X a (tT W na)) : PW X (.BoolOp .Or [a] pos) (tT W na) := pw_or1 ha
theorem pd_bopT {op : BoolOp} (h : PW X (.BoolOp op es pos) (tT W na)) : PT X (.BoolOp op es pos) (tT W na) := h.pt
theorem pd_notT (ha : PT X a (tT W na)) : PT X (.UnaryOp .Not a pos) (tT W (notB na)) := by
  refine PT.weak (pt_not ha) fun σ H Q h => ?_
  obtain ⟨δ, S, ρ, I, h⟩ := h
  refine bindG I h fun c c' S1 H1 ρ1 n1 I1 r1 h1 => ?_
  cases r1
  exact RunG.ok h1 I1.st rfl
def andM (ma mb : ME) : ME := fun δ S => (ma δ S).bind fun x S1 => match truthB S1 x with
  | some true => mb δ S1
  | some false => .ok x S1
  | none => .stuck
def orM (ma mb : ME) : ME := fun δ S => (ma δ S).bind fun x S1 => match truthB S1 x with
  | some false => mb δ S1
  | some true => .ok x S1
  | none => .stuck
def notM (ma : ME) : ME := fun δ S => (ma δ S).bind fun x S1 => match truthB S1 x with
  | some c => .ok (.bl (!c)) S1
  | none => .stuck
theorem pd_and (ha : PE X a (tE W ma)) (hb : PE X (.BoolOp .And (b :: rest) pos) (tE W mb)) : PE X (.BoolOp .And (a :: b :: rest) pos) (tE W (andM ma mb)) := by
  refine PE.weak (pe_andT ha hb) fun σ H Q h => ?_
  obtain ⟨δ, S, ρ, I, h⟩ := h
  refine bindG I h fun x v S1 H1 ρ1 n1 I1 r1 h1 => ?_
  split at h1
  · rename_i e
    refine ⟨true, truth_rep I1.st r1 e, ?_⟩
    rw [if_pos rfl]
    exact ⟨δ, S1, ρ1, I1, h1⟩
  · rename_i e
    refine ⟨false, truth_rep I1.st r1 e, ?_⟩
    rw [if_neg Bool.false_ne_true]
    exact RunG.ok h1 I1.st r1
  · exact False.elim h1
theorem pd_one {op : BoolOp} (h : PE X a (tE W ma)) : PE X (.BoolOp op [a] pos) (tE W ma) := pe_one h
theorem pd_not (ha : PE X a (tE W ma)) : PE X (.UnaryOp .Not a pos) (tE W (notM ma)) := by
  refine PE.weak (pe_notT ha) fun σ H Q h => ?_
  obtain ⟨δ, S, ρ, I, h⟩ := h
  refine bindG I h fun x v S1 H1 ρ1 n1 I1 r1 h1 => ?_
  split at h1
  · rename_i c e
    exact ⟨c, truth_rep I1.st r1 e, RunG.ok h1 I1.st rfl⟩
  · exact False.elim h1
def ifM (nc : MB) (ma mb : ME) : ME := fun δ S => (nc δ S).bind fun c S1 => if c = true then ma δ S1 else mb δ S1
theorem pd_ifExp {nc : MB} (hc : PT X c (tT W nc)) (ha : PE X a (tE W ma)) (hb : PE X b (tE W mb)) : PE X (.IfExp c a b pos) (tE W (ifM nc ma mb)) := by
  refine PE.weak (pe_ifExp hc ha hb) fun σ H Q h => ?_
  obtain ⟨δ, S, ρ, I, h⟩ := h
  refine bindG I h fun c c' S1 H1 ρ1 n1 I1 r1 h1 => ?_
  cases r1
  show if c = true then _ else _
  cases c with
  | true => rw [if_pos rfl] at h1 ⊢; exact ⟨δ, S1, ρ1, I1, h1⟩
  | false => rw [if_neg Bool.false_ne_true] at h1 ⊢; exact ⟨δ, S1, ρ1, I1, h1⟩
def chM (g g' : Store → D → D → Option D) (ma mb mc : ME) : ME := fun δ S => (ma δ S).bind fun x S1 => (mb δ S1).bind fun y S2 => match asB (g S2 x y) with
  | some true => (mc δ S2).bind fun z S3 => RO (g' S3 y z) S3
  | some false => .ok (.bl false) S2
  | none => .stuck
theorem asB_some {o : Option D} {c : Bool} (h : asB o = some c) : o = some (.bl c) := by
  unfold asB at h
  split at h
  · cases h; rfl
  · cases h
theorem tE_chain {r r' : R2} {g g' : Store → D → D → Option D} (s : OpSnd r g) (s' : OpSnd r' g') (σ : St) (H : Hp) (Q : VK) (h : tE W (chM g g' ma mb mc) σ H Q) : tChain r r' (tE W ma) (tE W mb) (tE W mc) σ H Q := by
  obtain ⟨δ, S, ρ, I, h⟩ := h
  refine bindG I h fun x v S1 H1 ρ1 n1 I1 r1 h1 => ?_
  refine bindG I1 h1 fun y u S2 H2 ρ2 n2 I2 r2 h2 => ?_
  split at h2
  · rename_i e
    refine s H2 ρ2 S2 x y (.bl true) v u _ I2.st (Rep.mono n2 _ _ r1) r2 (asB_some e) fun w H3 n3 st3 r3 => ?_
    cases r3
    refine ⟨true, rfl, ?_⟩
    rw [if_pos rfl]
    have h2' := h2
    have I3 := I2.next n3 st3
    refine bindG (W := W) I3 (R2 := Rep) (k := fun z S3 => RO (g' S3 y z) S3) (Q := Q) ?_ fun z t S4 H4 ρ4 n4 I4 r4 h4 => ?_
    · revert h2'
      cases (mc δ S2).bind fun z S3 => RO (g' S3 y z) S3 with
      | ok a S' => exact fun hh b H' ρ' n st r => hh b H' ρ' (n3.trans n) st r
      | exc x S' => exact fun hh b d H' ρ' n st r => hh b d H' ρ' (n3.trans n) st r
      | stuck => exact fun hh => hh
    · obtain ⟨z', e', k⟩ := h4.ro
      exact s' H4 ρ4 S4 y z z' u t Q I4.st (Rep.mono (n3.trans n4) _ _ r2) r4 e' fun w H' n st r => k w H' ρ4 n st r
  · rename_i e
    refine s H2 ρ2 S2 x y (.bl false) v u _ I2.st (Rep.mono n2 _ _ r1) r2 (asB_some e) fun w H3 n3 st3 r3 => ?_
    cases r3
    refine ⟨false, rfl, ?_⟩
    rw [if_neg Bool.false_ne_true]
    exact RunG.okN h2 n3 st3 rfl
  · exact False.elim h2
theorem pd_chain {op op' : CmpOp} {r r' : R2} {g g' : Store → D → D → Option D} (ho : OpR X (compareOp op) r) (ho' : OpR X (compareOp op') r') (s : OpSnd r g) (s' : OpSnd r' g') (ha : PE X a (tE W ma)) (hb : PE X b (tE W mb)) (hc : PE X c (tE W mc))
    (hm : lastMarks [op, op'] [b, c] = false := by with_unfolding_all rfl) : PE X (.Compare a [op, op'] [b, c] pos) (tE W (chM g g' ma mb mc)) := PE.weak (pe_chain ho ho' ha hb hc hm) (tE_chain s s')
def bM (ma : ME) : MB := fun δ S => (ma δ S).bind fun x S1 => RO (asB (some x)) S1
def lookK {α : Type} : List Key → List α → Key → Option α
  | k :: ks, d :: ds, q => if k = q then some d else lookK ks ds q
  | _, _, _ => none
theorem lookK_rep {H : Hp} {ρ : List Addr} : ∀ {ks : List Key} {ds : List D} {vs : List V} {q : Key} {d : D}, Reps H ρ ds vs → lookK ks ds q = some d → ∃ v, valV (ks.zip vs) q = some v ∧ Rep H ρ d v
  | [], _, _, _, _, _, h => by cases h
  | _ :: _, [], _, _, _, _, h => by cases h
  | k :: ks, d' :: ds, vs, q, d, r, h => by
    obtain ⟨v, us, rfl, h1, h2⟩ := r
    rw [List.zip_cons_cons]
    unfold lookK at h
    split at h
    · rename_i e
      cases h
      exact ⟨v, by rw [valV_pos (show ((k, v) : Key × V).1 = q from e)], h1⟩
    · rename_i e
      obtain ⟨w, e1, r1⟩ := lookK_rep h2 h
      refine ⟨w, ?_, r1⟩
      rw [← e1]
      simp [valV, List.find?_cons, e]
def ixG (S : Store) (x y : D) : Option D := match x, y with
  | .str l, .int i => if l.length ≤ 1000000 then (match atI l i with
      | some c => some (.str [c])
      | none => none) else none
  | x, y => match asDct S x, keyD y with
    | some (ks, ds), some k => lookK ks ds k
    | _, _ => match asQ S x, y with
      | some ds, .int i => atI ds i
      | _, _ => none
def rIxA (K : PySem.W.Frag) : R2 := fun x y H Q => rIxS x y H Q ∨ ((∃ a v, x = .ref a ∧ DGet H a y (some v) ∧ Q v H) ∨ (rIxL K x y H Q ∨ rIxT K x y H Q))
theorem ix_dict (hu : X.A.units + 1 < cLine) : IxR X (fun x y H Q => ∃ a v, x = .ref a ∧ DGet H a y (some v) ∧ Q v H) := by
  intro value slice pins s σ H x y v u Q I rx ry h hs
  obtain ⟨a, w, rfl, g, q⟩ := h
  cases rx
  exact tail_any (dict_typeIs I g) PySem.F.slot_dict_getitem.lookup (d_getItem hu I g ry fun w' s' I' rw' => ⟨w, H, I', rw', q⟩) hs
theorem ix_A (hu : X.A.units + 64 < cLine) : IxR X (rIxA X.K) := IxR.or ix_str (IxR.or (ix_dict (by omega)) (IxR.or ix_list ix_tup))
theorem atI_reps {H : Hp} {ρ : List Addr} {ds : List D} {vs : List V} {i : Int} {d : D} (r : Reps H ρ ds vs) (h : atI ds i = some d) : ∃ v, atI vs i = some v ∧ Rep H ρ d v := by
  unfold atI at h ⊢
  rw [r.len] at h
  cases e : ixN vs.length i with
  | none => rw [e] at h; cases h
  | some j =>
    rw [e] at h
    exact Reps.getD r h
theorem snd_ix {K : PySem.W.Frag} : OpSnd (rIxA K) ixG := by
  intro H ρ S x y z v u Q st rx ry e k
  unfold ixG at e
  split at e
  · rename_i l i
    split at e
    · rename_i hl
      split at e
      · rename_i c ec
        cases e; cases rx; cases ry
        exact .inl ⟨_, _, c, rfl, rfl, by rw [str_len]; exact sz6 hl, by simpa using ec, k.now st rfl⟩
      · cases e
    · cases e
  · split at e
    · rename_i ks ds q e1 e2
      obtain ⟨a, vs, rfl, h1, l, r1⟩ := asDct_rep st rx e1
      have ek := keyD_rep ry e2
      subst ek
      obtain ⟨w, e3, r3⟩ := lookK_rep r1 e
      exact .inr (.inl ⟨a, w, rfl, .inl ⟨_, _, h1, rfl, e3.symm⟩, k.now st r3⟩)
    · split at e
      · rename_i ds i ed o1 o2
        obtain ⟨a, vs, rfl, hq, rs⟩ := asQ_rep (K := K) st rx ed
        cases ry
        obtain ⟨w, e1, r1⟩ := atI_reps rs e
        rcases hq with hq | hq
        · exact .inr (.inr (.inl ⟨a, vs, i, w, rfl, rfl, hq, e1, k.now st r1⟩))
        · exact .inr (.inr (.inr ⟨a, vs, i, w, rfl, rfl, hq, e1, k.now st r1⟩))
      · cases e
theorem pd_ix (hu : X.A.units + 64 < cLine) (ha : PE X a (tE W ma)) (hb : PE X b (tE W mb)) (hs : PlainIx b := by exact fun _ _ => rfl) : PE X (.Subscript a b pos) (tE W (op2M ixG ma mb)) := PE.weak (pe_ix (ix_A hu) ha hb hs) snd_ix.tE
abbrev MO := DEnv → Store → Res (Option Int)
abbrev tO (W : WX) (m : MO) : TO := tG W (fun _ _ a b => a = b) m
theorem PO.weak {X : Cx} {e : Option Expr} {t t' : TO} (h : PO X e t) (hw : ∀ σ H Q, t' σ H Q → t σ H Q) : PO X e t' := ⟨fun pins s σ H Q I q => h.run pins s σ H Q I (hw _ _ _ q)⟩
def noO : MO := fun _ S => .ok none S
def asI : D → Option Int
  | .int i => some i
  | _ => none
def soO (ma : ME) : MO := fun δ S => (ma δ S).bind fun x S1 => match asI x with
  | some i => .ok (some i) S1
  | none => .stuck
theorem po_dno : PO X none (tO W noO) := PO.weak po_none fun σ H Q h => by
  obtain ⟨δ, S, ρ, I, h⟩ := h
  exact RunG.ok h I.st rfl
theorem po_dso (ha : PE X a (tE W ma)) : PO X (some a) (tO W (soO ma)) := PO.weak (po_some ha) fun σ H Q h => by
  obtain ⟨δ, S, ρ, I, h⟩ := h
  refine bindG I h fun x v S1 H1 ρ1 n1 I1 r1 h1 => ?_
  split at h1
  · rename_i i e
    cases x with
    | int j => cases e; cases r1; exact ⟨i, rfl, RunG.ok h1 I1.st rfl⟩
    | _ => cases e
  · exact False.elim h1
def cutL {α : Type} (xs : List α) (lo hi : Option Int) : List α := (xs.drop (HT.sIx xs.length 0 lo)).take (HT.sIx xs.length xs.length hi - HT.sIx xs.length 0 lo)
def slG (S : Store) (x : D) (lo hi : Option Int) : Option D := match x with
  | .str l => if l.length ≤ 1000000 then some (.str (cutL l lo hi)) else none
  | .tup ds => some (.tup (cutL ds lo hi))
  | x => match asL S x with
    | some ds => some (.lst (cutL ds lo hi))
    | none => none
def slM (ma : ME) (ml mh : MO) : ME := fun δ S => (ma δ S).bind fun x S1 => (ml δ S1).bind fun lo S2 => (mh δ S2).bind fun hi S3 => RO (slG S3 x lo hi) S3
def rSlD (K : PySem.W.Frag) : V → Option Int → Option Int → Hp → VK → Prop := fun x lo hi H Q => rSlS x lo hi H Q ∨ (rSlL K x lo hi H Q ∨ L2.rSlA K x lo hi H Q)
theorem sl_D : SlR X (rSlD X.K) := SlR.or sl_str (SlR.or sl_list sl_tupA)
theorem cutL_reps {H : Hp} {ρ : List Addr} {ds : List D} {vs : List V} (r : Reps H ρ ds vs) (lo hi : Option Int) : Reps H ρ (cutL ds lo hi) (cutV vs lo hi) := by
  unfold cutL cutV
  rw [r.len]
  exact (r.drop _).take _
theorem cut_str (l : List Nat) (lo hi : Option Int) : cutS ⟨l.toArray⟩ lo hi = ⟨(cutL l lo hi).toArray⟩ := by
  unfold cutS cutL
  rw [str_len]
theorem cutV_whole {vs : List V} {lo hi : Option Int} (h : HT.sIx vs.length 0 lo = 0 ∧ HT.sIx vs.length vs.length hi = vs.length) : cutV vs lo hi = vs := by
  unfold cutV
  rw [h.1, h.2]
  simp
theorem pd_sl {p2 : Pos} {lo hi : Option Expr} {ml mh : MO} (ha : PE X a (tE W ma)) (hl : PO X lo (tO W ml)) (hh : PO X hi (tO W mh)) : PE X (.Subscript a (.Slice lo hi none p2) pos) (tE W (slM ma ml mh)) := by
  refine PE.weak (pe_slice sl_D ha hl hh) fun σ H Q h => ?_
  obtain ⟨δ, S, ρ, I, h⟩ := h
  refine bindG I h fun x v S1 H1 ρ1 n1 I1 r1 h1 => ?_
  refine bindG I1 h1 fun lo' lo S2 H2 ρ2 n2 I2 e1 h2 => ?_
  refine bindG I2 h2 fun hi' hi S3 H3 ρ3 n3 I3 e2 h3 => ?_
  subst e1 e2
  obtain ⟨z, e, k⟩ := h3.ro
  have rx := Rep.mono (n2.trans n3) _ _ r1
  have kd : KD H3 ρ3 S3 z Q := fun w H' n st r => k w H' ρ3 n st r
  unfold slG at e
  split at e
  · rename_i l
    split at e
    · rename_i hl
      cases e
      cases rx
      refine .inl ⟨_, rfl, by rw [str_len]; exact sz6 hl, ?_⟩
      rw [cut_str]
      exact kd.now I3.st rfl
    · cases e
  · rename_i ds
    cases e
    obtain ⟨a', vs, rfl, h1', na, rs⟩ := rx
    refine .inr (.inr ⟨a', vs, rfl, .inl h1'.rd, fun hw => ?_, fun hw p hp => ?_⟩)
    · have := cutL_reps rs lo' hi'
      rw [cutV_whole hw] at this
      exact kd.now I3.st ⟨a', vs, rfl, h1', na, this⟩
    · exact KD.tup kd I3.st (cutL_reps rs lo' hi') hp
  · split at e
    · rename_i ds ed
      cases e
      obtain ⟨a', vs, rfl, h1', rs⟩ := asL_rep I3.st rx ed
      exact .inr (.inl ⟨a', vs, rfl, .inl (.inl h1'), fun p hp => KD.lst kd I3.st (cutL_reps rs lo' hi') hp⟩)
    · cases e
end
section
variable {X : Cx} {W : WX} {a b c e o : Expr} {es rest : List Expr} {ma mb mc me mo : ME} {ms : MA} {p pos apos cpos : Pos} {x : Str}
theorem CaSnd.tE {r : List V → Hp → VK → Prop} {g : Store → List D → Option D} (s : CaSnd r g) (σ : St) (H : Hp) (Q : VK) (h : tE W (callG g ms) σ H Q) : tCB r (tA W ms) σ H Q := by
  obtain ⟨δ, S, ρ, I, h⟩ := h
  refine bindG I h fun xs vs S1 H1 ρ1 n1 I1 r1 h1 => ?_
  obtain ⟨z, e, k⟩ := h1.ro
  exact s H1 ρ1 S1 xs z vs Q I1.st r1 e fun w H' n st r => k w H' ρ1 n st r
theorem pd_callB {id : String} {r : List V → Hp → VK → Prop} {g : Store → List D → Option D} (hc : CallR X (.builtin id) r) (s : CaSnd r g) (hm : X.mg x = none) (ha : PA X (e :: es) (tA W ms)) (hg : Gl X x := by rfl) (hv : bootBuiltins x = some (.builtin id) := by decide +kernel)
    (hn : x ≠ "__name__" := by decide) (hdb : (x == ("__debug__" : Str)) = false := by decide)
    (he : starEach (e :: es) X.env = (false, eval e X.env) :: starEach es X.env := by rfl) (hpl : (backTo pos (starEach es X.env)).any (·.1) = false := by rfl) : PE X (.Call (.Name x p) (e :: es) [] pos) (tE W (callG g ms)) :=
  PE.weak (pe_callB hc hg hm hv ha hn hdb he hpl) s.tE
theorem pd_callTy {T : String} {r : List V → Hp → VK → Prop} {g : Store → List D → Option D} (hc : CallR X (.type T) r) (s : CaSnd r g) (hm : X.mg x = none) (ha : PA X (e :: es) (tA W ms)) (hg : Gl X x := by rfl) (hv : bootBuiltins x = some (.type T) := by decide +kernel)
    (hn : x ≠ "__name__" := by decide) (hdb : (x == ("__debug__" : Str)) = false := by decide)
    (he : starEach (e :: es) X.env = (false, eval e X.env) :: starEach es X.env := by rfl) (hpl : (backTo pos (starEach es X.env)).any (·.1) = false := by rfl) : PE X (.Call (.Name x p) (e :: es) [] pos) (tE W (callG g ms)) :=
  PE.weak (pe_callTy hc hg hm hv ha hn hdb he hpl) s.tE
def lenN (S : Store) (x : D) : Option Nat := match x with
  | .str l => if l.length ≤ 1000000 then some l.length else none
  | .tup ds => some ds.length
  | x => match asL S x with
    | some ds => some ds.length
    | none => match asDct S x with
      | some (ks, _) => some ks.length
      | none => none
def lenG (S : Store) (xs : List D) : Option D := match xs with
  | [x] => match lenN S x with
    | some n => some (.int n)
    | none => none
  | _ => none
def rLenA (K : PySem.W.Frag) : List V → Hp → VK → Prop := fun xs H Q => (∃ x n, xs = [x] ∧ LenV K x H n ∧ Q (.int n) H) ∨ (∃ a kvs, xs = [.ref a] ∧ Rd H a (.dK kvs) ∧ Q (.int (kvs.length : Nat)) H)
theorem call_lenA : CallR X (.builtin "len") (rLenA X.K) := CallR.or call_len (fun pins s σ H xs us Q I r h => by
  obtain ⟨a, kvs, e1, e2, q⟩ := h
  subst e1
  obtain ⟨u, rfl, ru⟩ := vals1 r
  cases ru
  exact d_len I e2 fun t s' I' => ⟨.int kvs.length, H, I', ⟨t, rfl⟩, q⟩)
theorem zip_len {ks : List Key} {vs : List V} (h : ks.length = vs.length) : (ks.zip vs).length = ks.length := by
  rw [List.length_zip, h, Nat.min_self]
theorem snd_len {K : PySem.W.Frag} : CaSnd (rLenA K) lenG := by
  intro H ρ S xs z vs Q st rs e k
  unfold lenG at e
  split at e
  · rename_i x
    obtain ⟨v, us, rfl, rx, ru⟩ := rs
    cases ru
    split at e
    · rename_i n en
      cases e
      unfold lenN at en
      split at en
      · split at en
        · rename_i hl
          cases en; cases rx
          exact .inl ⟨_, _, rfl, ⟨by rw [str_len]; exact sz6 hl, by rw [str_len]⟩, k.now st rfl⟩
        · cases en
      · cases en
        obtain ⟨a, vs, rfl, h1, _, r1⟩ := rx
        exact .inl ⟨_, _, rfl, .inr ⟨vs, .inl h1.rd, r1.len⟩, k.now st rfl⟩
      · split at en
        · rename_i ds ed
          cases en
          obtain ⟨a, vs, rfl, h1, r1⟩ := asL_rep st rx ed
          exact .inl ⟨_, _, rfl, .inl ⟨vs, .inl (.inl h1), r1.len⟩, k.now st rfl⟩
        · split at en
          · rename_i ks ds ed
            cases en
            obtain ⟨a, vs, rfl, h1, l, r1⟩ := asDct_rep st rx ed
            refine .inr ⟨a, _, rfl, h1, ?_⟩
            rw [zip_len (by rw [l, r1.len])]
            exact k.now st rfl
          · cases en
    · cases e
  · cases e
def intG (_ : Store) (xs : List D) : Option D := match xs with
  | [.int i] => some (.int i)
  | [.bl b] => some (.int (if b then 1 else 0))
  | [.str l] => if l.length ≤ 640 then (match PySem.intText? ⟨l.toArray⟩ with
      | some n => some (.int n)
      | none => none) else none
  | _ => none
def strI (i : Int) : List Nat := (Str.ofString (toString i)).cps.toList
def strG (_ : Store) (xs : List D) : Option D := match xs with
  | [.int i] => if i.natAbs.log2 < 1920 then some (.str (strI i)) else none
  | _ => none
def listG (S : Store) (xs : List D) : Option D := match xs with
  | [x] => match asQ S x with
    | some ds => some (.lst ds)
    | none => none
  | _ => none
def tupleG (S : Store) (xs : List D) : Option D := match xs with
  | [.tup ds] => some (.tup ds)
  | [x] => match asL S x with
    | some ds => some (.tup ds)
    | none => none
  | _ => none
theorem snd_list {K : PySem.W.Frag} : CaSnd (fun xs H Q => ∃ p ys, xs = [.ref p] ∧ (SqL K H p ys ∨ SqT K H p ys) ∧ ∀ l, H l = none → Q (.ref l) (upd H l (.lst ys))) listG := by
  intro H ρ S xs z vs Q st rs e k
  unfold listG at e
  split at e
  · obtain ⟨v, us, rfl, rx, ru⟩ := rs
    split at e
    · rename_i ds ed
      cases ru; cases e
      obtain ⟨a, vs, rfl, hq, r1⟩ := asQ_rep (K := K) st rx ed
      exact ⟨a, vs, rfl, hq, fun l hl => KD.lst k st r1 hl⟩
    · cases e
  · cases e
theorem snd_tuple {K : PySem.W.Frag} : CaSnd (fun xs H Q => ∃ p ys, xs = [.ref p] ∧ ((SqL K H p ys ∧ ∀ l, H l = none → Q (.ref l) (upd H l (.tup ys))) ∨ (SqT K H p ys ∧ Q (.ref p) H))) tupleG := by
  intro H ρ S xs z vs Q st rs e k
  unfold tupleG at e
  split at e
  · obtain ⟨v, us, rfl, rx, ru⟩ := rs
    cases ru; cases e
    obtain ⟨a, vs, rfl, h1, na, r1⟩ := rx
    exact ⟨a, vs, rfl, .inr ⟨.inl h1.rd, k.now st ⟨a, vs, rfl, h1, na, r1⟩⟩⟩
  · obtain ⟨v, us, rfl, rx, ru⟩ := rs
    split at e
    · rename_i ds ed
      cases ru; cases e
      obtain ⟨a, vs, rfl, h1, r1⟩ := asL_rep st rx ed
      exact ⟨a, vs, rfl, .inl ⟨.inl (.inl h1), fun l hl => KD.tup k st r1 hl⟩⟩
    · cases e
  · cases e
def asBs : List D → Option (List Bool)
  | [] => some []
  | .bl b :: ds => match asBs ds with
    | some bs => some (b :: bs)
    | none => none
  | _ => none
def asIs : List D → Option (List Int)
  | [] => some []
  | .int b :: ds => match asIs ds with
    | some bs => some (b :: bs)
    | none => none
  | _ => none
def asSs : List D → Option (List (List Nat))
  | [] => some []
  | .str b :: ds => match asSs ds with
    | some bs => some (b :: bs)
    | none => none
  | _ => none
@[simp] theorem asBs_map (bs : List Bool) : asBs (bs.map D.bl) = some bs := by
  induction bs with
  | nil => rfl
  | cons b bs ih => simp [asBs, ih]
@[simp] theorem asIs_map (bs : List Int) : asIs (bs.map D.int) = some bs := by
  induction bs with
  | nil => rfl
  | cons b bs ih => simp [asIs, ih]
@[simp] theorem asSs_map (bs : List (List Nat)) : asSs (bs.map D.str) = some bs := by
  induction bs with
  | nil => rfl
  | cons b bs ih => simp [asSs, ih]
theorem asBs_rep {H : Hp} {ρ : List Addr} : ∀ {ds : List D} {vs : List V} {bs : List Bool}, Reps H ρ ds vs → asBs ds = some bs → vs = bs.map V.bl
  | [], vs, bs, r, h => by cases r; cases h; rfl
  | .bl b :: ds, vs, bs, r, h => by
    obtain ⟨v, us, rfl, rx, ru⟩ := r
    simp only [asBs] at h
    split at h
    · rename_i bs' e
      cases h; cases rx
      rw [asBs_rep ru e]; rfl
    · cases h
  | .non :: _, _, _, _, h => by cases h
  | .int _ :: _, _, _, _, h => by cases h
  | .str _ :: _, _, _, _, h => by cases h
  | .tup _ :: _, _, _, _, h => by cases h
  | .lst _ :: _, _, _, _, h => by cases h
  | .dct _ _ :: _, _, _, _, h => by cases h
  | .obj _ _ _ :: _, _, _, _, h => by cases h
  | .exn _ _ _ _ :: _, _, _, _, h => by cases h
  | .loc _ :: _, _, _, _, h => by cases h
  | .raw _ :: _, _, _, _, h => by cases h
theorem asIs_rep {H : Hp} {ρ : List Addr} : ∀ {ds : List D} {vs : List V} {bs : List Int}, Reps H ρ ds vs → asIs ds = some bs → vs = bs.map V.int
  | [], vs, bs, r, h => by cases r; cases h; rfl
  | .int b :: ds, vs, bs, r, h => by
    obtain ⟨v, us, rfl, rx, ru⟩ := r
    simp only [asIs] at h
    split at h
    · rename_i bs' e
      cases h; cases rx
      rw [asIs_rep ru e]; rfl
    · cases h
  | .non :: _, _, _, _, h => by cases h
  | .bl _ :: _, _, _, _, h => by cases h
  | .str _ :: _, _, _, _, h => by cases h
  | .tup _ :: _, _, _, _, h => by cases h
  | .lst _ :: _, _, _, _, h => by cases h
  | .dct _ _ :: _, _, _, _, h => by cases h
  | .obj _ _ _ :: _, _, _, _, h => by cases h
  | .exn _ _ _ _ :: _, _, _, _, h => by cases h
  | .loc _ :: _, _, _, _, h => by cases h
  | .raw _ :: _, _, _, _, h => by cases h
abbrev sOf (l : List Nat) : Str := ⟨l.toArray⟩
def allG (S : Store) (xs : List D) : Option D := match xs with
  | [x] => match asL S x with
    | some ds => match asBs ds with
      | some bs => some (.bl (bs.all id))
      | none => none
    | none => none
  | _ => none
def anyG (S : Store) (xs : List D) : Option D := match xs with
  | [x] => match asL S x with
    | some ds => match asBs ds with
      | some bs => some (.bl (bs.any id))
      | none => none
    | none => none
  | _ => none
def sumG (S : Store) (xs : List D) : Option D := match xs with
  | [x] => match asL S x with
    | some ds => match asIs ds with
      | some bs => some (.int bs.sum)
      | none => none
    | none => none
  | _ => none
theorem snd_all {K : PySem.W.Frag} : CaSnd (rAll K) allG := by
  intro H ρ S xs z vs Q st rs e k
  unfold allG at e
  split at e
  · obtain ⟨v, us, rfl, rx, ru⟩ := rs
    split at e
    · rename_i ds ed
      split at e
      · rename_i bs eb
        cases ru; cases e
        obtain ⟨a, vs, rfl, h1, r1⟩ := asL_rep st rx ed
        have := asBs_rep r1 eb
        subst this
        exact ⟨a, bs, rfl, .inl (.inl h1), k.now st rfl⟩
      · cases e
    · cases e
  · cases e
theorem snd_sum {K : PySem.W.Frag} : CaSnd (rSum K) sumG := by
  intro H ρ S xs z vs Q st rs e k
  unfold sumG at e
  split at e
  · obtain ⟨v, us, rfl, rx, ru⟩ := rs
    split at e
    · rename_i ds ed
      split at e
      · rename_i bs eb
        cases ru; cases e
        obtain ⟨a, vs, rfl, h1, r1⟩ := asL_rep st rx ed
        have := asIs_rep r1 eb
        subst this
        exact ⟨a, bs, rfl, .inl (.inl h1), k.now st rfl⟩
      · cases e
    · cases e
  · cases e
def tyN (S : Store) : D → Option String
  | .non => some "NoneType"
  | .bl _ => some "bool"
  | .int _ => some "int"
  | .str _ => some "str"
  | .tup _ => some "tuple"
  | .lst _ => some "list"
  | .loc n => match S[n]? with
    | some (.lst _) => some "list"
    | some (.dct _ _) => some "dict"
    | _ => none
  | _ => none
theorem tyN_rep {K : PySem.W.Frag} {H : Hp} {ρ : List Addr} {S : Store} {x : D} {v : V} {t : String} (st : StS H S ρ) (r : Rep H ρ x v) (h : tyN S x = some t) : TyX K H v (.type t) := by
  cases x with
  | non => cases h; cases r; exact .base .non
  | bl _ => cases h; cases r; exact .base (.bl _)
  | int _ => cases h; cases r; exact .base (.int _)
  | str _ => cases h; cases r; exact .base (.str _)
  | tup _ =>
    cases h
    obtain ⟨a, vs, rfl, h1, _⟩ := r
    rcases h1 with h1 | ⟨_, o, h1⟩
    · exact .base (.tup h1)
    · exact .fTuple h1
  | lst _ => cases h; obtain ⟨a, vs, rfl, h1, _⟩ := r; exact .base (.lst h1)
  | loc n =>
    obtain ⟨a, ha, rfl⟩ := r
    simp only [tyN] at h
    split at h
    · rename_i ds e
      cases h
      obtain ⟨vs, h1, _⟩ := st.cells n a _ ha e
      exact .base (.lst h1)
    · rename_i ks ds e
      cases h
      obtain ⟨vs, h1, _⟩ := st.cells n a _ ha e
      exact .base (.dK h1)
    · cases h
  | _ => cases h
def f_str (t : String) : Option Bool := if t = "str" then some true else if t = "NoneType" ∨ t = "bool" ∨ t = "int" ∨ t = "tuple" ∨ t = "list" ∨ t = "dict" then some false else none
def f_int (t : String) : Option Bool := if t = "int" ∨ t = "bool" then some true else if t = "NoneType" ∨ t = "str" ∨ t = "tuple" ∨ t = "list" ∨ t = "dict" then some false else none
def f_bool (t : String) : Option Bool := if t = "bool" then some true else if t = "NoneType" ∨ t = "int" ∨ t = "str" ∨ t = "tuple" ∨ t = "list" ∨ t = "dict" then some false else none
def f_tuple (t : String) : Option Bool := if t = "tuple" then some true else if t = "NoneType" ∨ t = "bool" ∨ t = "int" ∨ t = "str" ∨ t = "list" ∨ t = "dict" then some false else none
def f_list (t : String) : Option Bool := if t = "list" then some true else if t = "NoneType" ∨ t = "bool" ∨ t = "int" ∨ t = "str" ∨ t = "tuple" ∨ t = "dict" then some false else none
end
section
variable {X : Cx} {W : WX} {a b c e o : Expr} {es rest : List Expr} {ma mb mc me mo : ME} {ms : MA} {p pos apos cpos : Pos} {x : Str}
def isTy (n t : String) : Option Bool :=
  if n = "str" then f_str t else if n = "int" then f_int t else if n = "bool" then f_bool t else if n = "tuple" then f_tuple t else if n = "list" then f_list t else none
theorem isTy_kit {n t : String} {b : Bool} (h : isTy n t = some b) : kitB t n = some b := by
  unfold isTy at h
  split at h
  · rename_i e; subst e; unfold f_str at h
    split at h
    · rename_i e; subst e; cases h; decide +kernel
    · split at h
      · rename_i e; cases h; rcases e with e | e | e | e | e | e <;> subst e <;> decide +kernel
      · cases h
  · split at h
    · rename_i e; subst e; unfold f_int at h
      split at h
      · rename_i e; cases h; rcases e with e | e <;> subst e <;> decide +kernel
      · split at h
        · rename_i e; cases h; rcases e with e | e | e | e | e <;> subst e <;> decide +kernel
        · cases h
    · split at h
      · rename_i e; subst e; unfold f_bool at h
        split at h
        · rename_i e; subst e; cases h; decide +kernel
        · split at h
          · rename_i e; cases h; rcases e with e | e | e | e | e | e <;> subst e <;> decide +kernel
          · cases h
      · split at h
        · rename_i e; subst e; unfold f_tuple at h
          split at h
          · rename_i e; subst e; cases h; decide +kernel
          · split at h
            · rename_i e; cases h; rcases e with e | e | e | e | e | e <;> subst e <;> decide +kernel
            · cases h
        · split at h
          · rename_i e; subst e; unfold f_list at h
            split at h
            · rename_i e; subst e; cases h; decide +kernel
            · split at h
              · rename_i e; cases h; rcases e with e | e | e | e | e | e <;> subst e <;> decide +kernel
              · cases h
          · cases h
def isiA (S : Store) (xs : List D) : Option D := match xs with
  | [x, .raw (.ty n)] => match tyN S x with
    | some t => match isTy n t with
      | some b => some (.bl b)
      | none => none
    | none => none
  | [x, .tup [.raw (.ty n), .raw (.ty m)]] => match tyN S x with
    | some t => match isTy n t, isTy m t with
      | some b, some c => some (.bl (b || c))
      | _, _ => none
    | none => none
  | _ => none
def rIsiA (K : PySem.W.Frag) : List V → Hp → VK → Prop := fun xs H Q => rIsi K xs H Q ∨ rIsiT K xs H Q
theorem call_isiA : CallR X (.builtin "isinstance") (rIsiA X.K) := CallR.or call_isi call_isiT
theorem snd_isi {K : PySem.W.Frag} : CaSnd (rIsiA K) isiA := by
  intro H ρ S xs z vs Q st rs e k
  unfold isiA at e
  split at e
  · obtain ⟨v, us, rfl, rx, ru⟩ := rs
    obtain ⟨u, ws, rfl, ry, rw'⟩ := ru
    cases rw'
    cases ry
    split at e
    · rename_i t et
      split at e
      · rename_i b eb
        cases e
        exact .inl ⟨v, _, _, _, b, rfl, .ty _, tyN_rep st rx et, kit_ty (isTy_kit eb), k.now st rfl⟩
      · cases e
    · cases e
  · obtain ⟨v, us, rfl, rx, ru⟩ := rs
    obtain ⟨u, ws, rfl, ry, rw'⟩ := ru
    cases rw'
    obtain ⟨tp, cs, rfl, h1, _, rc⟩ := ry
    obtain ⟨c1, cs1, rfl, rc1, rc2⟩ := rc
    obtain ⟨c2, cs2, rfl, rc3, rc4⟩ := rc2
    cases rc4; cases rc1; cases rc3
    split at e
    · rename_i t et
      split at e
      · rename_i b c eb ec
        cases e
        refine .inr ⟨v, tp, _, _, _, b || c, rfl, h1.at (by simp), .cons (.ty _) (.cons (.ty _) .nil), tyN_rep st rx et, ?_, k.now st rfl⟩
        refine kitAny_cons (kit_ty (isTy_kit eb)) (fun hb => kitAny_cons (kit_ty (isTy_kit ec)) (fun hc => ?_) (fun hc => ?_)) (fun hb => ?_)
        · rw [hb, hc]; rfl
        · rw [hb, hc]; rfl
        · rw [hb]; rfl
      · cases e
    · cases e
  · cases e
def isS : D → Bool
  | .str _ => true
  | _ => false
def mtS (g : Store → D → List D → Option D) (mo : ME) (ms : MA) : ME := fun δ S => (mo δ S).bind fun x S1 => if isS x = true then (ms δ S1).bind fun xs S2 => RO (g S2 x xs) S2 else .stuck
def upL (c : Nat) : Nat := if 97 ≤ c ∧ c ≤ 122 then c - 32 else c
def loL (c : Nat) : Nat := if 65 ≤ c ∧ c ≤ 90 then c + 32 else c
def asc (l : List Nat) : Bool := l.all fun c => decide (c < 128)
def upperG (_ : Store) (x : D) (xs : List D) : Option D := match x, xs with
  | .str l, [] => if asc l = true ∧ l.length ≤ 1000000 then some (.str (l.map upL)) else none
  | _, _ => none
def lowerG (_ : Store) (x : D) (xs : List D) : Option D := match x, xs with
  | .str l, [] => if asc l = true ∧ l.length ≤ 1000000 then some (.str (l.map loL)) else none
  | _, _ => none
def joinL (s : List Nat) : List (List Nat) → List Nat
  | [] => []
  | [x] => x
  | x :: y :: r => x ++ s ++ joinL s (y :: r)
def joinG (S : Store) (x : D) (xs : List D) : Option D := match x, xs with
  | .str s, [y] => match asQ S y with
    | some ds => match asSs ds with
      | some ls => if (ls.map List.length).sum + ls.length * s.length ≤ 1000000 then some (.str (joinL s ls)) else none
      | none => none
    | none => none
  | _, _ => none
end
inductive Flw where
  | nx (δ : DEnv) (S : Store) | rt (d : D) (S : Store) | bk (δ : DEnv) (S : Store) | ct (δ : DEnv) (S : Store) | exc (x : Ex) (δ : DEnv) (S : Store) | stuck
abbrev MS := DEnv → Store → Flw
def bindS {α : Type} (r : Res α) (δ : DEnv) (k : α → Store → Flw) : Flw := match r with
  | .ok a S => k a S
  | .exc x S => .exc x δ S
  | .stuck => .stuck
@[simp] theorem bindS_ok {α : Type} (a : α) (S : Store) (δ : DEnv) (k : α → Store → Flw) : bindS (.ok a S) δ k = k a S := rfl
@[simp] theorem bindS_exc {α : Type} (x : Ex) (S : Store) (δ : DEnv) (k : α → Store → Flw) : bindS (.exc x S) δ k = .exc x δ S := rfl
@[simp] theorem bindS_stuck {α : Type} (δ : DEnv) (k : α → Store → Flw) : bindS .stuck δ k = .stuck := rfl
section
variable (W : WX) (G : Ends)
def RunF (H : Hp) (ρ : List Addr) (r : Flw) : Prop := match r with
  | .nx δ' S' => ∀ σ' H' ρ', Nx H ρ H' ρ' → StE σ' H' δ' S' ρ' → G.nx σ' H'
  | .bk δ' S' => ∀ σ' H' ρ', Nx H ρ H' ρ' → StE σ' H' δ' S' ρ' → G.bk σ' H'
  | .ct δ' S' => ∀ σ' H' ρ', Nx H ρ H' ρ' → StE σ' H' δ' S' ρ' → G.ct σ' H'
  | .rt d S' => ∀ v H' ρ', Nx H ρ H' ρ' → StS H' S' ρ' → Rep H' ρ' d v → G.rt v H'
  | .exc x δ' S' => ∀ c dd σ' H' ρ', Nx H ρ H' ρ' → StE σ' H' δ' S' ρ' → RepX H' ρ' x c dd → W c dd σ' H'
  | .stuck => False
end
def tS (W : WX) (m : MS) : TS := fun G σ H => ∃ δ S ρ, StE σ H δ S ρ ∧ RunF W G H ρ (m δ S)
section
variable {X : Cx} {W : WX} {G : Ends} {H H1 : Hp} {ρ ρ1 : List Addr} {σ : St} {δ : DEnv} {S : Store} {α β : Type} {R : Hp → List Addr → α → β → Prop}
theorem RunF.mono {r : Flw} (n : Nx H ρ H1 ρ1) (h : RunF W G H ρ r) : RunF W G H1 ρ1 r := by
  cases r with
  | nx δ S => exact fun σ' H' ρ' n' st => h σ' H' ρ' (n.trans n') st
  | bk δ S => exact fun σ' H' ρ' n' st => h σ' H' ρ' (n.trans n') st
  | ct δ S => exact fun σ' H' ρ' n' st => h σ' H' ρ' (n.trans n') st
  | rt d S => exact fun v H' ρ' n' st r => h v H' ρ' (n.trans n') st r
  | exc x δ S => exact fun c dd σ' H' ρ' n' st r => h c dd σ' H' ρ' (n.trans n') st r
  | stuck => exact h
theorem bindGF {m1 : DEnv → Store → Res α} {k : α → Store → Flw} {P : β → Hp → Prop} (I : StE σ H δ S ρ) (h : RunF W G H ρ (bindS (m1 δ S) δ k))
    (hk : ∀ a b S1 H1 ρ1, Nx H ρ H1 ρ1 → StE σ H1 δ S1 ρ1 → R H1 ρ1 a b → RunF W G H1 ρ1 (k a S1) → P b H1) : tG W R m1 σ H P := by
  refine ⟨δ, S, ρ, I, ?_⟩
  cases e : m1 δ S with
  | ok a S1 =>
    rw [e] at h
    intro b H1 ρ1 n st r
    exact hk a b S1 H1 ρ1 n (I.next n st) r (h.mono n)
  | exc x S1 =>
    rw [e] at h
    exact fun c dd H' ρ' n st r => h c dd σ H' ρ' n (I.next n st) r
  | stuck =>
    rw [e] at h
    exact h
def asgM (i : Nat) (me : ME) : MS := fun δ S => bindS (me δ S) δ fun d S1 => .nx (δ.set i (some d)) S1
def retM (me : ME) : MS := fun δ S => bindS (me δ S) δ fun d S1 => .rt d S1
def retN : MS := fun _ S => .rt .non S
def exprM (me : ME) : MS := fun δ S => bindS (me δ S) δ fun _ S1 => .nx δ S1
def ifSM (nc : MB) (m1 m2 : MS) : MS := fun δ S => bindS (nc δ S) δ fun c S1 => if c = true then m1 δ S1 else m2 δ S1
def seqM (m1 m2 : MS) : MS := fun δ S => match m1 δ S with
  | .nx δ1 S1 => m2 δ1 S1
  | r => r
def nxM : MS := fun δ S => .nx δ S
def bkM : MS := fun δ S => .bk δ S
def ctM : MS := fun δ S => .ct δ S
variable {st : Stmt} {rest sa sb : List Stmt} {e c : Expr} {es : List Expr} {me mb : ME} {nc : MB} {m1 m2 : MS} {pos pos' : Pos}
theorem pss_dnil : PSs X [] (tS W nxM) := PSs.weak pss_nil fun G σ H h => by
  obtain ⟨δ, S, ρ, I, h⟩ := h
  exact h σ H ρ (Nx.refl _ _) I
theorem pss_dcons (h1 : PS X st (tS W m1)) (h2 : PSs X rest (tS W m2)) : PSs X (st :: rest) (tS W (seqM m1 m2)) := PSs.weak (pss_cons h1 h2) fun G σ H h => by
  obtain ⟨δ, S, ρ, I, h⟩ := h
  refine ⟨δ, S, ρ, I, ?_⟩
  unfold seqM at h
  cases e : m1 δ S with
  | nx δ1 S1 =>
    rw [e] at h
    exact fun σ' H' ρ' n st => ⟨δ1, S1, ρ', st, h.mono n⟩
  | bk δ S => rw [e] at h; exact h
  | ct δ S => rw [e] at h; exact h
  | rt d S => rw [e] at h; exact h
  | exc x δ S => rw [e] at h; exact h
  | stuck => rw [e] at h; exact h
theorem pss_done (h1 : PS X st (tS W m1)) : PSs X [st] (tS W m1) := pss_one h1
theorem ps_dset {i : Nat} {x : Str} (hN : X.N.Nodup) (hi : X.N[i]? = some x) (hx : Loc X.env.scope x) (he : PE X e (tE W me)) (hs : swapsWith e (some (.Name x pos')) pos.line X.env = pure false := by rfl)
    (hf : X.fn x = true ∨ X.env.scope.names.lookup x = some .local := by first | exact .inl rfl | exact .inr rfl | assumption) : PS X (.Assign [.Name x pos'] e pos) (tS W (asgM i me)) :=
  PS.weak (ps_set hN hi hx he hs hf) fun G σ H h => by
    obtain ⟨δ, S, ρ, I, h⟩ := h
    refine bindGF I h fun d v S1 H1 ρ1 n1 I1 r1 h1 => ?_
    exact h1 _ H1 ρ1 (Nx.refl _ _) ⟨I1.st, I1.env.set i r1⟩
theorem ps_dret (he : PE X e (tE W me)) : PS X (.Return (some e) pos) (tS W (retM me)) := PS.weak (ps_ret he) fun G σ H h => by
  obtain ⟨δ, S, ρ, I, h⟩ := h
  refine bindGF I h fun d v S1 H1 ρ1 n1 I1 r1 h1 => ?_
  exact h1 v H1 ρ1 (Nx.refl _ _) I1.st r1
theorem ps_dexpr (he : PE X e (tE W me)) (hs : swapsWith e none pos.line X.env = pure false := by rfl) : PS X (.Expr e pos) (tS W (exprM me)) := PS.weak (ps_expr he hs) fun G σ H h => by
  obtain ⟨δ, S, ρ, I, h⟩ := h
  refine bindGF I h fun d v S1 H1 ρ1 n1 I1 r1 h1 => ?_
  exact h1 σ H1 ρ1 (Nx.refl _ _) I1
theorem ps_dif (hc : PT X c (tT W nc)) (ha : PSs X sa (tS W m1)) (hb : PSs X sb (tS W m2)) : PS X (.If c sa sb pos) (tS W (ifSM nc m1 m2)) := PS.weak (ps_if hc ha hb) fun G σ H h => by
  obtain ⟨δ, S, ρ, I, h⟩ := h
  refine bindGF I h fun b b' S1 H1 ρ1 n1 I1 r1 h1 => ?_
  cases r1
  show if b = true then _ else _
  cases b with
  | true => rw [if_pos rfl] at h1 ⊢; exact ⟨δ, S1, ρ1, I1, h1⟩
  | false => rw [if_neg Bool.false_ne_true] at h1 ⊢; exact ⟨δ, S1, ρ1, I1, h1⟩
theorem ps_dcont : PS X (.Continue pos) (tS W ctM) := PS.weak ps_continue fun G σ H h => by
  obtain ⟨δ, S, ρ, I, h⟩ := h
  exact h σ H ρ (Nx.refl _ _) I
inductive Tg where
  | nm (i : Nat) | tp (ts : List Tg)
mutual
def bindT : Tg → D → DEnv → Option DEnv
  | .nm i, d, δ => some (δ.set i (some d))
  | .tp ts, .tup ds, δ => bindTs ts ds δ
  | .tp _, _, _ => none
def bindTs : List Tg → List D → DEnv → Option DEnv
  | [], [], δ => some δ
  | t :: ts, d :: ds, δ => match bindT t d δ with
    | some δ1 => bindTs ts ds δ1
    | none => none
  | _, _, _ => none
end
mutual
def Tg.sl : Tg → List Nat
  | .nm i => [i]
  | .tp ts => Tg.sls ts
def Tg.sls : List Tg → List Nat
  | [] => []
  | t :: ts => t.sl ++ Tg.sls ts
end
def Off (l : List Nat) (σ σ' : St) : Prop := σ'.length = σ.length ∧ ∀ j, j ∉ l → σ'[j]? = σ[j]?
def gD (tg : Tg) : TG := fun v σ H Q => ∃ d δ S ρ δ', StE σ H δ S ρ ∧ Rep H ρ d v ∧ bindT tg d δ = some δ' ∧ ∀ σ', StE σ' H δ' S ρ → Off tg.sl σ σ' → Q σ' H
theorem PG.weak {tg : Expr} {t t' : TG} (h : PG X tg t) (hw : ∀ v σ H Q, t' v σ H Q → t v σ H Q) : PG X tg t' := ⟨fun pins s σ H v u Q I r q => h.run pins s σ H v u Q I r (hw _ _ _ _ q)⟩
theorem PGs.weak {tg : List Expr} {t t' : TGs} (h : PGs X tg t) (hw : ∀ v σ H Q, t' v σ H Q → t v σ H Q) : PGs X tg t' := ⟨fun pins s σ H v u Q I r q => h.run pins s σ H v u Q I r (hw _ _ _ _ q)⟩
theorem pg_dname {i : Nat} {x : Str} (hN : X.N.Nodup) (hi : X.N[i]? = some x) (hx : Loc X.env.scope x) (hf : X.fn x = true ∨ X.env.scope.names.lookup x = some .local := by first | exact .inl rfl | exact .inr rfl | assumption) : PG X (.Name x pos) (gD (.nm i)) :=
  PG.weak (pg_name hN hi hx hf) fun v σ H Q h => by
    obtain ⟨d, δ, S, ρ, δ', I, r, e, q⟩ := h
    cases e
    refine q _ ⟨I.st, I.env.set i r⟩ ⟨by simp, fun j hj => ?_⟩
    rw [List.getElem?_set_ne (fun z => hj (by simp [Tg.sl, z]))]
def asgT (tg : Tg) (me : ME) : MS := fun δ S => bindS (me δ S) δ fun d S1 => match bindT tg d δ with
  | some δ1 => .nx δ1 S1
  | none => .stuck
end
mutual
def okD (n : Nat) : D → Bool
  | .loc m => decide (m < n)
  | .tup ds => okL n ds
  | .lst ds => okL n ds
  | .dct _ ds => okL n ds
  | .obj _ _ ds => okL n ds
  | .exn _ _ _ ds => okL n ds
  | _ => true
def okL (n : Nat) : List D → Bool
  | [] => true
  | d :: ds => okD n d && okL n ds
end
def okC (n : Nat) : Cell → Bool
  | .lst ds => okL n ds
  | .dct _ ds => okL n ds
  | .obj _ _ ds => okL n ds
  | .tab _ _ => true
  | .emp _ _ _ => true
  | .fn _ _ _ => true
section
variable {H H' H1 : Hp} {ρ ρ' t : List Addr} {S S' : Store}
mutual
theorem Rep.ok : ∀ (d : D) (v : V), Rep H ρ d v → okD ρ.length d = true
  | .non, _, _ => rfl
  | .bl _, _, _ => rfl
  | .int _, _, _ => rfl
  | .str _, _, _ => rfl
  | .raw _, _, _ => rfl
  | .loc m, v, h => by
    obtain ⟨a, e, _⟩ := h
    simp only [okD]
    exact decide_eq_true (List.getElem?_eq_some_iff.mp e).1
  | .tup ds, v, h => by
    obtain ⟨a, vs, _, _, _, h2⟩ := h
    simp only [okD]
    exact Reps.ok ds vs h2
  | .lst ds, v, h => by
    obtain ⟨a, vs, _, _, _, h2⟩ := h
    simp only [okD]
    exact Reps.ok ds vs h2
  | .dct ks ds, v, h => by
    obtain ⟨a, vs, _, _, _, _, h2⟩ := h
    simp only [okD]
    exact Reps.ok ds vs h2
  | .obj C ns ds, v, h => by
    obtain ⟨a, dx, vs, _, _, _, _, h2⟩ := h
    simp only [okD]
    exact Reps.ok ds vs h2
  | .exn a dd ns ds, v, h => by
    obtain ⟨vs, _, _, _, _, h2⟩ := h
    simp only [okD]
    exact Reps.ok ds vs h2
theorem Reps.ok : ∀ (ds : List D) (vs : List V), Reps H ρ ds vs → okL ρ.length ds = true
  | [], _, _ => rfl
  | d :: ds, vs, h => by
    obtain ⟨v, us, _, h1, h2⟩ := h
    simp only [okL, Bool.and_eq_true]
    exact ⟨Rep.ok d v h1, Reps.ok ds us h2⟩
end
mutual
theorem Rep.cut : ∀ (d : D) (v : V), Rep H (ρ ++ t) d v → okD ρ.length d = true → Rep H ρ d v
  | .non, _, h, _ => h
  | .bl _, _, h, _ => h
  | .int _, _, h, _ => h
  | .str _, _, h, _ => h
  | .raw _, _, h, _ => h
  | .loc m, v, h, k => by
    obtain ⟨a, e, h2⟩ := h
    simp only [okD] at k
    rw [List.getElem?_append_left (of_decide_eq_true k)] at e
    exact ⟨a, e, h2⟩
  | .tup ds, v, h, k => by
    obtain ⟨a, vs, h0, h1, na, h2⟩ := h
    simp only [okD] at k
    exact ⟨a, vs, h0, h1, fun z => na (List.mem_append_left _ z), Reps.cut ds vs h2 k⟩
  | .lst ds, v, h, k => by
    obtain ⟨a, vs, h0, h1, na, h2⟩ := h
    simp only [okD] at k
    exact ⟨a, vs, h0, h1, fun z => na (List.mem_append_left _ z), Reps.cut ds vs h2 k⟩
  | .dct ks ds, v, h, k => by
    obtain ⟨a, vs, h0, h1, na, l, h2⟩ := h
    simp only [okD] at k
    exact ⟨a, vs, h0, h1, fun z => na (List.mem_append_left _ z), l, Reps.cut ds vs h2 k⟩
  | .obj C ns ds, v, h, k => by
    obtain ⟨a, dx, vs, h0, h1, na, l, h2⟩ := h
    simp only [okD] at k
    exact ⟨a, dx, vs, h0, h1, fun z => na (List.mem_append_left _ z), l, Reps.cut ds vs h2 k⟩
  | .exn a dd ns ds, v, h, k => by
    obtain ⟨vs, h0, h1, na, l, h2⟩ := h
    simp only [okD] at k
    exact ⟨vs, h0, h1, fun z => na (List.mem_append_left _ z), l, Reps.cut ds vs h2 k⟩
theorem Reps.cut : ∀ (ds : List D) (vs : List V), Reps H (ρ ++ t) ds vs → okL ρ.length ds = true → Reps H ρ ds vs
  | [], _, h, _ => h
  | d :: ds, vs, h, k => by
    obtain ⟨v, us, h0, h1, h2⟩ := h
    simp only [okL, Bool.and_eq_true] at k
    exact ⟨v, us, h0, Rep.cut d v h1 k.1, Reps.cut ds us h2 k.2⟩
end
theorem RepC.ok {a : Addr} {c : Cell} (h : RepC H ρ a c) : okC ρ.length c = true := by
  cases c with
  | lst ds => obtain ⟨vs, _, h2⟩ := h; exact Reps.ok _ _ h2
  | dct ks ds => obtain ⟨vs, _, _, h2⟩ := h; exact Reps.ok _ _ h2
  | obj C ns ds => obtain ⟨dx, vs, _, _, h2⟩ := h; exact Reps.ok _ _ h2
  | tab P q => rfl
  | emp P q es => rfl
  | fn κ j l => rfl
theorem TabR.cut {a P : Addr} {q : Str} (h : TabR H (ρ ++ t) a P q) : TabR H ρ a P q := by
  obtain ⟨h0, ps, h1, h2, h3⟩ := h
  refine ⟨h0, ps, h1, h2, fun pos cv hc => ?_⟩
  obtain ⟨c, e1, e2, e3⟩ := h3 pos cv hc
  exact ⟨c, e1, e2, fun z => e3 (List.mem_append_left _ z)⟩
theorem RepC.cut {a : Addr} {c : Cell} (h : RepC H (ρ ++ t) a c) (k : okC ρ.length c = true) : RepC H ρ a c := by
  cases c with
  | lst ds => obtain ⟨vs, h1, h2⟩ := h; exact ⟨vs, h1, Reps.cut _ _ h2 k⟩
  | dct ks ds => obtain ⟨vs, h1, l, h2⟩ := h; exact ⟨vs, h1, l, Reps.cut _ _ h2 k⟩
  | obj C ns ds => obtain ⟨dx, vs, h1, l, h2⟩ := h; exact ⟨dx, vs, h1, l, Reps.cut _ _ h2 k⟩
  | tab P q => exact TabR.cut h
  | emp P q es => exact ⟨TabR.cut h.1, fun x hx => ⟨(h.2 x hx).1, fun z => (h.2 x hx).2 (List.mem_append_left _ z)⟩⟩
  | fn κ j l => obtain ⟨pm, c, ctv, h1, h2, h3⟩ := h; exact ⟨pm, c, ctv, h1, h2, fun z => h3 (List.mem_append_left _ z)⟩
theorem StS.cellOk (st : StS H S ρ) {i : Nat} {c : Cell} (e : S[i]? = some c) : okC S.length c = true := by
  have hi : i < ρ.length := by rw [st.len]; exact (List.getElem?_eq_some_iff.mp e).1
  have := (st.cells i _ c (List.getElem?_eq_getElem hi) e).ok
  rw [st.len] at this
  exact this
def Settles (S S' : Store) : Prop := ∀ i c, i < S.length → S'[i]? = some c → S[i]? = some c ∨ okC S.length c = true
theorem Settles.same : Settles S S := fun i c _ e => .inl e
theorem Settles.app {g : Store} : Settles S (S ++ g) := fun i c hi e => .inl (by rwa [List.getElem?_append_left hi] at e)
theorem StS.settle (st0 : StS H S ρ) (st : StS H' S' (ρ ++ t)) (hs : Settles S S') : StS H' (S'.take S.length) ρ := by
  have hl : S.length ≤ S'.length := by rw [← st.len, ← st0.len]; simp
  refine ⟨by rw [List.length_take, Nat.min_eq_left hl, st0.len], (List.nodup_append.mp st.nd).1, fun n a c e1 e2 => ?_⟩
  have hn : n < ρ.length := (List.getElem?_eq_some_iff.mp e1).1
  have hn' : n < S.length := by rw [← st0.len]; exact hn
  rw [List.getElem?_take_of_lt hn'] at e2
  have e1' : (ρ ++ t)[n]? = some a := by rw [List.getElem?_append_left hn]; exact e1
  refine (st.cells n a c e1' e2).cut ?_
  rw [st0.len]
  rcases hs n c hn' e2 with h | h
  · exact st0.cellOk h
  · exact h
theorem Nx.settle (n : Nx H ρ H' ρ') : Nx H ρ H' ρ := ⟨⟨[], by simp⟩, fun a h k => absurd h k, n.thr, n.stay, n.tbl⟩
end
inductive Src where
  | vals (d : D) | rng (lo c : Int) (n : Nat) | zip (d e : D) (n m : Nat) | enm (d : D) (n : Nat) | keys (ks : List Key)
def kD : Key → D
  | .inl i => .int i
  | .inr s => .str s.cps.toList
theorem kD_rep {H : Hp} {ρ : List Addr} (k : Key) : Rep H ρ (kD k) (kV k) := by
  cases k with
  | inl i => rfl
  | inr s => show V.str s = .str ⟨(s.cps.toList).toArray⟩; rw [Array.toArray_toList]
def signs (l : List Nat) : List D := l.map fun c => .str [c]
def iterD (S : Store) (d : D) : Option (List D) := match d with
  | .str l => some (signs l)
  | d => asQ S d
def zipT : List D → List D → List D
  | x :: xs, y :: ys => .tup [x, y] :: zipT xs ys
  | _, _ => []
def enmT (k : Nat) : List D → List D
  | x :: xs => .tup [.int (k : Int), x] :: enmT (k + 1) xs
  | [] => []
def items (S : Store) : Src → Option (List D)
  | .vals d => iterD S d
  | .rng lo c n => some ((List.range n).map fun (i : Nat) => .int (lo + (i : Int) * c))
  | .zip d e n m => match iterD S d, iterD S e with
    | some xs, some ys => if xs.length = n ∧ ys.length = m then some (zipT xs ys) else none
    | _, _ => none
  | .keys ks => some (ks.map kD)
  | .enm d n => match iterD S d with
    | some xs => if xs.length = n then some (enmT 0 xs) else none
    | none => none
def ItR (H : Hp) (ρ : List Addr) (src : Src) (J : It) : Prop := ∀ (i : Nat) (H' : Hp) (ρ' : List Addr) (S : Store) (ds : List D), Nx H ρ H' ρ' → StS H' S ρ' → items S src = some ds →
  (∀ d, ds[i]? = some d → J.go i H' ∧ ∀ x H2, J.yld i H' x H2 → Nx H' ρ' H2 ρ' ∧ StS H2 S ρ' ∧ Rep H2 ρ' d x) ∧ (ds[i]? = none → J.stop i H')
section
variable {X : Cx} {W : WX} {e tg a b c : Expr} {ma mb mc : ME} {pos p : Pos}
def srcV (ma : ME) : DEnv → Store → Res Src := fun δ S => (ma δ S).bind fun d S1 => match iterD S1 d with
  | some _ => .ok (.vals d) S1
  | none => .stuck
theorem PI.weak {iter : Expr} {t t' : TI} (h : PI X tg iter t) (hw : ∀ σ H R, t' σ H R → t σ H R) : PI X tg iter t' := ⟨fun pins s σ H R I q => h.run pins s σ H R I (hw _ _ _ q)⟩
theorem PI.or {iter : Expr} {t t' : TI} (h : PI X tg iter t) (h' : PI X tg iter t') : PI X tg iter (fun σ H R => t σ H R ∨ t' σ H R) := ⟨fun pins s σ H R I q => q.elim (h.run pins s σ H R I) (h'.run pins s σ H R I)⟩
theorem itr_str {H : Hp} {ρ : List Addr} {l : List Nat} : ItR H ρ (.vals (.str l)) (Its (sOf l)) := fun i H' ρ' S ds n st e => by
  cases e
  constructor
  · intro d hd
    simp only [signs, List.getElem?_map] at hd
    cases hc : l[i]? with
    | none => rw [hc] at hd; cases hd
    | some c =>
      rw [hc] at hd
      cases hd
      have hi : i < l.length := (List.getElem?_eq_some_iff.mp hc).1
      refine ⟨by show i < (l.toArray).size; simpa using hi, ?_⟩
      rintro x H2 ⟨rfl, c', e1, rfl⟩
      have : some c' = some c := by rw [← e1, ← hc]; show (l.toArray)[i]? = _; simp
      cases this
      exact ⟨Nx.refl _ _, st, rfl⟩
  · intro hd
    simp only [signs, List.getElem?_map, Option.map_eq_none_iff] at hd
    have := List.getElem?_eq_none_iff.mp hd
    show (l.toArray).size ≤ i
    simpa using this
theorem itr_lst {K : PySem.W.Frag} {H : Hp} {ρ : List Addr} {d : D} {a : Addr} (r : Rep H ρ d (.ref a)) (hl : ∀ S ds, asQ S d = some ds → asL S d = some ds) (hi : ∀ S ds, iterD S d = some ds → asL S d = some ds) : ItR H ρ (.vals d) (Itl K a) := fun i H' ρ' S ds n st e => by
  have ed := hi S ds e
  obtain ⟨a', vs, ea, h1, r1⟩ := asL_rep st (Rep.mono n _ _ r) ed
  cases ea
  have hs : SqL K H' a vs := .inl (.inl h1)
  constructor
  · intro d' hd
    obtain ⟨v, hv, rv⟩ := Reps.getD r1 hd
    refine ⟨⟨vs, v, hs, hv⟩, ?_⟩
    rintro x H2 ⟨rfl, f⟩
    have := (f vs hs).symm.trans hv
    cases this
    exact ⟨Nx.refl _ _, st, rv⟩
  · intro hd
    refine ⟨vs, hs, ?_⟩
    rw [← r1.len]
    exact List.getElem?_eq_none_iff.mp hd
theorem itr_tup {K : PySem.W.Frag} {H : Hp} {ρ : List Addr} {es : List D} {a : Addr} (r : Rep H ρ (.tup es) (.ref a)) : ItR H ρ (.vals (.tup es)) (Itt K a) := fun i H' ρ' S ds n st e => by
  have ed : asT (.tup es) = some ds := e
  obtain ⟨a', vs, ea, h1, r1⟩ := asT_rep (Rep.mono n _ _ r) ed
  cases ea
  have hs : SqT K H' a vs := .inl h1.rd
  constructor
  · intro d' hd
    obtain ⟨v, hv, rv⟩ := Reps.getD r1 hd
    refine ⟨⟨vs, v, hs, hv⟩, ?_⟩
    rintro x H2 ⟨rfl, f⟩
    have := (f vs hs).symm.trans hv
    cases this
    exact ⟨Nx.refl _ _, st, rv⟩
  · intro hd
    refine ⟨vs, hs, ?_⟩
    rw [← r1.len]
    exact List.getElem?_eq_none_iff.mp hd
theorem pi_dvals (he : PE X e (tE W ma)) : PI X tg e (tG W ItR (srcV ma)) := PI.weak (PI.or (pi_str he) (PI.or (pi_list he) (pi_tup he))) fun σ H R h => by
  obtain ⟨δ, S, ρ, I, h⟩ := h
  unfold srcV at h
  have key : ∀ P : It → Hp → Prop, (∀ d S1, (ma δ S) = .ok d S1 → ∀ v H1 ρ1, Nx H ρ H1 ρ1 → StS H1 S1 ρ1 → Rep H1 ρ1 d v → True) → True := fun _ _ => trivial
  cases em : ma δ S with
  | stuck => rw [em] at h; exact False.elim h
  | exc x S1 =>
    rw [em] at h
    exact .inl ⟨δ, S, ρ, I, by rw [em]; exact h⟩
  | ok d S1 =>
    rw [em] at h
    simp only [bind_ok] at h
    split at h
    · rename_i ds0 e0
      cases d with
      | str l =>
        refine .inl ⟨δ, S, ρ, I, ?_⟩
        rw [em]
        intro v H1 ρ1 n st r
        cases r
        exact ⟨sOf l, rfl, h _ H1 ρ1 n st itr_str⟩
      | tup es =>
        refine .inr (.inr ⟨δ, S, ρ, I, ?_⟩)
        rw [em]
        intro v H1 ρ1 n st r
        obtain ⟨a, vs, rfl, h1, n1, r1⟩ := id r
        exact ⟨a, rfl, ⟨vs, .inl h1.rd⟩, h _ H1 ρ1 n st (itr_tup r)⟩
      | lst es =>
        refine .inr (.inl ⟨δ, S, ρ, I, ?_⟩)
        rw [em]
        intro v H1 ρ1 n st r
        obtain ⟨a, vs, rfl, h1, n1, r1⟩ := id r
        exact ⟨a, rfl, ⟨vs, .inl (.inl h1)⟩, h _ H1 ρ1 n st (itr_lst r (fun _ _ z => z) (fun _ _ z => z))⟩
      | loc m =>
        refine .inr (.inl ⟨δ, S, ρ, I, ?_⟩)
        rw [em]
        intro v H1 ρ1 n st r
        have hq : ∀ S ds, asQ S (.loc m) = some ds → asL S (.loc m) = some ds := fun S ds z => by
          unfold asQ at z
          split at z
          · rename_i e; cases z; exact e
          · cases z
        have e0' := hq S1 ds0 e0
        obtain ⟨a, vs, rfl, h1, r1⟩ := asL_rep st r e0'
        exact ⟨a, rfl, ⟨vs, .inl (.inl h1)⟩, h _ H1 ρ1 n st (itr_lst r hq hq)⟩
      | _ => cases e0
    · exact False.elim h
theorem itr_rng {H : Hp} {ρ : List Addr} {lo c : Int} {n : Nat} : ItR H ρ (.rng lo c n) (Itc lo c n) := fun i H' ρ' S ds nx st e => by
  cases e
  constructor
  · intro d hd
    rw [List.getElem?_map] at hd
    by_cases hi : i < n
    · rw [List.getElem?_range hi] at hd
      cases hd
      refine ⟨hi, ?_⟩
      rintro x H2 ⟨rfl, rfl⟩
      exact ⟨Nx.refl _ _, st, rfl⟩
    · rw [List.getElem?_eq_none (by simpa using hi)] at hd
      cases hd
  · intro hd
    have := List.getElem?_eq_none_iff.mp hd
    show n ≤ i
    simpa using this
def src1 (ma : ME) : DEnv → Store → Res Src := fun δ S => (ma δ S).bind fun d S1 => match d with
  | .int j => if j.natAbs ≤ 1000000000 then .ok (.rng 0 1 j.toNat) S1 else .stuck
  | _ => .stuck
theorem itr_rng1 {H : Hp} {ρ : List Addr} {lo : Int} {n : Nat} : ItR H ρ (.rng lo 1 n) (Itr lo n) := fun i H' ρ' S ds nx st e => by
  obtain ⟨h1, h2⟩ := itr_rng (H := H) (ρ := ρ) (lo := lo) (c := 1) (n := n) i H' ρ' S ds nx st e
  refine ⟨fun d hd => ?_, h2⟩
  obtain ⟨g, y⟩ := h1 d hd
  refine ⟨g, ?_⟩
  rintro x H2 ⟨rfl, rfl⟩
  exact y _ _ ⟨rfl, by rw [Int.mul_one]⟩
theorem pi_drange1 (hm : X.mg "range" = none) (ha : PE X a (tE W ma)) (hg : Gl X "range" := by rfl) (hs : starEach [a] X.env = [(false, eval a X.env)] := by rfl) (hs' : starEach (a :: []) X.env = (false, eval a X.env) :: starEach [] X.env := by rfl) : PI X tg (.Call (.Name "range" p) [a] [] pos) (tG W ItR (src1 ma)) :=
  PI.weak (pi_range1 hg hm (pd_cons ha pd_nil hs') hs) fun σ H R h => by
    obtain ⟨δ, S, ρ, I, h⟩ := h
    refine ⟨δ, S, ρ, I, ?_⟩
    unfold src1 at h
    unfold consM nilM
    cases em : ma δ S with
    | stuck => rw [em] at h; exact False.elim h
    | exc x S1 => rw [em] at h; exact h
    | ok d S1 =>
      rw [em] at h
      simp only [bind_ok] at h ⊢
      intro vs H1 ρ1 n st r
      obtain ⟨v, us, rfl, rv, ru⟩ := r
      cases ru
      split at h
      · rename_i j
        split at h
        · rename_i hj
          cases rv
          exact ⟨j, rfl, by omega, by omega, h _ H1 ρ1 n st itr_rng1⟩
        · exact False.elim h
      · exact False.elim h
open Classical in
noncomputable def forL (src : Src) (tg : Tg) (b : MS) (ds : List D) : List D → MS
  | [], δ, S => if items S src = some ds then .nx δ S else .stuck
  | d :: r, δ, S => if items S src = some ds then (match bindT tg d δ with
      | some δ1 => match b δ1 S with
        | .nx δ2 S2 => forL src tg b ds r δ2 S2
        | .ct δ2 S2 => forL src tg b ds r δ2 S2
        | .bk δ2 S2 => .nx δ2 S2
        | o => o
      | none => .stuck) else .stuck
noncomputable def forM (mi : DEnv → Store → Res Src) (tg : Tg) (b : MS) : MS := fun δ S => bindS (mi δ S) δ fun src S1 => match items S1 src with
  | some ds => forL src tg b ds ds δ S1
  | none => .stuck
theorem ps_dfor {iter tge : Expr} {body : List Stmt} {mi : DEnv → Store → Res Src} {t : Tg} {m : MS} (hp : PassesOwn (model X.prog X.w) X.A X.env X.xe) (hc : X.calm = true) (hi : PI X tge iter (tG W ItR mi)) (hg : PG X tge (gD t)) (hb : PSs X body (tS W m))
    (hs : ∀ x, foldedSetIterable iter X.env x = pure x := by intro _; rfl) : PS X (.For tge iter body [] pos) (tS W (forM mi t m)) := PS.weak (ps_for hp hc hi hg hb hs) fun G σ H h => by
  obtain ⟨δ, S, ρ, I, h⟩ := h
  refine bindGF I h fun src J S1 H1 ρ1 n1 I1 r1 h1 => ?_
  split at h1
  · rename_i ds eds
    refine ⟨fun i k σ' H' => ∃ δ' S' ρ', StE σ' H' δ' S' ρ' ∧ Nx H1 ρ1 H' ρ' ∧ k = ds.length - i ∧ RunF W G H' ρ' (forL src t m ds (ds.drop i) δ' S'), ⟨_, δ, S1, ρ1, I1, Nx.refl _ _, rfl, by simpa using h1⟩, ?_⟩
    rintro i k σ' H' ⟨δ', S', ρ', I', n', rfl, h'⟩
    cases ed : ds[i]? with
    | none =>
      have hd : ds.drop i = [] := List.drop_eq_nil_of_le (List.getElem?_eq_none_iff.mp ed)
      rw [hd] at h'
      unfold forL at h'
      split at h'
      · rename_i ei
        obtain ⟨_, f⟩ := r1 i H' ρ' S' ds n' I'.st ei
        exact .inl ⟨f ed, h' σ' H' ρ' (Nx.refl _ _) I'⟩
      · exact False.elim h'
    | some d =>
      have hil := (List.getElem?_eq_some_iff.mp ed).1
      have hd : ds.drop i = d :: ds.drop (i + 1) := by
        rw [List.drop_eq_getElem_cons hil, (List.getElem?_eq_some_iff.mp ed).2]
      rw [hd] at h'
      unfold forL at h'
      split at h'
      · rename_i ei
        obtain ⟨f, _⟩ := r1 i H' ρ' S' ds n' I'.st ei
        obtain ⟨go, y⟩ := f d ed
        refine .inr ⟨go, fun σ2 H2 => ∃ δ2 S2 ρ2, StE σ2 H2 δ2 S2 ρ2 ∧ Nx H1 ρ1 H2 ρ2 ∧ RunF W G H2 ρ2 (forL src t m ds (ds.drop (i + 1)) δ2 S2), fun σ2 H2 ⟨δ2, S2, ρ2, q1, q2, q3⟩ => ⟨_, Nat.sub_lt_sub_left hil (Nat.lt_succ_self i), δ2, S2, ρ2, q1, q2, rfl, q3⟩, ?_⟩
        intro x H2 hy
        obtain ⟨n2, st2, rx⟩ := y x H2 hy
        split at h'
        · rename_i δ1 eb
          refine ⟨d, δ', S', ρ', δ1, ⟨st2, I'.env.mono n2⟩, rx, eb, fun σ3 I3 _ => ⟨δ1, S', ρ', I3, ?_⟩⟩
          have h2 := RunF.mono n2 h'
          cases em : m δ1 S' with
          | nx δ2 S2 => rw [em] at h2; exact fun σ4 H4 ρ4 n4 st4 => ⟨δ2, S2, ρ4, st4, (n'.trans n2).trans n4, h2.mono n4⟩
          | ct δ2 S2 => rw [em] at h2; exact fun σ4 H4 ρ4 n4 st4 => ⟨δ2, S2, ρ4, st4, (n'.trans n2).trans n4, h2.mono n4⟩
          | bk δ2 S2 => rw [em] at h2; exact h2
          | rt d S2 => rw [em] at h2; exact h2
          | exc x δ2 S2 => rw [em] at h2; exact h2
          | stuck => rw [em] at h2; exact h2
        · exact False.elim h'
      · exact False.elim h'
  · exact False.elim h1
end
abbrev W0 : WX := fun _ _ _ _ => False
def wipeD (δ : DEnv) : List Nat → DEnv
  | [] => δ
  | v :: vs => (wipeD δ vs).set v none
section
variable {H H' : Hp} {ρ : List Addr} {δ : DEnv} {σ : St} {S : Store}
theorem EnvS.wipe (h : EnvS H ρ δ σ) : ∀ vs : List Nat, EnvS H ρ (wipeD δ vs) (wipe σ vs)
  | [] => h
  | v :: vs => EnvS.unset v (EnvS.wipe h vs)
theorem wipe_get : ∀ {vs : List Nat} {σ : St} {j : Nat}, (wipe σ vs)[j]? = if j ∈ vs then (if j < σ.length then some none else none) else σ[j]?
  | [], σ, j => by simp [wipe]
  | v :: vs, σ, j => by
    unfold wipe
    by_cases hv : v = j
    · subst hv
      by_cases hl : v < σ.length
      · rw [List.getElem?_set_self (by rw [wipe_length]; exact hl)]
        simp [hl]
      · rw [List.getElem?_eq_none (by rw [List.length_set, wipe_length]; omega)]
        simp [hl]
    · rw [List.getElem?_set_ne hv, wipe_get]
      by_cases hj : j ∈ vs
      · simp [hj]
      · have : ¬ j = v := fun z => hv z.symm
        simp [hj, this]
theorem wipe_off {vs l : List Nat} {σ σ2 : St} (o : Off l (wipe σ vs) σ2) (hl : ∀ j ∈ l, j ∈ vs) : wipe σ2 vs = wipe σ vs := by
  apply List.ext_getElem?
  intro j
  rw [wipe_get, wipe_get]
  have hlen : σ2.length = σ.length := by rw [o.1, wipe_length]
  by_cases hj : j ∈ vs
  · rw [if_pos hj, if_pos hj, hlen]
  · rw [if_neg hj, if_neg hj, o.2 j (fun z => hj (hl j z)), wipe_get, if_neg hj]
end
noncomputable def appC (n : Nat) (S : Store) (x : D) : Option Store := match S[n]? with
  | some (.lst acc) => if acc.length < 1000000 then some (S.set n (.lst (acc ++ [x]))) else none
  | _ => none
open Classical in
noncomputable def compL (src : Src) (tg : Tg) (tst : MB) (el : ME) (n : Nat) (ds : List D) (δ : DEnv) : List D → Store → Option Store
  | [], S => if items S src = some ds then some S else none
  | d :: r, S => if items S src = some ds then (match bindT tg d δ with
      | some δ1 => match tst δ1 S with
        | .ok true S1 => match el δ1 S1 with
          | .ok x S2 => match appC n S2 x with
            | some S3 => compL src tg tst el n ds δ r S3
            | none => none
          | _ => none
        | .ok false S1 => compL src tg tst el n ds δ r S1
        | _ => none
      | none => none) else none
open Classical in
noncomputable def endC (S1 Sf : Store) : Res D := match Sf[S1.length]? with
  | some (.lst acc) => if Sf.length = S1.length + 1 ∧ okL S1.length acc = true ∧ Settles S1 Sf then .ok (.lst acc) (Sf.take S1.length) else .ok (.loc S1.length) Sf
  | _ => .stuck
noncomputable def compM (mi : DEnv → Store → Res Src) (tg : Tg) (tst : MB) (el : ME) (vs : List Nat) : ME := fun δ S => (mi δ S).bind fun src S1 => match items S1 src with
  | some ds => match compL src tg tst el S1.length ds (wipeD δ vs) ds (S1 ++ [.lst []]) with
    | some Sf => endC S1 Sf
    | none => .stuck
  | none => .stuck
def yesB : MB := fun _ S => .ok true S
section
variable {X : Cx} {W : WX}
theorem PTs.weak {ifs : List Expr} {t t' : TT} (h : PTs X ifs t) (hw : ∀ σ H Q, t' σ H Q → t σ H Q) : PTs X ifs t' := ⟨fun pins s σ H Q I q => h.run pins s σ H Q I (hw _ _ _ q)⟩
theorem pts_dnil : PTs X [] (tT W yesB) := PTs.weak pts_nil fun σ H Q h => by
  obtain ⟨δ, S, ρ, I, h⟩ := h
  exact RunG.ok h I.st rfl
theorem pts_done {c : Expr} {m : MB} (h : PT X c (tT W m)) : PTs X [c] (tT W m) := pts_one h
theorem tLc_of {mi : DEnv → Store → Res Src} {tg : Tg} {tst : MB} {el : ME} {vs : List Nat} (hv : ∀ j ∈ tg.sl, j ∈ vs) {σ : St} {H1 : Hp} {δ : DEnv} {S1 Sf : Store} {ρ1 : List Addr} {src : Src} {J : It} {ds : List D} {Q : VK}
    (I1 : StE σ H1 δ S1 ρ1) (r1 : ItR H1 ρ1 src J) (hc : compL src tg tst el S1.length ds (wipeD δ vs) ds (S1 ++ [.lst []]) = some Sf) {p : Addr} (hp : H1 p = none)
    (hq : ∀ H' ρ', Nx H1 (ρ1 ++ [p]) H' ρ' → StS H' Sf ρ' → Q (.ref p) H') :
    ∃ WW : Nat → Nat → Hp → Prop, (∃ m, WW 0 m (upd H1 p (.lst []))) ∧ ∀ i m H, WW i m H →
  (J.stop i H ∧ Q (.ref p) H) ∨ (J.go i H ∧ ∃ Nt : Hp → Prop, (∀ H', Nt H' → ∃ m', m' < m ∧ WW (i + 1) m' H') ∧ ∀ x H', J.yld i H x H' → gD tg x (wipe σ vs) H' fun σ2 H2 => wipe σ2 vs = wipe σ vs ∧ tT W0 tst σ2 H2 fun b H3 =>
    if b = true then tE W0 el σ2 H3 fun y H4 => ∃ acc, H4 p = some (.lst acc) ∧ acc.length < sizeLine ∧ Nt (upd H4 p (.lst (acc ++ [y]))) else Nt H3) := by
  have n0 : Nx H1 ρ1 (upd H1 p (.lst [])) (ρ1 ++ [p]) := Nx.push hp
  have st0 : StS (upd H1 p (.lst [])) (S1 ++ [.lst []]) (ρ1 ++ [p]) := I1.st.push hp ⟨[], upd_same, Reps.nil⟩
  have env0 := (EnvS.wipe I1.env vs).mono n0
  refine ⟨fun i m H => ∃ S ρ, StS H S ρ ∧ Nx (upd H1 p (.lst [])) (ρ1 ++ [p]) H ρ ∧ Nx H1 (ρ1 ++ [p]) H ρ ∧ m = ds.length - i ∧ compL src tg tst el S1.length ds (wipeD δ vs) (ds.drop i) S = some Sf, ⟨_, _, _, st0, Nx.refl _ _, ?_, rfl, by simpa using hc⟩, ?_⟩
  · refine ⟨⟨[], by simp⟩, fun a h k => absurd h k, n0.thr, fun a o h k t => ?_, fun a ps h k => ?_⟩
    · exact n0.stay a o h (fun z => k (List.mem_append_left _ z)) t
    · exact n0.tbl a ps h (fun z => k (List.mem_append_left _ z))
  rintro i m H ⟨S, ρ, st, nx, nx', rfl, hl⟩
  have hpρ : ρ[S1.length]? = some p := by
    have : (ρ1 ++ [p])[S1.length]? = some p := by rw [← I1.st.len]; simp
    exact nx.at this
  cases ed : ds[i]? with
  | none =>
    have hd : ds.drop i = [] := List.drop_eq_nil_of_le (List.getElem?_eq_none_iff.mp ed)
    rw [hd] at hl
    unfold compL at hl
    split at hl
    · rename_i ei
      have eS : S = Sf := Option.some.inj hl
      subst eS
      obtain ⟨_, f⟩ := r1 i H ρ S ds (n0.trans nx) st ei
      exact .inl ⟨f ed, hq H ρ nx' st⟩
    · cases hl
  | some d =>
    have hil := (List.getElem?_eq_some_iff.mp ed).1
    have hd : ds.drop i = d :: ds.drop (i + 1) := by
      rw [List.drop_eq_getElem_cons hil, (List.getElem?_eq_some_iff.mp ed).2]
    rw [hd] at hl
    unfold compL at hl
    split at hl
    · rename_i ei
      obtain ⟨f, _⟩ := r1 i H ρ S ds (n0.trans nx) st ei
      obtain ⟨go, y⟩ := f d ed
      refine .inr ⟨go, fun H2 => ∃ S2 ρ2, StS H2 S2 ρ2 ∧ Nx (upd H1 p (.lst [])) (ρ1 ++ [p]) H2 ρ2 ∧ Nx H1 (ρ1 ++ [p]) H2 ρ2 ∧ compL src tg tst el S1.length ds (wipeD δ vs) (ds.drop (i + 1)) S2 = some Sf, fun H2 ⟨S2, ρ2, q1, q2, q2', q3⟩ => ⟨_, Nat.sub_lt_sub_left hil (Nat.lt_succ_self i), S2, ρ2, q1, q2, q2', rfl, q3⟩, ?_⟩
      intro x H2 hy
      obtain ⟨n2, st2, rx⟩ := y x H2 hy
      split at hl
      · rename_i δ1 eb
        refine ⟨d, wipeD δ vs, S, ρ, δ1, ⟨st2, env0.mono (nx.trans n2)⟩, rx, eb, fun σ3 I3 o3 => ⟨wipe_off o3 hv, δ1, S, ρ, I3, ?_⟩⟩
        split at hl
        · rename_i S4 et
          rw [et]
          intro b H4 ρ4 n4 st4 rb
          cases rb
          rw [if_pos rfl]
          refine ⟨δ1, S4, ρ4, I3.next n4 st4, ?_⟩
          split at hl
          · rename_i xd S5 ee
            rw [ee]
            intro v H5 ρ5 n5 st5 rv
            split at hl
            · rename_i S6 ea
              unfold appC at ea
              split at ea
              · rename_i acc e5
                split at ea
                · rename_i hacc
                  cases ea
                  have n25 := (n2.trans n4).trans n5
                  have hp5 : ρ5[S1.length]? = some p := n25.at hpρ
                  obtain ⟨ws, h5, rs⟩ := st5.cells S1.length p _ hp5 e5
                  have hm : p ∈ ρ5 := List.mem_of_getElem? hp5
                  have n6 : Nx H5 ρ5 (upd H5 p (.lst (ws ++ [v]))) ρ5 := Nx.set hm (by rw [h5]; simp)
                  refine ⟨ws, h5, by rw [← rs.len]; exact Nat.lt_of_lt_of_le hacc (by decide), _, ρ5, st5.set (c := .lst (acc ++ [xd])) hp5 ⟨ws ++ [v], upd_same, (Reps.mono n6 _ _ rs).append (Reps.one (Rep.mono n6 _ _ rv))⟩, (nx.trans n25).trans n6, (nx'.trans n25).trans n6, hl⟩
                · cases ea
              · cases ea
            · cases hl
          · cases hl
        · rename_i S4 et
          rw [et]
          intro b H4 ρ4 n4 st4 rb
          cases rb
          rw [if_neg Bool.false_ne_true]
          exact ⟨S4, ρ4, st4, (nx.trans n2).trans n4, (nx'.trans n2).trans n4, hl⟩
        · cases hl
      · cases hl
    · cases hl
variable {elt tge iter : Expr} {ifs : List Expr} {scope : Scope} {own : List (Str × Nat)} {pos spos : Pos} {mi : DEnv → Store → Res Src} {tg : Tg} {tst : MB} {el : ME}
theorem endC_run {σ : St} {H1 H' : Hp} {ρ1 ρ' : List Addr} {δ : DEnv} {S1 Sf : Store} {p : Addr} {Q : VK} (I1 : StE σ H1 δ S1 ρ1) (hp : H1 p = none) (h : RunG W Rep σ H1 ρ1 (endC S1 Sf) Q) (n : Nx H1 (ρ1 ++ [p]) H' ρ') (st : StS H' Sf ρ') : Q (.ref p) H' := by
  have hpρ : ρ'[S1.length]? = some p := n.at (by rw [← I1.st.len]; simp)
  have n1 : Nx H1 ρ1 H' ρ' := by
    obtain ⟨t, ht⟩ := n.pre
    refine ⟨⟨[p] ++ t, by rw [ht]; simp⟩, fun a ha na => ?_, n.thr, fun a o ho na t' => ?_, fun a ps ho na => ?_⟩
    · by_cases hap : a = p
      · rw [hap]; exact hp
      · exact n.new a ha (by simp [na, hap])
    · exact n.stay a o ho (by simp [na, ne_of_none ho hp]) t'
    · exact n.tbl a ps ho (by simp [na, ne_of_none ho hp])
  unfold endC at h
  split at h
  · rename_i acc ea
    split at h
    · rename_i hz
      obtain ⟨t, ht⟩ := n1.pre
      subst ht
      obtain ⟨ws, h5, rs⟩ := st.cells S1.length p _ hpρ ea
      have hpn : p ∉ ρ1 := fun z => I1.st.trk z hp
      have hok : okL ρ1.length acc = true := by rw [I1.st.len]; exact hz.2.1
      exact RunG.okN h n1.settle (I1.st.settle st hz.2.2) ⟨p, ws, rfl, h5, hpn, Reps.cut acc ws rs hok⟩
    · exact RunG.okN h n1 st ⟨p, hpρ, rfl⟩
  · exact False.elim h
theorem tE_comp {vs : List Nat} (hv : ∀ j ∈ tg.sl, j ∈ vs) (σ : St) (H : Hp) (Q : VK) (h : tE W (compM mi tg tst el vs) σ H Q) : tLc (tG W ItR mi) (gD tg) (tT W0 tst) (tE W0 el) vs σ H Q := by
  obtain ⟨δ, S, ρ, I, h⟩ := h
  refine bindG I h fun src J S1 H1 ρ1 n1 I1 r1 h1 => fun p hp => ?_
  split at h1
  · rename_i ds eds
    split at h1
    · rename_i Sf ec
      exact tLc_of (mi := mi) hv I1 r1 ec hp fun H' ρ' n st => endC_run (W := W) I1 hp h1 n st
    · exact False.elim h1
  · exact False.elim h1
theorem pd_lc (own : List (Str × Nat)) (hc : X.calm = true) (hN : X.N.Nodup) (hi : PI X tge iter (tG W ItR mi)) (ok : BlkOk X.N X.env.scope scope own) (hv : ∀ j ∈ tg.sl, j ∈ own.map (·.2))
    (hg : ∀ (s : Shared) (H : Hp) (C : Addr) (cl : List (Str × Addr)) (fp : List Addr), PG (X.blk s H scope (compEnvC scope cl C X.env) fp) tge (gD tg)) (ht : ∀ (s : Shared) (H : Hp) (C : Addr) (cl : List (Str × Addr)) (fp : List Addr), PTs (X.blk s H scope (compEnvC scope cl C X.env) fp) ifs (tT W0 tst))
    (he : ∀ (s : Shared) (H : Hp) (C : Addr) (cl : List (Str × Addr)) (fp : List Addr), PE (X.blk s H scope (compEnvC scope cl C X.env) fp) elt (tE W0 el)) (hs : ∀ x, foldedSetIterable iter X.env x = pure x := by intro _; rfl) :
    PE X (.ListComp elt [⟨tge, iter, ifs, 0⟩] scope pos) (tE W (compM mi tg tst el (own.map (·.2)))) := PE.weak (pe_lc hc hN hi ok hg ht he hs) (tE_comp hv)
theorem ps_dsetLc (own : List (Str × Nat)) {i : Nat} {y : Str} {py : Pos} (hc : X.calm = true) (hN : X.N.Nodup) (hy : X.N[i]? = some y) (hyl : X.env.scope.names.lookup y = some .local)
    (hsw : swapsWith (.ListComp elt [⟨tge, iter, ifs, 0⟩] scope pos) (some (.Name y py)) spos.line X.env = pure true) (hi : PI X tge iter (tG W ItR mi)) (ok : BlkOk X.N X.env.scope scope own) (hv : ∀ j ∈ tg.sl, j ∈ own.map (·.2))
    (hg : ∀ (s : Shared) (H : Hp) (C : Addr) (cl : List (Str × Addr)) (fp : List Addr), PG (X.blk s H scope (compEnvC scope cl C X.env) fp) tge (gD tg)) (ht : ∀ (s : Shared) (H : Hp) (C : Addr) (cl : List (Str × Addr)) (fp : List Addr), PTs (X.blk s H scope (compEnvC scope cl C X.env) fp) ifs (tT W0 tst))
    (he : ∀ (s : Shared) (H : Hp) (C : Addr) (cl : List (Str × Addr)) (fp : List Addr), PE (X.blk s H scope (compEnvC scope cl C X.env) fp) elt (tE W0 el)) (hs : ∀ x, foldedSetIterable iter X.env x = pure x := by intro _; rfl) :
    PS X (.Assign [.Name y py] (.ListComp elt [⟨tge, iter, ifs, 0⟩] scope pos) spos) (tS W (asgM i (compM mi tg tst el (own.map (·.2))))) := PS.weak (ps_setLc hc hN hy hyl hsw hi ok hg ht he hs) fun G σ H h => by
  obtain ⟨δ, S, ρ, I, h⟩ := h
  refine tE_comp (W := W) hv σ H _ ?_
  refine bindGF I h fun d v S1 H1 ρ1 n1 I1 r1 h1 => ?_
  exact h1 _ H1 ρ1 (Nx.refl _ _) ⟨I1.st, I1.env.set i r1⟩
end
abbrev RX : Hp → List Addr → Ex → Value × Option Addr → Prop := fun H ρ x p => RepX H ρ x p.1 p.2
abbrev Fn := List D → Store → Res D
def spD (n : Nat) (φ : Fn) : Sp := fun vs H Q E => ∃ ds S ρ, ds.length = n ∧ StS H S ρ ∧ Reps H ρ ds vs ∧ RunG (fun c dd _ H' => E c dd H') Rep [] H ρ (φ ds S) Q
abbrev FnD (P : Program) (w : World) (K : PySem.W.Frag) (mg : Str → Option Value) (base : Heap) (k : Nat) (f : Addr) (fd : FuncData) (ps : List Str) (φ : Fn) : Prop := FnOk P w K mg base (L2.CX P w) k f fd ps (spD ps.length φ)
def allO (f : D → Option D) : List D → Option (List D)
  | [] => some []
  | d :: ds => match f d with
    | some e => match allO f ds with
      | some es => some (e :: es)
      | none => none
    | none => none
def fzN (n : Nat) (S : Store) : Nat → D → Option D
  | 0, d => if okD n d = true then some d else none
  | f + 1, d => if okD n d = true then some d else match d with
    | .loc m => match S[m]? with
      | some (.lst ds) => match allO (fzN n S f) ds with
        | some es => some (.lst es)
        | none => none
      | some (.dct ks ds) => match allO (fzN n S f) ds with
        | some es => some (.dct ks es)
        | none => none
      | some (.obj C ns ds) => match allO (fzN n S f) ds with
        | some es => some (.obj C ns es)
        | none => none
      | _ => none
    | .tup ds => match allO (fzN n S f) ds with
      | some es => some (.tup es)
      | none => none
    | .lst ds => match allO (fzN n S f) ds with
      | some es => some (.lst es)
      | none => none
    | .dct ks ds => match allO (fzN n S f) ds with
      | some es => some (.dct ks es)
      | none => none
    | .obj C ns ds => match allO (fzN n S f) ds with
      | some es => some (.obj C ns es)
      | none => none
    | _ => none
abbrev fz (n : Nat) (S : Store) (d : D) : Option D := fzN n S 8 d
open Classical in
noncomputable def finV (S : Store) (d : D) (S' : Store) : Res D := match fz S.length S' d with
  | some e => if Settles S S' then .ok e (S'.take S.length) else .ok d S'
  | none => .ok d S'
open Classical in
noncomputable def finX (S : Store) (x : Ex) (S' : Store) : Res D := if okL S.length x.ds = true ∧ Settles S S' then .exc x (S'.take S.length) else .exc x S'
noncomputable def finD (S : Store) (r : Flw) : Res D := match r with
  | .nx _ S' => finV S .non S'
  | .rt d S' => finV S d S'
  | .exc x _ S' => finX S x S'
  | _ => .stuck
def finK (r : Flw) : Res D := match r with
  | .nx _ S' => .ok .non S'
  | .rt d S' => .ok d S'
  | .exc x _ S' => .exc x S'
  | _ => .stuck
def startD (n : Nat) (ds : List D) : DEnv := ds.map some ++ List.replicate (n - ds.length) none
noncomputable def defM (n : Nat) (m : MS) : Fn := fun ds S => finD S (m (startD n ds) S)
def defK (n : Nat) (m : MS) : Fn := fun ds S => finK (m (startD n ds) S)
section
variable {H H' : Hp} {ρ t : List Addr} {S S' : Store} {d e : D} {v : V}
theorem allO_len {f : D → Option D} : ∀ {ds es : List D}, allO f ds = some es → es.length = ds.length
  | [], es, h => by cases h; rfl
  | d :: ds, es, h => by
    simp only [allO] at h
    split at h
    · split at h
      · rename_i es' e2
        cases h
        simp [allO_len e2]
      · cases h
    · cases h
theorem allO_rep {f : D → Option D} (hf : ∀ (d e : D) (v : V), Rep H (ρ ++ t) d v → f d = some e → Rep H ρ e v) : ∀ {ds es : List D} {vs : List V}, Reps H (ρ ++ t) ds vs → allO f ds = some es → Reps H ρ es vs
  | [], es, vs, r, h => by cases h; exact r
  | d :: ds, es, vs, r, h => by
    obtain ⟨v, us, rfl, r1, r2⟩ := r
    simp only [allO] at h
    split at h
    · rename_i e e1
      split at h
      · rename_i es' e2
        cases h
        exact ⟨v, us, rfl, hf _ _ _ r1 e1, allO_rep hf r2 e2⟩
      · cases h
    · cases h
theorem fzN_rep (st : StS H S (ρ ++ t)) : ∀ (f : Nat) (d e : D) (v : V), Rep H (ρ ++ t) d v → fzN ρ.length S f d = some e → Rep H ρ e v
  | 0, d, e, v, r, h => by
    simp only [fzN] at h
    split at h
    · rename_i ho
      cases h
      exact Rep.cut _ _ r ho
    · cases h
  | f + 1, d, e, v, r, h => by
    have ih := fzN_rep st f
    unfold fzN at h
    split at h
    · rename_i ho
      cases h
      exact Rep.cut _ _ r ho
    · rename_i ho
      split at h
      · rename_i m
        obtain ⟨a, ea, rfl⟩ := r
        have hna : a ∉ ρ := fun z => by
          obtain ⟨j, hj, ej⟩ := List.getElem_of_mem z
          have e1 : (ρ ++ t)[j]? = some a := by rw [List.getElem?_append_left hj, List.getElem?_eq_getElem hj, ej]
          have := (List.getElem?_inj (List.getElem?_eq_some_iff.mp e1).1 st.nd).mp (e1.trans ea.symm)
          simp only [okD, decide_eq_true_eq] at ho
          omega
        split at h
        · rename_i ds es
          split at h
          · rename_i es' he
            cases h
            obtain ⟨vs, h1, r1⟩ := st.cells m a _ ea es
            exact ⟨a, vs, rfl, h1, hna, allO_rep ih r1 he⟩
          · cases h
        · rename_i ks ds es
          split at h
          · rename_i es' he
            cases h
            obtain ⟨vs, h1, l, r1⟩ := st.cells m a _ ea es
            exact ⟨a, vs, rfl, .inl h1, hna, by rw [l, allO_len he], allO_rep ih r1 he⟩
          · cases h
        · rename_i C ns ds es
          split at h
          · rename_i es' he
            cases h
            obtain ⟨dx, vs, h1, l, r1⟩ := st.cells m a _ ea es
            exact ⟨a, dx, vs, rfl, h1, hna, by rw [l, allO_len he], allO_rep ih r1 he⟩
          · cases h
        · cases h
      · rename_i ds
        split at h
        · rename_i es he
          cases h
          obtain ⟨a, vs, rfl, h1, na, r1⟩ := r
          exact ⟨a, vs, rfl, h1, fun z => na (List.mem_append_left _ z), allO_rep ih r1 he⟩
        · cases h
      · rename_i ds
        split at h
        · rename_i es he
          cases h
          obtain ⟨a, vs, rfl, h1, na, r1⟩ := r
          exact ⟨a, vs, rfl, h1, fun z => na (List.mem_append_left _ z), allO_rep ih r1 he⟩
        · cases h
      · rename_i ks ds
        split at h
        · rename_i es he
          cases h
          obtain ⟨a, vs, rfl, h1, na, l, r1⟩ := r
          exact ⟨a, vs, rfl, h1, fun z => na (List.mem_append_left _ z), by rw [l, allO_len he], allO_rep ih r1 he⟩
        · cases h
      · rename_i C ns ds
        split at h
        · rename_i es he
          cases h
          obtain ⟨a, dx, vs, rfl, h1, na, l, r1⟩ := r
          exact ⟨a, dx, vs, rfl, h1, fun z => na (List.mem_append_left _ z), by rw [l, allO_len he], allO_rep ih r1 he⟩
        · cases h
      · cases h
theorem fz_rep (st : StS H S (ρ ++ t)) (r : Rep H (ρ ++ t) d v) (h : fz ρ.length S d = some e) : Rep H ρ e v := fzN_rep st 8 d e v r h
theorem finV_run {W : WX} {σ : St} {Q : VK} {H0 : Hp} {ρ' : List Addr} (st0 : StS H0 S ρ) (h : RunG W Rep σ H0 ρ (finV S d S') Q) (n : Nx H0 ρ H' ρ') (st : StS H' S' ρ') (r : Rep H' ρ' d v) : Q v H' := by
  unfold finV at h
  split at h
  · rename_i e he
    split at h
    · rename_i hs
      obtain ⟨t, ht⟩ := n.pre
      subst ht
      rw [← st0.len] at he
      exact RunG.okN h n.settle (st0.settle st hs) (fz_rep st r he)
    · exact RunG.okN h n st r
  · exact RunG.okN h n st r
theorem finX_run {W : WX} {σ : St} {Q : VK} {H0 : Hp} {ρ' : List Addr} {x : Ex} {c : Value} {dd : Option Addr} (st0 : StS H0 S ρ) (h : RunG W Rep σ H0 ρ (finX S x S') Q) (n : Nx H0 ρ H' ρ') (st : StS H' S' ρ') (r : RepX H' ρ' x c dd) : W c dd σ H' := by
  unfold finX at h
  split at h
  · rename_i hs
    obtain ⟨t, ht⟩ := n.pre
    subst ht
    obtain ⟨rc, d, vs, e1, e2, na, l, r1⟩ := r
    exact h c dd H' ρ n.settle (st0.settle st hs.2) ⟨rc, d, vs, e1, e2, fun z => na (List.mem_append_left _ z), l, Reps.cut _ _ r1 (by rw [st0.len]; exact hs.1)⟩
  · exact h c dd H' ρ' n st r
theorem start_env {n : Nat} {N : List Str} {ds : List D} {vs : List V} (hn : N.length = n) (r : Reps H ρ ds vs) : EnvS H ρ (startD n ds) (L2.start N vs) := by
  have hl := r.len
  unfold startD L2.start
  refine ⟨by simp [hn, hl], fun i d e => ?_⟩
  by_cases hi : i < ds.length
  · rw [List.getElem?_append_left (by simpa using hi), List.getElem?_map] at e
    rw [List.getElem?_append_left (by rw [List.length_map, ← hl]; exact hi), List.getElem?_map]
    cases ed : ds[i]? with
    | none => rw [ed] at e; cases e
    | some d' =>
      rw [ed] at e
      cases e
      obtain ⟨v, hv, rv⟩ := Reps.getD r ed
      exact ⟨v, by rw [hv]; rfl, rv⟩
  · rw [List.getElem?_append_right (by simpa using Nat.le_of_not_lt hi), List.getElem?_replicate] at e
    split at e <;> cases e
end
section
variable {P : Program} {w : World} {K : PySem.W.Frag} {mg : Str → Option Value} {base : Heap} {k : Nat} {f : Addr} {fd : FuncData} {x qual : Str} {params : Arguments} {body : List Stmt} {scope : Scope} {dvs : List V} {kws : List (Str × V)} {N ps : List Str} {m : MS}
theorem FnD.mk (F : FunD K x qual params body scope dvs kws f fd) (S : FnScope N ps scope)
    (hb : ∀ (cdv : Value) (A : Around) (outer : List Env) (s : Shared) (H : Hp) (E : XK), Room k (A.deeper (envOfC qual scope s.heap.objs.size f cdv)) →
      PSs (cxOf (L2.CX P w) P w K mg base N qual scope f cdv A outer s H E) body (tS (fun c dd _ H' => E c dd H') m)) : FnD P w K mg base (k + 1) f fd ps (defM N.length m) := by
  refine FunD.ok F S (fun vs H Q E h => ?_) (fun cdv A outer s H vs Q E hr h => ⟨_, hb cdv A outer s H E hr, ?_⟩)
  · obtain ⟨ds, S, ρ, hl, _, r, _⟩ := h
    rw [← r.len, hl]
  · obtain ⟨ds, S0, ρ, hl, st0, r, h⟩ := h
    refine ⟨startD N.length ds, S0, ρ, ⟨st0, start_env rfl r⟩, ?_⟩
    unfold defM at h
    cases e : m (startD N.length ds) S0 with
    | nx δ' S' =>
      rw [e] at h
      exact fun σ' H' ρ' n I => finV_run (v := V.non) (d := D.non) st0 (show RunG _ Rep [] H ρ (finV S0 .non S') Q from h) n I.st rfl
    | rt d S' =>
      rw [e] at h
      exact fun v H' ρ' n st r => finV_run st0 h n st r
    | exc x δ' S' =>
      rw [e] at h
      exact fun c dd σ' H' ρ' n I r => finX_run (W := fun c dd _ H' => E c dd H') st0 h n I.st r
    | bk _ _ => rw [e] at h; exact False.elim h
    | ct _ _ => rw [e] at h; exact False.elim h
    | stuck => rw [e] at h; exact False.elim h
theorem FnD.mkK (F : FunD K x qual params body scope dvs kws f fd) (S : FnScope N ps scope)
    (hb : ∀ (cdv : Value) (A : Around) (outer : List Env) (s : Shared) (H : Hp) (E : XK), Room k (A.deeper (envOfC qual scope s.heap.objs.size f cdv)) →
      PSs (cxOf (L2.CX P w) P w K mg base N qual scope f cdv A outer s H E) body (tS (fun c dd _ H' => E c dd H') m)) : FnD P w K mg base (k + 1) f fd ps (defK N.length m) := by
  refine FunD.ok F S (fun vs H Q E h => ?_) (fun cdv A outer s H vs Q E hr h => ⟨_, hb cdv A outer s H E hr, ?_⟩)
  · obtain ⟨ds, S, ρ, hl, _, r, _⟩ := h
    rw [← r.len, hl]
  · obtain ⟨ds, S0, ρ, hl, st0, r, h⟩ := h
    refine ⟨startD N.length ds, S0, ρ, ⟨st0, start_env rfl r⟩, ?_⟩
    unfold defK at h
    cases e : m (startD N.length ds) S0 with
    | nx δ' S' =>
      rw [e] at h
      exact fun σ' H' ρ' n I => RunG.okN (b := V.non) (R := Rep) (a := D.non) h n I.st rfl
    | rt d S' =>
      rw [e] at h
      exact fun v H' ρ' n st r => RunG.okN h n st r
    | exc x δ' S' =>
      rw [e] at h
      exact fun c dd σ' H' ρ' n I r => h c dd H' ρ' n I.st r
    | bk _ _ => rw [e] at h; exact False.elim h
    | ct _ _ => rw [e] at h; exact False.elim h
    | stuck => rw [e] at h; exact False.elim h
theorem FnD.of {φ ψ : Fn} (F : FnD P w K mg base k f fd ps φ) (h : ∀ ds S, ψ ds S = .stuck ∨ φ ds S = ψ ds S) : FnD P w K mg base k f fd ps ψ := F.imp fun vs H Q E ⟨ds, S, ρ, hl, st, r, q⟩ => by
  refine ⟨ds, S, ρ, hl, st, r, ?_⟩
  rcases h ds S with e | e
  · rw [e] at q; exact False.elim q
  · rw [e]; exact q
end
def appM (n : Nat) (φ : Fn) (ms : MA) (dD : List D) : ME := fun δ S => (ms δ S).bind fun xs S1 => if (xs ++ dD).length = n then φ (xs ++ dD) S1 else .stuck
def TkW (X : Cx) (W : WX) : Prop := ∀ σ, PassesAt (L2.CX X.prog X.w) X σ (fun c d H => W c d σ H)
section
variable {X : Cx} {W : WX} {a b c e o : Expr} {es rest : List Expr} {ma mb mc me mo : ME} {ms : MA} {p pos apos : Pos} {x m : Str} {k n : Nat} {f C : Addr} {fd : FuncData} {ps : List Str} {φ : Fn} {dD : List D} {dvs : List V} {ds : List Value}
theorem tk_of (tk : Takes X W) : TkW X W := fun σ pins H s e s' I c => tk e s' (XE.of_call I (fun cls d H' h => h) c)
theorem tk_no : TkW X W0 := fun σ pins H s e s' I c => by
  obtain ⟨a, B, H', cls, d, _, _, _, _, _, _, _, h⟩ := c
  exact False.elim h
theorem RunG.sig {α β : Type} {R : Hp → List Addr → α → β → Prop} {σ : St} {H : Hp} {ρ : List Addr} {r : Res α} {Q : β → Hp → Prop} (h : RunG W R σ H ρ r Q) : RunG (fun c dd _ H' => W c dd σ H') R [] H ρ r Q := by
  cases r with
  | ok a S => exact h
  | exc x S => exact h
  | stuck => exact h
theorem sp_of {σ : St} {H : Hp} {ρ : List Addr} {S : Store} {xs : List D} {vs : List V} {Q : VK} (st : StS H S ρ) (r : Reps H ρ xs vs) (h : RunG W Rep σ H ρ (if xs.length = n then φ xs S else .stuck) Q) : spD n φ vs H Q (fun c dd H' => W c dd σ H') := by
  split at h
  · rename_i hl
    exact ⟨xs, S, ρ, hl, st, r, h.sig⟩
  · exact False.elim h
theorem pd_callD (F : FnOk X.prog X.w X.K X.mg X.base (L2.CX X.prog X.w) k f fd ps (spD n φ)) (hr : Room k X.A) (hm : X.mg x = some (.ref f)) (hk : PySem.W.keepIn X.K (.ref f) = true) (hb : Binds X.K fd ps ds) (hd : Vals dvs ds) (hD : ∀ H ρ, Reps H ρ dD dvs) (tk : TkW X W)
    (ha : PA X (e :: es) (tA W ms)) (hg : Gl X x := by rfl) (hdb : (x == ("__debug__" : Str)) = false := by decide) (he : starEach (e :: es) X.env = (false, eval e X.env) :: starEach es X.env := by rfl) (hpl : (backTo pos (starEach es X.env)).any (·.1) = false := by rfl) :
    PE X (.Call (.Name x p) (e :: es) [] pos) (tE W (appM n φ ms dD)) := PE.weak (pe_callSD F hr hg hm hk hb hd tk ha hdb he hpl) fun σ H Q h => by
  obtain ⟨δ, S, ρ, I, h⟩ := h
  refine bindG I h fun xs vs S1 H1 ρ1 n1 I1 r1 h1 => ?_
  exact sp_of I1.st (r1.append (hD _ _)) h1
theorem pd_call (F : FnOk X.prog X.w X.K X.mg X.base (L2.CX X.prog X.w) k f fd ps (spD n φ)) (hr : Room k X.A) (hm : X.mg x = some (.ref f)) (hk : PySem.W.keepIn X.K (.ref f) = true) (hb : Binds X.K fd ps []) (tk : TkW X W)
    (ha : PA X (e :: es) (tA W ms)) (hg : Gl X x := by rfl) (hdb : (x == ("__debug__" : Str)) = false := by decide) (he : starEach (e :: es) X.env = (false, eval e X.env) :: starEach es X.env := by rfl) (hpl : (backTo pos (starEach es X.env)).any (·.1) = false := by rfl) :
    PE X (.Call (.Name x p) (e :: es) [] pos) (tE W (appM n φ ms [])) := pd_callD F hr hm hk hb .nil (fun _ _ => Reps.nil) tk ha hg hdb he hpl
theorem pd_call0 (F : FnOk X.prog X.w X.K X.mg X.base (L2.CX X.prog X.w) k f fd ps (spD n φ)) (hr : Room k X.A) (hm : X.mg x = some (.ref f)) (hk : PySem.W.keepIn X.K (.ref f) = true) (hb : Binds X.K fd ps []) (tk : TkW X W)
    (hg : Gl X x := by rfl) (hdb : (x == ("__debug__" : Str)) = false := by decide) : PE X (.Call (.Name x p) [] [] pos) (tE W (appM n φ nilM [])) := by
  refine ⟨fun pins s σ H Q I h => ?_⟩
  refine wpAny_Call_Name_kw (ld_glob I hg hm ?_ hdb)
  refine PySem.W.callWith_K0 I.kIn hk (run_fnSD (E := fun σ c d H => W c d σ H) (us := []) (vs := []) (dvs := []) F hr hb .nil (tk σ) I .nil ?_)
  obtain ⟨δ, S, ρ, I', h⟩ := h
  exact sp_of (xs := []) I'.st Reps.nil h
def asO (S : Store) : D → Option (Addr × List Str × List D)
  | .obj C ns ds => some (C, ns, ds)
  | .loc n => match S[n]? with
    | some (.obj C ns ds) => some (C, ns, ds)
    | _ => none
  | _ => none
theorem asO_rep {H : Hp} {ρ : List Addr} {S : Store} {d : D} {v : V} {C : Addr} {ns : List Str} {ds : List D} (st : StS H S ρ) (r : Rep H ρ d v) (h : asO S d = some (C, ns, ds)) : ∃ a dx vs, v = .ref a ∧ H a = some (.ins C dx (ns.zip vs)) ∧ ns.length = ds.length ∧ Reps H ρ ds vs := by
  cases d with
  | obj C' ns' es =>
    cases h
    obtain ⟨a, dx, vs, rfl, h1, _, l, h2⟩ := r
    exact ⟨a, dx, vs, rfl, h1, l, h2⟩
  | loc n =>
    obtain ⟨a, ha, rfl⟩ := r
    simp only [asO] at h
    split at h
    · rename_i C' ns' ds' e
      cases h
      obtain ⟨dx, vs, h1, l, h2⟩ := st.cells n a _ ha e
      exact ⟨a, dx, vs, rfl, h1, l, h2⟩
    · cases h
  | _ => cases h
def lookS {α : Type} : List Str → List α → Str → Option α
  | k :: ks, d :: ds, q => if q = k then some d else lookS ks ds q
  | _, _, _ => none
theorem lookup_zip {α : Type} : ∀ {ns : List Str} {vs : List α} {q : Str}, (ns.zip vs).lookup q = lookS ns vs q
  | [], _, _ => by simp [lookS]
  | _ :: _, [], _ => by simp [lookS]
  | n :: ns, v :: vs, q => by
    rw [List.zip_cons_cons, List.lookup_cons, lookS]
    by_cases h : q = n
    · rw [if_pos h]
      simp [h]
    · rw [if_neg h]
      have : (q == n) = false := by simpa using h
      rw [this]
      exact lookup_zip
theorem lookS_rep {H : Hp} {ρ : List Addr} : ∀ {ns : List Str} {ds : List D} {vs : List V} {q : Str} {d : D}, Reps H ρ ds vs → lookS ns ds q = some d → ∃ v, lookS ns vs q = some v ∧ Rep H ρ d v
  | [], _, _, _, _, _, h => by cases h
  | _ :: _, [], _, _, _, _, h => by cases h
  | n :: ns, d' :: ds, vs, q, d, r, h => by
    obtain ⟨v, us, rfl, h1, h2⟩ := r
    simp only [lookS] at h ⊢
    split at h
    · rename_i e
      cases h
      exact ⟨v, by rw [if_pos e], h1⟩
    · rename_i e
      rw [if_neg e]
      exact lookS_rep h2 h
theorem lookS_none {α β : Type} : ∀ {ns : List Str} {ds : List α} {vs : List β} {q : Str}, ds.length = vs.length → lookS ns ds q = none → lookS ns vs q = none
  | [], _, _, _, _, _ => rfl
  | _ :: _, [], [], _, _, _ => rfl
  | _ :: _, [], _ :: _, _, h, _ => by cases h
  | _ :: _, _ :: _, [], _, h, _ => by cases h
  | n :: ns, d :: ds, v :: vs, q, hl, h => by
    simp only [lookS] at h ⊢
    split at h
    · cases h
    · rename_i e
      rw [if_neg e]
      exact lookS_none (by simpa using hl) h
def putS {α : Type} : List Str → List α → Str → α → List Str × List α
  | k :: ks, d :: ds, q, x => if k = q then (k :: ks, x :: ds) else let r := putS ks ds q x; (k :: r.1, d :: r.2)
  | ks, ds, q, x => (ks ++ [q], ds ++ [x])
theorem putS_zip : ∀ {ns : List Str} {vs : List V} {q : Str} {x : V}, ns.length = vs.length → putF q x (ns.zip vs) = (putS ns vs q x).1.zip (putS ns vs q x).2 ∧ (putS ns vs q x).1.length = (putS ns vs q x).2.length
  | [], [], q, x, _ => ⟨rfl, rfl⟩
  | [], _ :: _, _, _, h => by cases h
  | _ :: _, [], _, _, h => by cases h
  | n :: ns, v :: vs, q, x, h => by
    have hl : ns.length = vs.length := by simpa using h
    rw [List.zip_cons_cons]
    simp only [putF, putS]
    by_cases e : n = q
    · rw [if_pos e, if_pos e]
      exact ⟨rfl, by simp [hl]⟩
    · rw [if_neg e, if_neg e]
      obtain ⟨i1, i2⟩ := putS_zip (q := q) (x := x) hl
      exact ⟨by rw [i1]; rfl, by simp [i2]⟩
theorem putS_rep {H : Hp} {ρ : List Addr} {q : Str} {d : D} {x : V} (rx : Rep H ρ d x) : ∀ {ns : List Str} {ds : List D} {vs : List V}, ns.length = ds.length → Reps H ρ ds vs → (putS ns ds q d).1 = (putS ns vs q x).1 ∧ Reps H ρ (putS ns ds q d).2 (putS ns vs q x).2
  | [], [], vs, _, r => by cases r; exact ⟨rfl, Reps.one rx⟩
  | [], _ :: _, _, h, _ => by cases h
  | _ :: _, [], _, h, _ => by cases h
  | n :: ns, d' :: ds, vs, h, r => by
    obtain ⟨v, us, rfl, h1, h2⟩ := r
    simp only [putS]
    by_cases e : n = q
    · rw [if_pos e, if_pos e]
      exact ⟨rfl, Reps.cons rx h2⟩
    · rw [if_neg e, if_neg e]
      obtain ⟨i1, i2⟩ := putS_rep rx (by simpa using h) h2
      exact ⟨by simp [i1], Reps.cons h1 i2⟩
theorem putS_len {ns : List Str} {ds : List D} {q : Str} {d : D} (h : ns.length = ds.length) : (putS ns ds q d).1.length = (putS ns ds q d).2.length := by
  induction ns generalizing ds with
  | nil => cases ds with
    | nil => rfl
    | cons _ _ => cases h
  | cons n ns ih => cases ds with
    | nil => cases h
    | cons d' ds =>
      simp only [putS]
      split
      · simpa using h
      · simpa using ih (by simpa using h)
theorem ins_rep_len {H : Hp} {ρ : List Addr} {ns : List Str} {ds : List D} {vs : List V} (l : ns.length = ds.length) (r : Reps H ρ ds vs) : ns.length = vs.length := by rw [l, r.len]
open Classical in
/-- e.f, e of the class at C -/
noncomputable def fldM (C : Addr) (fl : Str) (mo : ME) : ME := fun δ S => (mo δ S).bind fun x S1 => match asO S1 x with
  | some (C', ns, ds) => if C' = C then RO (lookS ns ds fl) S1 else .stuck
  | none => .stuck
theorem pd_fld (cl : Cls X.K C) (nf : NoAttr X.K C m) (ho : PE X o (tE W mo)) (hb : attributeBase o m X.env (eval o X.env) = eval o X.env := by rfl) : PE X (.Attribute o m pos) (tE W (fldM C m mo)) := PE.weak (pe_fld ho hb) fun σ H Q h => by
  obtain ⟨δ, S, ρ, I, h⟩ := h
  refine bindG I h fun x v S1 H1 ρ1 n1 I1 r1 h1 => ?_
  split at h1
  · rename_i C' ns ds eo
    split at h1
    · rename_i hC
      subst hC
      obtain ⟨z, e, kk⟩ := h1.ro
      obtain ⟨a, dx, vs, rfl, hH, l, r⟩ := asO_rep I1.st r1 eo
      obtain ⟨u, eu, ru⟩ := lookS_rep r e
      exact ⟨a, C', dx, _, u, rfl, hH, cl, nf, by rw [lookup_zip]; exact eu, kk u H1 ρ1 (Nx.refl _ _) I1.st ru⟩
    · exact False.elim h1
  · exact False.elim h1
open Classical in
noncomputable def setfM (C : Addr) (fl : Str) (mo mv : ME) : MS := fun δ S => bindS (mv δ S) δ fun d S1 => bindS (mo δ S1) δ fun x S2 => match x with
  | .loc n => match S2[n]? with
    | some (.obj C' ns ds) => if C' = C ∧ ns.length < 1000 then .nx δ (S2.set n (.obj C' (putS ns ds fl d).1 (putS ns ds fl d).2)) else .stuck
    | _ => .stuck
  | _ => .stuck
theorem ps_dfld {value : Expr} {mv : ME} {pos' : Pos} (cl : Cls X.K C) (nf : NoAttr X.K C m) (ho : PE X o (tE W mo)) (hv : PE X value (tE W mv)) (hs : swapsWith value (some (.Attribute o m pos')) pos.line X.env = pure false := by rfl) : PS X (.Assign [.Attribute o m pos'] value pos) (tS W (setfM C m mo mv)) :=
  PS.weak (ps_fld ho hv hs) fun G σ H h => by
    obtain ⟨δ, S, ρ, I, h⟩ := h
    refine bindGF I h fun d v S1 H1 ρ1 n1 I1 r1 h1 => ?_
    refine bindGF I1 h1 fun x u S2 H2 ρ2 n2 I2 r2 h2 => ?_
    split at h2
    · rename_i n
      split at h2
      · rename_i C' ns ds ec
        split at h2
        · rename_i hC
          obtain ⟨rfl, hlen⟩ := hC
          obtain ⟨a, ea, rfl⟩ := r2
          obtain ⟨dx, vs, hH, l, r⟩ := I2.st.cells n a _ ea ec
          have hm : a ∈ ρ2 := List.mem_of_getElem? ea
          have rd := Rep.mono n2 _ _ r1
          refine ⟨a, C', dx, _, rfl, hH, cl, nf, by rw [List.length_zip, ins_rep_len l r, Nat.min_self, ← ins_rep_len l r]; exact hlen, ?_⟩
          obtain ⟨z1, z2⟩ := putS_zip (q := m) (x := v) (ins_rep_len l r)
          obtain ⟨p1, p2⟩ := putS_rep (q := m) rd l r
          rw [z1]
          have nx : Nx H2 ρ2 (upd H2 a (.ins C' dx ((putS ns vs m v).1.zip (putS ns vs m v).2))) ρ2 := Nx.set hm (by rw [hH]; simp)
          have st3 := I2.st.set (o := .ins C' dx ((putS ns vs m v).1.zip (putS ns vs m v).2)) (c := .obj C' (putS ns ds m d).1 (putS ns ds m d).2) ea ⟨dx, _, by rw [upd_same, p1], putS_len l, Reps.mono nx _ _ p2⟩
          exact h2 σ _ ρ2 nx ⟨st3, I2.env.mono nx⟩
        · exact False.elim h2
      · exact False.elim h2
    · exact False.elim h2
end
section
variable {K : PySem.W.Frag} {x qual : Str} {params : Arguments} {body : List Stmt} {scope : Scope} {dvs : List V} {kws : List (Str × V)} {f : Addr} {fd : FuncData} {ps : List Str}
end
section
variable {X : Cx} {W : WX} {a b c e o i : Expr} {es rest : List Expr} {ma mb mc me mo mi : ME} {ms mk : MA} {p pos apos pos' tpos : Pos} {x m : Str} {k n j : Nat} {f C : Addr} {fd : FuncData} {ps ks : List Str} {φ : Fn} {dD : List D} {dvs : List V} {ds : List Value} {kws : List Keyword}
theorem PK.weak {kws : List Keyword} {t t' : TA} (h : PK X kws t) (hw : ∀ σ H Q, t' σ H Q → t σ H Q) : PK X kws t' := ⟨fun p pins s σ H Q I q => h.run p pins s σ H Q I (hw _ _ _ q)⟩
theorem pk_dnil : PK X [] (tA W nilM) := PK.weak pk_nil fun σ H Q h => by
  obtain ⟨δ, S, ρ, I, h⟩ := h
  exact RunG.ok h I.st Reps.nil
theorem pk_dcons {nm : Option Str} {kpos : Pos} (ha : PE X e (tE W me)) (hr : PK X kws (tA W ms)) : PK X (⟨nm, e, kpos⟩ :: kws) (tA W (consM me ms)) := PK.weak (pk_cons ha hr) fun σ H Q h => by
  obtain ⟨δ, S, ρ, I, h⟩ := h
  refine bindG I h fun x v S1 H1 ρ1 n1 I1 r1 h1 => ?_
  refine bindG I1 h1 fun xs vs S2 H2 ρ2 n2 I2 r2 h2 => ?_
  exact RunG.ok h2 I2.st (Reps.cons (Rep.mono n2 _ _ r1) r2)
theorem run_fnKS {pins : List (Addr × Obj)} {σ : St} {H : Hp} {s : Shared} {Q : VK} {us ws : List Value} {vs zs : List V} {sp : Sp} {E : St → XK} {CX : CXT} {g : List Value → List Value → List Value} {gV : List V → List V → List V} (F : FnOk X.prog X.w X.K X.mg X.base CX k f fd ps sp) (hr : Room k X.A) (hb : KBn X.K fd ps n ks g gV) (hx : PassesAt CX X σ (E σ))
    (I : Inv X pins σ H s) (r : Vals vs us) (rz : Vals zs ws) (l1 : vs.length = n) (l2 : zs.length = ks.length) (h : sp (gV vs zs) H Q (E σ)) : wpAny (model X.prog X.w) X.A (call (.ref f) us (ks.zip ws)) (EP X pins σ Q) X.xe s := by
  have r2 := hb.rel r rz
  refine wpAny_call (codeAny_mono (F.run X.A X.stack s H ⟨us, ks.zip ws⟩ (g us ws) (gV vs zs) Q (E σ) hr I.env0 (hb.to s us ws I.kIn (r.length.symm.trans l1) (rz.length.symm.trans l2)) r2 h) fun r s' hq => ?_)
  cases r with
  | error e => exact hx pins H s e s' I hq
  | ok fl =>
    cases fl with
    | ret u => exact I.after hq
    | next => exact False.elim hq
    | brk => exact False.elim hq
    | cont => exact False.elim hq
structure GRel (gD : List D → List D → List D) (gV : List V → List V → List V) : Prop where
  rel : ∀ {H : Hp} {ρ : List Addr} {ds es : List D} {vs zs : List V}, Reps H ρ ds vs → Reps H ρ es zs → Reps H ρ (gD ds es) (gV vs zs)
def appN (n j : Nat) (q : Nat) (φ : Fn) (gD : List D → List D → List D) (ms mk : MA) : ME := fun δ S => (ms δ S).bind fun xs S1 => (mk δ S1).bind fun zs S2 => if xs.length = n ∧ zs.length = j then (if (gD xs zs).length = q then φ (gD xs zs) S2 else .stuck) else .stuck
theorem pd_callN {q : Nat} {g : List Value → List Value → List Value} {gV : List V → List V → List V} {gD : List D → List D → List D} (F : FnOk X.prog X.w X.K X.mg X.base (L2.CX X.prog X.w) k f fd ps (spD q φ)) (hr : Room k X.A) (hm : X.mg x = some (.ref f)) (hk : PySem.W.keepIn X.K (.ref f) = true) (hb : KBn X.K fd ps n ks g gV) (gr : GRel gD gV) (tk : TkW X W)
    (ha : PA X (e :: es) (tA W ms)) (hkw : PK X kws (tA W mk)) (hg : Gl X x := by rfl) (hall : (backToKw pos (keywordEach kws X.env)).all (·.1.isSome) = true := by rfl) (hks : (backToKw pos (keywordEach kws X.env)).filterMap (·.1) = ks := by rfl)
    (hdb : (x == ("__debug__" : Str)) = false := by decide) (he : starEach (e :: es) X.env = (false, eval e X.env) :: starEach es X.env := by rfl)
    (hpl : ((backTo pos (starEach (e :: es) X.env)).any (·.1) || (backToKw pos (keywordEach kws X.env)).any (·.1.isNone)) = false := by rfl) :
    PE X (.Call (.Name x p) (e :: es) kws pos) (tE W (appN n ks.length q φ gD ms mk)) := by
  refine ⟨fun pins s σ H Q I h => ?_⟩
  refine wpAny_Call_Name_kw (ld_glob I hg hm ?_ hdb)
  obtain ⟨δ, S, ρ, I', h⟩ := h
  refine PySem.W.callWith_KW (h₀ := X.base) I.ok.mod.kin hk hall (thn (ha.run pos pins s σ H (fun vs H1 => tA W mk σ H1 fun zs H2 => vs.length = n ∧ zs.length = ks.length ∧ spD q φ (gV vs zs) H2 Q (fun c dd H' => W c dd σ H')) I ?_) fun us s1 ⟨vs, H1, I1, r, q⟩ => ?_) hpl he
  · refine bindG I' h fun xs vs S1 H1 ρ1 n1 I1 r1 h1 => ?_
    refine bindG I1 h1 fun zs ws S2 H2 ρ2 n2 I2 r2 h2 => ?_
    split at h2
    · rename_i hl
      have r1' := Reps.mono n2 _ _ r1
      exact ⟨by rw [← r1'.len]; exact hl.1, by rw [← r2.len]; exact hl.2, sp_of I2.st (gr.rel r1' r2) h2⟩
    · exact False.elim h2
  · refine thn (hkw.run pos pins s1 σ H1 _ I1 q) fun ws s2 ⟨zs, H2, I2, rz, l1, l2, q2⟩ => ⟨I2.kIn, ?_⟩
    rw [hks]
    exact run_fnKS (E := fun σ c d H => W c d σ H) F hr hb (tk σ) I2 r rz l1 l2 q2
open Classical in
noncomputable def selfM (C : Addr) (m : Str) (mo : ME) (kk : D → Store → Res D) (δ : DEnv) (S : Store) : Res D := (mo δ S).bind fun x S1 => match asO S1 x with
  | some (C', ns, ds) => if C' = C ∧ lookS ns ds m = none then kk x S1 else .stuck
  | none => .stuck
noncomputable def methM (C : Addr) (m : Str) (n : Nat) (φ : Fn) (mo : ME) (ms : MA) (dD : List D) : ME := fun δ S => selfM C m mo (fun x S1 => (ms δ S1).bind fun xs S2 => if (x :: (xs ++ dD)).length = n then φ (x :: (xs ++ dD)) S2 else .stuck) δ S
theorem pd_methD {pl : Sem Bool} (c : Cls X.K C) (hm : Meth X.K C m f) (F : FnOk X.prog X.w X.K X.mg X.base (L2.CX X.prog X.w) k f fd ps (spD n φ)) (hr : Room k X.A) (hb : Binds X.K fd ps ds) (hd : Vals dvs ds) (hD : ∀ H ρ, Reps H ρ dD dvs) (tk : TkW X W) (ho : PE X o (tE W mo)) (ha : PA X (e :: es) (tA W ms))
    (hst : starEach (e :: es) X.env = (false, eval e X.env) :: starEach es X.env := by rfl) (hpl : (backTo pos (starEach es X.env)).any (·.1) = false := by rfl)
    (ht : eval (.Call (.Attribute o m apos) (e :: es) [] pos) X.env = (do
      let ov ← eval o X.env
      standAt apos.atName
      let (f, first) ← holding [ov] (getMethod ov m pl)
      callWith pos f first (backTo pos (starEach (e :: es) X.env)) (backToKw pos (keywordEach [] X.env))) := by rfl) :
    PE X (.Call (.Attribute o m apos) (e :: es) [] pos) (tE W (methM C m n φ mo ms dD)) := by
  refine ⟨fun pins s σ H Q I h => ?_⟩
  obtain ⟨δ, S, ρ, I', h⟩ := h
  refine PySem.W.methodCall_KW (pl := pl) (thn (ho.run pins s σ H (fun y H1 => ∃ aa dx fs, y = .ref aa ∧ H1 aa = some (.ins C dx fs) ∧ fs.lookup m = none ∧ tA W ms σ H1 fun vs H2 => spD n φ (y :: (vs ++ dvs)) H2 Q (fun c d H' => W c d σ H')) I ?_) fun u s1 ⟨y, H1, I1, rx, aa, dx, fs, ex, ea, l, q⟩ => ?_) ht
  · unfold methM selfM at h
    refine bindG I' h fun xd v S1 H1 ρ1 n1 I1 r1 h1 => ?_
    split at h1
    · rename_i C' ns ds' eo
      split at h1
      · rename_i hC
        obtain ⟨rfl, hl⟩ := hC
        obtain ⟨aa, dx, vs, rfl, hH, l, r⟩ := asO_rep I1.st r1 eo
        refine ⟨aa, dx, _, rfl, hH, by rw [lookup_zip]; exact lookS_none r.len hl, ?_⟩
        refine bindG I1 h1 fun xs ws S2 H2 ρ2 n2 I2 r2 h2 => ?_
        exact sp_of I2.st (Reps.cons (Rep.mono n2 _ _ r1) (r2.append (hD _ _))) h2
      · exact False.elim h1
    · exact False.elim h1
  · subst ex
    obtain rfl : u = Value.ref aa := rx
    refine getmeth_ok I1 ea c hm l ?_
    refine PySem.W.callWith_K (first := [.ref aa]) (h₀ := X.base) I.ok.mod.kin hm.kp (thn (ha.run pos pins s1 σ H1 _ I1 q) fun us s2 ⟨vs, H2, I2, r, q2⟩ => ⟨I2.kIn, ?_⟩) hst hpl
    exact run_fnSD (E := fun σ c d H => W c d σ H) (us := .ref aa :: us) (vs := .ref aa :: vs) F hr hb hd (tk σ) I2 (.cons rfl r) q2
theorem pd_meth {pl : Sem Bool} (c : Cls X.K C) (hm : Meth X.K C m f) (F : FnOk X.prog X.w X.K X.mg X.base (L2.CX X.prog X.w) k f fd ps (spD n φ)) (hr : Room k X.A) (hb : Binds X.K fd ps []) (tk : TkW X W) (ho : PE X o (tE W mo)) (ha : PA X (e :: es) (tA W ms))
    (hst : starEach (e :: es) X.env = (false, eval e X.env) :: starEach es X.env := by rfl) (hpl : (backTo pos (starEach es X.env)).any (·.1) = false := by rfl)
    (ht : eval (.Call (.Attribute o m apos) (e :: es) [] pos) X.env = (do
      let ov ← eval o X.env
      standAt apos.atName
      let (f, first) ← holding [ov] (getMethod ov m pl)
      callWith pos f first (backTo pos (starEach (e :: es) X.env)) (backToKw pos (keywordEach [] X.env))) := by rfl) :
    PE X (.Call (.Attribute o m apos) (e :: es) [] pos) (tE W (methM C m n φ mo ms [])) := pd_methD c hm F hr hb .nil (fun _ _ => Reps.nil) tk ho ha hst hpl ht
end
section
variable {X : Cx} {W : WX} {a b c e o i value : Expr} {es rest : List Expr} {ma mb mc me mo mi mv : ME} {ms mk : MA} {p pos apos pos' tpos : Pos} {x m : Str} {k n j : Nat} {f C : Addr} {fd : FuncData} {ps ks : List Str} {φ : Fn} {dD : List D} {dvs : List V} {ds : List Value} {kws : List Keyword}
theorem run_makeSD {pins : List (Addr × Obj)} {σ : St} {H : Hp} {s : Shared} {Q : VK} {us : List Value} {vs : List V} {sp : Sp} {E : XK} {CX : CXT} (M : Mk X.K C f) (F : FnOk X.prog X.w X.K X.mg X.base CX k f fd ps sp) (hr : Room (k + 1) X.A) (hb : Binds X.K fd ps ds) (hd : Vals dvs ds)
    (hx : PassesAt CX X σ E) (I : Inv X pins σ H s) (r : Vals vs us)
    (h : ∀ x dx, H x = none → H dx = none → dx ≠ x → sp (.ref x :: (vs ++ dvs)) (upd (upd H dx (.own x)) x (.ins C dx [])) (fun v H2 => v = .non ∧ Q (.ref x) H2) E) :
    wpAny (model X.prog X.w) X.A (call (.ref C) us) (EP X pins σ Q) X.xe s := by
  have hq := h (s.heap.objs.size + 1) s.heap.objs.size (I.hok.fresh (Nat.le_succ _)) (I.hok.fresh (Nat.le_refl _)) (Nat.ne_of_lt (Nat.lt_succ_self _))
  have I2 := Inv.made (C := C) I
  have r2 : Vals (V.ref (s.heap.objs.size + 1) :: (vs ++ dvs)) (Value.ref (s.heap.objs.size + 1) :: (us ++ ds)) := .cons rfl (r.append hd)
  have hl : (Value.ref (s.heap.objs.size + 1) :: us ++ ds).length = ps.length := by
    have e := r2.length
    rw [F.len _ _ _ _ hq] at e
    exact e.symm
  refine wpAny_call (make_map (f := f) I.kIn M.makes M.init (beq_iff_eq.mp M.fn) (codeAny_mono (F.run _ X.stack _ _ ⟨Value.ref (s.heap.objs.size + 1) :: us, []⟩ (Value.ref (s.heap.objs.size + 1) :: (us ++ ds)) _ _ E (hr.make C us [])
    (I2.env0.make C us []) (hb _ (Value.ref (s.heap.objs.size + 1) :: us) I2.kIn hl) r2 hq) fun r s' hq' => ?_))
  cases r with
  | error e => exact hx pins _ _ e s' I2 hq'
  | ok fl =>
    cases fl with
    | ret u =>
      obtain ⟨v, H', I3, rv, ev, q3⟩ := I2.after hq'
      subst ev
      exact ⟨rv, ⟨V.ref (s.heap.objs.size + 1), H', I3, rfl, q3⟩⟩
    | next => exact False.elim hq'
    | brk => exact False.elim hq'
    | cont => exact False.elim hq'
def isNon : D → Bool
  | .non => true
  | _ => false
def mkM (C : Addr) (n : Nat) (φ : Fn) (xs : List D) (S1 : Store) : Res D := if (D.loc S1.length :: xs).length = n then (φ (.loc S1.length :: xs) (S1 ++ [.obj C [] []])).bind fun r S2 => if isNon r = true then .ok (.loc S1.length) S2 else .stuck else .stuck
def makeM (C : Addr) (n : Nat) (φ : Fn) (ms : MA) (dD : List D) : ME := fun δ S => (ms δ S).bind fun xs S1 => mkM C n φ (xs ++ dD) S1
theorem mk_run {σ : St} {H : Hp} {ρ : List Addr} {S1 : Store} {xs : List D} {vs : List V} {Q : VK} (st : StS H S1 ρ) (r : Reps H ρ xs vs) (h : RunG W Rep σ H ρ (mkM C n φ xs S1) Q) (y dx : Addr) (hy : H y = none) (hdx : H dx = none) (ne : dx ≠ y) :
    spD n φ (.ref y :: vs) (upd (upd H dx (.own y)) y (.ins C dx [])) (fun v H2 => v = .non ∧ Q (.ref y) H2) (fun c dd H' => W c dd σ H') := by
  unfold mkM at h
  split at h
  · rename_i hl
    have hy' : upd H dx (.own y) y = none := by rw [upd_ne (Ne.symm ne)]; exact hy
    have n1 : Nx H ρ (upd H dx (.own y)) ρ := Nx.alloc hdx
    have n2 : Nx (upd H dx (.own y)) ρ (upd (upd H dx (.own y)) y (.ins C dx [])) (ρ ++ [y]) := Nx.push hy'
    have n12 := n1.trans n2
    have st2 : StS (upd (upd H dx (.own y)) y (.ins C dx [])) (S1 ++ [.obj C [] []]) (ρ ++ [y]) := (st.alloc hdx).push hy' ⟨dx, [], upd_same, rfl, Reps.nil⟩
    have hloc : (ρ ++ [y])[S1.length]? = some y := by rw [← st.len]; simp
    refine ⟨_, _, _, hl, st2, Reps.cons ⟨y, hloc, rfl⟩ (Reps.mono n12 _ _ r), ?_⟩
    cases e : φ (D.loc S1.length :: xs) (S1 ++ [.obj C [] []]) with
    | ok d S2 =>
      rw [e] at h
      simp only [bind_ok] at h
      split at h
      · rename_i hd
        intro v H' ρ' nn st' rv
        cases d with
        | non =>
          cases rv
          exact ⟨rfl, h (.ref y) H' ρ' (n12.trans nn) st' ⟨y, nn.at hloc, rfl⟩⟩
        | _ => cases hd
      · exact False.elim h
    | exc x S2 =>
      rw [e] at h
      exact fun c dd H' ρ' nn st' rx => h c dd H' ρ' (n12.trans nn) st' rx
    | stuck => rw [e] at h; exact False.elim h
  · exact False.elim h
theorem pd_makeD (M : Mk X.K C f) (F : FnOk X.prog X.w X.K X.mg X.base (L2.CX X.prog X.w) k f fd ps (spD n φ)) (hr : Room (k + 1) X.A) (hm : X.mg x = some (.ref C)) (hb : Binds X.K fd ps ds) (hd : Vals dvs ds) (hD : ∀ H ρ, Reps H ρ dD dvs) (tk : TkW X W)
    (ha : PA X (e :: es) (tA W ms)) (hg : Gl X x := by rfl) (hdb : (x == ("__debug__" : Str)) = false := by decide) (he : starEach (e :: es) X.env = (false, eval e X.env) :: starEach es X.env := by rfl) (hpl : (backTo pos (starEach es X.env)).any (·.1) = false := by rfl) :
    PE X (.Call (.Name x p) (e :: es) [] pos) (tE W (makeM C n φ ms dD)) := by
  refine ⟨fun pins s σ H Q I h => ?_⟩
  obtain ⟨δ, S, ρ, I', h⟩ := h
  refine wpAny_Call_Name_kw (ld_glob I hg hm ?_ hdb)
  refine PySem.W.callWith_K (h₀ := X.base) I.ok.mod.kin M.kp (thn (ha.run pos pins s σ H (fun vs H1 => ∀ y dx, H1 y = none → H1 dx = none → dx ≠ y → spD n φ (.ref y :: (vs ++ dvs)) (upd (upd H1 dx (.own y)) y (.ins C dx [])) (fun v H2 => v = .non ∧ Q (.ref y) H2) (fun c dd H' => W c dd σ H')) I ?_) fun us s1 ⟨vs, H1, I1, r, q⟩ => ⟨I1.kIn, ?_⟩) he hpl
  · refine bindG I' h fun xs vs S1 H1 ρ1 n1 I1 r1 h1 => ?_
    exact fun y dx hy hdx ne => mk_run I1.st (r1.append (hD _ _)) h1 y dx hy hdx ne
  · exact run_makeSD (E := fun c d H => W c d σ H) M F hr hb hd (tk σ) I1 r q
theorem pd_make (M : Mk X.K C f) (F : FnOk X.prog X.w X.K X.mg X.base (L2.CX X.prog X.w) k f fd ps (spD n φ)) (hr : Room (k + 1) X.A) (hm : X.mg x = some (.ref C)) (hb : Binds X.K fd ps []) (tk : TkW X W)
    (ha : PA X (e :: es) (tA W ms)) (hg : Gl X x := by rfl) (hdb : (x == ("__debug__" : Str)) = false := by decide) (he : starEach (e :: es) X.env = (false, eval e X.env) :: starEach es X.env := by rfl) (hpl : (backTo pos (starEach es X.env)).any (·.1) = false := by rfl) :
    PE X (.Call (.Name x p) (e :: es) [] pos) (tE W (makeM C n φ ms [])) := pd_makeD M F hr hm hb .nil (fun _ _ => Reps.nil) tk ha hg hdb he hpl
noncomputable def freezeM (me : ME) : ME := fun δ S => (me δ S).bind fun d S2 => finV S d S2
theorem pd_freeze (h : PE X e (tE W me)) : PE X e (tE W (freezeM me)) := PE.weak h fun σ H Q h => by
  obtain ⟨δ, S, ρ, I, h⟩ := h
  refine ⟨δ, S, ρ, I, ?_⟩
  unfold freezeM at h
  cases em : me δ S with
  | ok d S2 =>
    rw [em] at h
    exact fun v H' ρ' n st r => finV_run I.st h n st r
  | exc x S2 => rw [em] at h; exact h
  | stuck => rw [em] at h; exact h
def locL (S : Store) : D → Option (Nat × List D)
  | .loc n => match S[n]? with
    | some (.lst ds) => some (n, ds)
    | _ => none
  | _ => none
theorem locL_rep {H : Hp} {ρ : List Addr} {S : Store} {d : D} {v : V} {n : Nat} {ds : List D} (st : StS H S ρ) (r : Rep H ρ d v) (h : locL S d = some (n, ds)) : d = .loc n ∧ S[n]? = some (.lst ds) ∧ ∃ a vs, v = .ref a ∧ ρ[n]? = some a ∧ H a = some (.lst vs) ∧ Reps H ρ ds vs := by
  cases d with
  | loc m =>
    simp only [locL] at h
    split at h
    · rename_i es e
      cases h
      obtain ⟨a, ea, rfl⟩ := r
      obtain ⟨vs, h1, r1⟩ := st.cells _ a _ ea e
      exact ⟨rfl, e, a, vs, rfl, ea, h1, r1⟩
    · cases h
  | _ => cases h
def lmM (g : List D → List D → Option (D × List D)) (mo : ME) (ms : MA) : ME := fun δ S => (mo δ S).bind fun x S1 => match locL S1 x with
  | some _ => (ms δ S1).bind fun xs S2 => match locL S2 x with
    | some (n, ds) => match g ds xs with
      | some (d, es) => .ok d (S2.set n (.lst es))
      | none => .stuck
    | none => .stuck
  | none => .stuck
def LmSnd (r : V → List V → Hp → VK → Prop) (g : List D → List D → Option (D × List D)) : Prop := ∀ (H : Hp) (ρ : List Addr) (ds xs : List D) (d : D) (es : List D) (aa : Addr) (vs us : List V) (Q : VK), H aa = some (.lst vs) → Reps H ρ ds vs → Reps H ρ xs us → g ds xs = some (d, es) →
  (∀ v ws, Rep H ρ d v → Reps H ρ es ws → Q v (upd H aa (.lst ws))) → r (.ref aa) us H Q
theorem lm_run {r : V → List V → Hp → VK → Prop} {g : List D → List D → Option (D × List D)} (s : LmSnd r g) {σ : St} {H : Hp} {ρ : List Addr} {S2 : Store} {x : D} {v : V} {xs : List D} {us : List V} {Q : VK} {n : Nat} {ds : List D} (st : StS H S2 ρ) (rx : Rep H ρ x v) (ru : Reps H ρ xs us) (e : locL S2 x = some (n, ds))
    (h : RunG W Rep σ H ρ (match g ds xs with | some (d, es) => Res.ok d (S2.set n (.lst es)) | none => .stuck) Q) : r v us H Q := by
  obtain ⟨rfl, ec, aa, vs, rfl, ea, hH, rv⟩ := locL_rep st rx e
  split at h
  · rename_i d es eg
    refine s H ρ ds xs d es aa vs us Q hH rv ru eg fun w ws rw' rws => ?_
    have hm : aa ∈ ρ := List.mem_of_getElem? ea
    have nx : Nx H ρ (upd H aa (.lst ws)) ρ := Nx.set hm (by rw [hH]; simp)
    exact RunG.okN h nx (st.set ea ⟨ws, upd_same, Reps.mono nx _ _ rws⟩) (Rep.mono nx _ _ rw')
  · exact False.elim h
theorem pd_lm {name : Str} {id : String} {r : V → List V → Hp → VK → Prop} {g : List D → List D → Option (D × List D)} (slot : Slot "list" name id) (hty : typeOf (.builtin id) = pure (.type "method_descriptor")) (hm : MtR X id r) (s : LmSnd r g) (ho : PE X o (tE W mo)) (ha : PA X (e :: es) (tA W ms))
    (hbase : attributeBase o name X.env (eval o X.env) = eval o X.env := by rfl)
    (hfew : ((backTo pos (starEach (e :: es) X.env)).all (fun x => !x.1) && (backToKw pos (keywordEach [] X.env)).all (fun x => x.1.isSome)
      && decide ((e :: es).length + ([] : List Keyword).length + (if ([] : List Keyword).isEmpty then 0 else 1) < 30)) = true := by rfl)
    (hline : (apos.endLine == pos.line) = true := by rfl) (hs : starEach (e :: es) X.env = (false, eval e X.env) :: starEach es X.env := by rfl) (hplain : (backTo pos (starEach es X.env)).any (·.1) = false := by rfl) :
    PE X (.Call (.Attribute o name apos) (e :: es) [] pos) (tE W (lmM g mo ms)) := by
  refine PE.weak (pe_bm PySem.F.plainAttrs_list slot hty hm ho ha hbase hfew hline hs hplain) fun σ H Q h => ?_
  obtain ⟨δ, S, ρ, I, h⟩ := h
  refine bindG I h fun x v S1 H1 ρ1 n1 I1 r1 h1 => ?_
  split at h1
  · rename_i q eq
    obtain ⟨n0, ds0⟩ := q
    obtain ⟨rfl, ec, aa, vs, rfl, ea, hH, rv⟩ := locL_rep I1.st r1 eq
    refine ⟨.inl ⟨rfl, vs, .inl (.inl hH)⟩, ?_⟩
    refine bindG I1 h1 fun xs us S2 H2 ρ2 n2 I2 r2 h2 => ?_
    split at h2
    · rename_i n ds e2
      exact lm_run (W := W) s I2.st (Rep.mono n2 _ _ r1) r2 e2 h2
    · exact False.elim h2
  · exact False.elim h1
theorem pd_lm0 {name : Str} {id : String} {r : V → List V → Hp → VK → Prop} {g : List D → List D → Option (D × List D)} (slot : Slot "list" name id) (hty : typeOf (.builtin id) = pure (.type "method_descriptor")) (hm : MtR X id r) (s : LmSnd r g) (ho : PE X o (tE W mo))
    (hbase : attributeBase o name X.env (eval o X.env) = eval o X.env := by rfl) (hline : (apos.endLine == pos.line) = true := by rfl) :
    PE X (.Call (.Attribute o name apos) [] [] pos) (tE W (lmM g mo nilM)) := by
  refine PE.weak (pe_bm0 PySem.F.plainAttrs_list slot hty hm ho hbase hline) fun σ H Q h => ?_
  obtain ⟨δ, S, ρ, I, h⟩ := h
  refine bindG I h fun x v S1 H1 ρ1 n1 I1 r1 h1 => ?_
  split at h1
  · rename_i q eq
    obtain ⟨n0, ds0⟩ := q
    obtain ⟨rfl, ec, aa, vs, rfl, ea, hH, rv⟩ := locL_rep I1.st r1 eq
    refine ⟨.inl ⟨rfl, vs, .inl (.inl hH)⟩, ?_⟩
    simp only [nilM, bind_ok, eq] at h1
    exact lm_run (W := W) (xs := []) s I1.st r1 Reps.nil eq h1
  · exact False.elim h1
def appendG (ds xs : List D) : Option (D × List D) := match xs with
  | [x] => if ds.length < 1000000 then some (.non, ds ++ [x]) else none
  | _ => none
theorem snd_append : LmSnd rAppend appendG := by
  intro H ρ ds xs d es aa vs us Q hH r ru e k
  unfold appendG at e
  split at e
  · rename_i x
    split at e
    · rename_i hl
      cases e
      obtain ⟨v, ws, rfl, rx, rw'⟩ := ru
      cases rw'
      exact ⟨aa, vs, v, rfl, rfl, hH, by rw [← r.len]; exact Nat.lt_of_lt_of_le hl (by decide), k .non (vs ++ [v]) rfl (r.append (Reps.one rx))⟩
    · cases e
  · cases e
def popG (ds xs : List D) : Option (D × List D) := match xs with
  | [] => match ds[ds.length - 1]? with
    | some d => some (d, ds.dropLast)
    | none => none
  | _ => none
theorem Reps.dropLast {H : Hp} {ρ : List Addr} {ds : List D} {vs : List V} (r : Reps H ρ ds vs) : Reps H ρ ds.dropLast vs.dropLast := by
  rw [List.dropLast_eq_take, List.dropLast_eq_take, r.len]
  exact r.take _
theorem snd_pop : LmSnd rPop popG := by
  intro H ρ ds xs d es aa vs us Q hH r ru e k
  unfold popG at e
  split at e
  · split at e
    · rename_i d' ed
      cases e
      cases ru
      obtain ⟨v, ev, rv⟩ := Reps.getD r ed
      exact ⟨aa, vs, v, rfl, rfl, hH, by rw [← r.len]; exact ev, k v _ rv r.dropLast⟩
    · cases e
  · cases e
def setG (ds : List D) (i d : D) : Option (List D) := match i with
  | .int k => match ixN ds.length k with
    | some j => some (ds.set j d)
    | none => none
  | _ => none
def setIM (mo mi mv : ME) : MS := fun δ S => bindS (mv δ S) δ fun d S1 => bindS (mo δ S1) δ fun x S2 => bindS (mi δ S2) δ fun y S3 => match locL S3 x with
  | some (n, ds) => match setG ds y d with
    | some es => .nx δ (S3.set n (.lst es))
    | none => .stuck
  | none => .stuck
theorem ps_dseti (ho : PE X o (tE W mo)) (hi : PE X i (tE W mi)) (hv : PE X value (tE W mv))
    (ha : ∀ v, assign (.Subscript o i pos') X.env v = (do
      let ov ← holding [v] (eval o X.env)
      let iv ← holding [v, ov] (eval i X.env)
      standAt pos'
      holding [v, ov, iv] (setItem ov iv v)
      release [v, ov, iv] []) := by intro _; rfl) (hs : swapsWithSole [.Subscript o i pos'] value pos.line X.env = pure false := by rfl) (hw : swappedStores [.Subscript o i pos'] value X.env = pure none := by rfl)
    (h1 : (assignEach [.Subscript o i pos'] X.env).map (·.2) = [assign (.Subscript o i pos') X.env] := by rfl) : PS X (.Assign [.Subscript o i pos'] value pos) (tS W (setIM mo mi mv)) :=
  PS.weak (ps_asg hv (pg_sub ho hi set_list ha) hs hw h1) fun G σ H h => by
    obtain ⟨δ, S, ρ, I, h⟩ := h
    refine bindGF I h fun d v S1 H1 ρ1 n1 I1 r1 h1 => ?_
    refine bindGF I1 h1 fun x u S2 H2 ρ2 n2 I2 r2 h2 => ?_
    refine bindGF I2 h2 fun y w S3 H3 ρ3 n3 I3 r3 h3 => ?_
    split at h3
    · rename_i n ds el
      obtain ⟨rfl, ec, aa, vs, rfl, ea, hH, rv⟩ := locL_rep I3.st (Rep.mono n3 _ _ r2) el
      unfold setG at h3
      split at h3
      · rename_i es eg
        split at eg
        · rename_i kk
          split at eg
          · rename_i jj ej
            cases eg
            cases r3
            have hm : aa ∈ ρ3 := List.mem_of_getElem? ea
            have rd := Rep.mono (n2.trans n3) _ _ r1
            have rs := Reps.set jj rv rd
            have nx : Nx H3 ρ3 (upd H3 aa (.lst (vs.set jj v))) ρ3 := Nx.set hm (by rw [hH]; simp)
            have st3 := I3.st.set (o := .lst (vs.set jj v)) (c := .lst (ds.set jj d)) ea ⟨_, upd_same, Reps.mono nx _ _ rs⟩
            exact ⟨aa, vs, kk, jj, rfl, rfl, hH, by rw [← rv.len]; exact ej, h3 σ _ ρ3 nx ⟨st3, I3.env.mono nx⟩⟩
          · cases eg
        · cases eg
      · exact False.elim h3
    · exact False.elim h3
def augM (i : Nat) (g : Store → D → D → Option D) (me : ME) : MS := fun δ S => match δ[i]? with
  | some (some x) => bindS (me δ S) δ fun y S1 => match g S1 x y with
    | some z => .nx (δ.set i (some z)) S1
    | none => .stuck
  | _ => .stuck
theorem ps_daug {op : Operator} {r : R2} {g : Store → D → D → Option D} (hN : X.N.Nodup) (hi : X.N[n]? = some x) (hx : Loc X.env.scope x) (hop : OpR X (inplaceOp op) r) (s : OpSnd r g) (he : PE X e (tE W me)) (hf : X.fn x = true ∨ X.env.scope.names.lookup x = some .local := by first | exact .inl rfl | exact .inr rfl | assumption) :
    PS X (.AugAssign (.Name x pos') op e pos) (tS W (augM n g me)) := PS.weak (ps_aug (ti := r) hN hi hx he (fun pins s σ H x y v u Q I rx ry h => hop pins s σ H x y v u Q I rx ry h) hf) fun G σ H h => by
  obtain ⟨δ, S, ρ, I, h⟩ := h
  unfold augM at h
  split at h
  · rename_i d ed
    obtain ⟨v, ev, rv⟩ := I.env.2 n d ed
    refine ⟨v, ev, ?_⟩
    refine bindGF I h fun y u S1 H1 ρ1 n1 I1 r1 h1 => ?_
    split at h1
    · rename_i z eg
      exact s H1 ρ1 S1 d y z v u _ I1.st (Rep.mono n1 _ _ rv) r1 eg fun w H' nn st rw' => h1 _ H' ρ1 nn ⟨st, (I1.env.mono nn).set n rw'⟩
    · exact False.elim h1
  · exact False.elim h
end
section
variable {X : Cx} {CX : CXT} {k : Nat} {f K0 : Addr} {fd : FuncData} {ps : List Str} {sp : Sp} {E : St → XK} {x m : Str} {p p2 pos : Pos} {e : Expr} {es : List Expr} {ta : TE} {t : TA}
theorem pe_clsfn {pl : Sem Bool} (F : FnOk X.prog X.w X.K X.mg X.base CX k f fd ps sp) (hr : Room k X.A) (hm : X.mg x = some (.ref K0)) (r : ClX.CRead X.K K0 (.type "type")) (cv : ClX.CVal X.K K0 (.type "type") m (.ref f) (.ref f)) (hk : PySem.W.keepIn X.K (.ref f) = true) (hb : Binds X.K fd ps []) (hx : ∀ σ, PassesAt CX X σ (E σ))
    (ha : PA X (e :: es) t) (hg : Gl X x := by rfl) (hdb : (x == ("__debug__" : Str)) = false := by decide)
    (he : starEach (e :: es) X.env = (false, eval e X.env) :: starEach es X.env := by rfl) (hpl : (backTo pos (starEach es X.env)).any (·.1) = false := by rfl)
    (hc : eval (.Call (.Attribute (.Name x p) m p2) (e :: es) [] pos) X.env = (do
      let ov ← eval (.Name x p) X.env
      standAt p2.atName
      let (f, first) ← holding [ov] (getMethod ov m pl)
      callWith pos f first (backTo pos (starEach (e :: es) X.env)) (backToKw pos (keywordEach [] X.env))) := by rfl) :
    PE X (.Call (.Attribute (.Name x p) m p2) (e :: es) [] pos) (tCallS sp E t) := by
  refine ⟨fun pins s σ H Q I h => ?_⟩
  refine PySem.W.methodCall_KW (ld_glob I hg hm ?_ hdb) hc
  refine PySem.W.method_cls I.kIn r.ga (ClX.getcval_ok I r cv fun s1 I1 => ?_)
  refine PySem.W.callWith_K (h₀ := X.base) (first := []) I1.ok.mod.kin hk (thn (ha.run pos pins s1 σ H _ I1 h) fun us s2 ⟨vs, H1, I2, r1, q⟩ => ⟨I2.kIn, ?_⟩) he hpl
  exact run_fnS F hr hb (hx σ) I2 r1 q
end
def spI (K : PySem.W.Frag) (n : Nat) (fs : List Str) (g : List V → List V) : Sp := fun vs H Q E => ∃ a C ws, vs = .ref a :: ws ∧ ws.length = n ∧ OexC K C ∧ (∀ f ∈ fs, PySem.W.findIn K (.ref C) f = some none) ∧ H a = some (exo a C none) ∧
  ∀ dx, H dx = none → dx ≠ a → Q .non (upd (upd H dx (exd dx (fs.zip (g ws)))) a (exo a C (some dx)))
abbrev E00 : St → XK := fun _ _ _ _ => False
theorem passNo {P : Program} {w : World} {X : Cx} (σ : St) : PassesAt (L2.CX P w) X σ (E00 σ) := fun pins H s e s' I c => by
  obtain ⟨a, B, H', cls, d, _, _, _, _, _, _, _, h⟩ := c
  exact False.elim h
theorem passNoC {P : Program} {w : World} {X : Cx} : Passes (L2.CX P w) X (fun _ _ _ => False) := fun pins σ H s e s' I c => by
  obtain ⟨a, B, H', cls, d, _, _, _, _, _, _, _, h⟩ := c
  exact False.elim h
theorem upd_old {H : Hp} {a dx : Addr} {C : Addr} {fs gs : List (Str × V)} (h : dx ≠ a) : upd (upd (upd H dx (exd dx fs)) a (exo a C (some dx))) dx (exd dx gs) = upd (upd H dx (exd dx gs)) a (exo a C (some dx)) := by
  funext b
  by_cases hb : b = dx
  · subst hb
    rw [upd_same, upd_ne h, upd_same]
  · rw [upd_ne hb]
    by_cases hba : b = a
    · subst hba
      rw [upd_same, upd_same]
    · rw [upd_ne hba, upd_ne hb, upd_ne hba, upd_ne hb]
theorem upd_ob {H : Hp} {a dx : Addr} {o u : HO} (h : dx ≠ a) : (upd (upd H dx o) a u) a = some u ∧ (upd (upd H dx o) a u) dx = some o := ⟨upd_same, by rw [upd_ne h, upd_same]⟩
section
variable {P : Program} {w : World} {K : PySem.W.Frag} {mg : Str → Option Value} {base : Heap} {k n : Nat} {f : Addr} {fd : FuncData} {x qual : Str} {params : Arguments} {body : List Stmt} {scope : Scope} {dvs : List V} {kws : List (Str × V)} {N ps fs : List Str} {g : List V → List V} {t : TS}
theorem init_of (F : FunD K x qual params body scope dvs kws f fd) (S : FnScope N ps scope) (hn : ps.length = n + 1)
    (hb : ∀ (cdv : Value) (A : Around) (outer : List Env) (s : Shared) (H : Hp) (E : XK), Room k (A.deeper (envOfC qual scope s.heap.objs.size f cdv)) → PSs (cxOf (L2.CX P w) P w K mg base N qual scope f cdv A outer s H E) body t)
    (ht : ∀ vs H Q E, spI K n fs g vs H Q E → t { nx := fun _ H' => Q .non H', rt := Q } (L2.start N vs) H) : FnOk P w K mg base (L2.CX P w) (k + 1) f fd ps (spI K n fs g) :=
  FunD.ok F S (fun vs H Q E h => by
    obtain ⟨a, C, ws, rfl, hl, _⟩ := h
    simp [hl, hn]) (fun cdv A outer s H vs Q E hr h => ⟨t, hb cdv A outer s H E hr, ht vs H Q E h⟩)
end
section
variable {K : PySem.W.Frag} {fs0 : List Str} {g0 : List V → List V} {fl f1 f2 : Str} {vs : List V} {H : Hp} {Q : VK} {E : XK} {c : Str} {s1 s2 s3 : Str}
theorem shapeR (h : spI K 1 [fl] (fun ws => ws) vs H Q E) : tSeq (tDrop (tVeI K (tCons (tVar 0) (tCons (tVar 1) tNil)))) (tOst K fl (tVar 0) (tVar 1)) { nx := fun _ H' => Q .non H', rt := Q } (L2.start [s1, s2] vs) H := by
  obtain ⟨a, C, ws, rfl, hl, T, hf, ha, q⟩ := h
  match ws, hl with
  | [w], _ =>
    refine ⟨_, rfl, _, rfl, a, C, [w], rfl, by simp, T, ha, ?_⟩
    exact ⟨_, rfl, _, rfl, a, C, rfl, T, hf fl (by simp), .inl ⟨ha, fun dx h1 h2 => q dx h1 h2⟩⟩
theorem shape0 (h : spI K 0 fs0 (fun _ => g0 [.str c]) vs H Q E) : tDrop (tCallS (spI K 1 fs0 g0) E00 (tCons (tVar 0) (tCons (tC (.str c)) tNil))) { nx := fun _ H' => Q .non H', rt := Q } (L2.start [s1] vs) H := by
  obtain ⟨a, C, ws, rfl, hl, T, hf, ha, q⟩ := h
  match ws, hl with
  | [], _ =>
    refine ⟨_, rfl, a, C, [.str c], rfl, rfl, T, hf, ha, fun dx h1 h2 => q dx h1 h2⟩
theorem shape1 (h : spI K 1 (f1 :: fs0) (fun ws => ws ++ g0 [.str c]) vs H Q E) (hlen : fs0.length ≤ 900) : tSeq (tDrop (tCallS (spI K 1 fs0 g0) E00 (tCons (tVar 0) (tCons (tC (.str c)) tNil)))) (tOst K f1 (tVar 0) (tVar 1)) { nx := fun _ H' => Q .non H', rt := Q } (L2.start [s1, s2] vs) H := by
  obtain ⟨a, C, ws, rfl, hl, T, hf, ha, q⟩ := h
  match ws, hl with
  | [w], _ =>
    refine ⟨_, rfl, a, C, [.str c], rfl, rfl, T, fun f hm => hf f (List.mem_cons_of_mem _ hm), ha, fun dx h1 h2 => ?_⟩
    obtain ⟨e1, e2⟩ := upd_ob (H := H) (o := exd dx (fs0.zip (g0 [.str c]))) (u := exo a C (some dx)) h2
    refine ⟨_, rfl, _, rfl, a, C, rfl, T, hf f1 (by simp), .inr ⟨dx, _, e1, e2, by rw [List.length_zip]; omega, ?_⟩⟩
    rw [upd_old h2]
    exact q dx h1 h2
end
def PMD (X : Cx) (W : WX) (e : Expr) (mx : DEnv → Store → Res Ex) : Prop := PMk X e (fun σ H Q => ∃ δ S ρ, StE σ H δ S ρ ∧ RunG W RX σ H ρ (mx δ S) (fun p H' => Q p.1 p.2 H'))
def mkxM (C : Addr) (n : Nat) (fs : List Str) (gd : List D → List D) (ms : MA) : DEnv → Store → Res Ex := fun δ S => (ms δ S).bind fun xs S1 => if xs.length = n ∧ (gd xs).length = fs.length then .ok ⟨C, fs, gd xs⟩ S1 else .stuck
structure GRX (gd : List D → List D) (g : List V → List V) : Prop where
  rel : ∀ {H : Hp} {ρ : List Addr} {ds : List D} {vs : List V}, Reps H ρ ds vs → Reps H ρ (gd ds) (g vs)
theorem del_upd {H : Hp} {a d C : Addr} {o u z : HO} (h : d ≠ a) (ha : H a = none) : upd (L2.del (upd (upd (upd H a z) d o) a u) a) d (.xd fs) = upd H d (.xd fs) := by
  funext b
  by_cases hb : b = d
  · subst hb
    rw [upd_same, upd_same]
  · rw [upd_ne hb, upd_ne hb]
    by_cases hba : b = a
    · subst hba
      rw [del_same, ha]
    · rw [del_ne hba, upd_ne hba, upd_ne hb, upd_ne hba]
section
variable {X : Cx} {W : WX} {k n : Nat} {fI C : Addr} {fd : FuncData} {ps fs : List Str} {g : List V → List V} {gd : List D → List D} {x : Str} {p pos : Pos} {e : Expr} {es : List Expr} {ms : MA} {mx : DEnv → Store → Res Ex}
structure OexI (K : PySem.W.Frag) (C fI : Addr) (fd : FuncData) (ps fs : List Str) : Prop where
  T : OexC K C
  iC : PySem.W.findIn K (.ref C) "__init__" = some (some (.ref fI))
  tI : PySem.W.typeIn K (.ref fI) = some (.type "function")
  hb : Binds K fd ps []
  hf : ∀ f ∈ fs, PySem.W.findIn K (.ref C) f = some none
theorem mk_sem (J : OexI X.K C fI fd ps fs) (gr : GRX gd g) {σ : St} {H1 : Hp} {ρ1 : List Addr} {S1 : Store} {xs : List D} {vs : List V} {Q : XK} (st : StS H1 S1 ρ1) (r : Reps H1 ρ1 xs vs) (hn : n ≤ 1000)
    (h : RunG W RX σ H1 ρ1 (if xs.length = n ∧ (gd xs).length = fs.length then Res.ok (⟨C, fs, gd xs⟩ : Ex) S1 else .stuck) (fun p H' => Q p.1 p.2 H')) :
    vs.length ≤ 1000 ∧ ∀ a, H1 a = none → spI X.K n fs g (.ref a :: (vs ++ [])) (upd H1 a (exo a C none)) (fun v H2 => v = .non ∧ ∃ (d : Addr) (gs : List (Str × V)), H2 a = some (exo a C (some d)) ∧ H2 d = some (exd d gs) ∧ H1 d = none ∧ Q (.ref C) (some d) (upd (L2.del H2 a) d (.xd gs))) (fun _ _ _ => False) := by
  split at h
  · rename_i hl
    have e := r.len
    refine ⟨by omega, fun a ha => ⟨a, C, _, rfl, by simp only [List.append_nil]; omega, J.T, J.hf, upd_same, fun dx h1 h2 => ⟨rfl, dx, _, upd_same, by rw [upd_ne h2, upd_same], by rw [upd_ne h2] at h1; exact h1, ?_⟩⟩⟩
    rw [upd_ne h2] at h1
    rw [del_upd (C := C) h2 ha, List.append_nil]
    have nx : Nx H1 ρ1 (upd H1 dx (.xd (fs.zip (g vs)))) ρ1 := Nx.alloc h1
    exact h (.ref C, some dx) _ ρ1 nx (st.alloc h1) ⟨rfl, dx, g vs, rfl, upd_same, fun z => st.trk z h1, hl.2.symm, Reps.mono nx _ _ (gr.rel r)⟩
  · exact False.elim h
theorem pmd_mk (J : OexI X.K C fI fd ps fs) (gr : GRX gd g) (F1 : FnOk X.prog X.w X.K X.mg X.base (L2.CX X.prog X.w) k fI fd ps (spI X.K n fs g)) (hr : Room (k + 1) X.A) (hm : X.mg x = some (.ref C)) (ha : PA X (e :: es) (tA W ms)) (hn : n ≤ 1000 := by decide) (hg : Gl X x := by rfl)
    (hdb : (x == ("__debug__" : Str)) = false := by decide) (he : starEach (e :: es) X.env = (false, eval e X.env) :: starEach es X.env := by rfl) (hpl : (backTo pos (starEach es X.env)).any (·.1) = false := by rfl) :
    PMD X W (.Call (.Name x p) (e :: es) [] pos) (mkxM C n fs gd ms) := by
  intro pins s σ H Q I h
  refine pmk_oex J.T J.iC J.tI F1 hr J.hb .nil passNoC hg hm ha hdb he hpl pins s σ H Q I ?_
  obtain ⟨δ, S, ρ, I', h⟩ := h
  refine bindG (R2 := RX) I' h fun xs vs S1 H1 ρ1 n1 I1 r1 h1 => ?_
  exact mk_sem J gr I1.st r1 hn h1
theorem pmk_oex0 {CX : CXT} {sp : Sp} {ds : List Value} {dvs : List V} (T : OexC X.K C) (iC : PySem.W.findIn X.K (.ref C) "__init__" = some (some (.ref fI))) (tI : PySem.W.typeIn X.K (.ref fI) = some (.type "function"))
    (F1 : FnOk X.prog X.w X.K X.mg X.base CX k fI fd ps sp) (hr : Room (k + 1) X.A) (hb : Binds X.K fd ps ds) (hd : Vals dvs ds) (hx : Passes CX X (fun _ _ _ => False)) (hg : Gl X x) (hm : X.mg x = some (.ref C))
    (hdb : (x == ("__debug__" : Str)) = false := by decide) :
    PMk X (.Call (.Name x p) [] [] pos) (tMkO C sp dvs tNil) := by
  intro pins s σ H Q I h
  obtain ⟨nm, q, N, bs, bm, sn, sub, ab, col, dd, k0, k1, k2, k3, k5, hC, hbm⟩ := T.cls
  refine wpAny_Call_Name_kw (ld_glob I hg hm ?_ hdb)
  refine PySem.W.callWith_K0 I.kIn T.kC ?_
  obtain ⟨hz, q1⟩ := h
  show wpAny _ _ (call (.ref C) []) _ _ _
  obtain ⟨hp, g, dr, tk, os⟩ := s
  have hsz : hp.objs.size ≤ hp.objs.size + 1 := Nat.le_succ _
  have hn : H (hp.objs.size + 1) = none := I.hok.fresh hsz
  have hq := q1 (hp.objs.size + 1) hn
  have kk : ∀ b o, hp.get? b = some o → ((hp.push (PySem.W.kdv_tup [])).push (PySem.HandSPX.excO C hp.objs.size)).get? b = some o := fun b o e => Heap.get?_push_of_some _ (Heap.get?_push_of_some _ e)
  have hget : ((hp.push (PySem.W.kdv_tup [])).push (PySem.HandSPX.excO C hp.objs.size)).get? (hp.objs.size + 1) = some (PySem.HandSPX.excO C hp.objs.size) := by heap_get
  have I2 : Inv X pins σ (upd H (hp.objs.size + 1) (exo (hp.objs.size + 1) C none)) ⟨(hp.push (PySem.W.kdv_tup [])).push (PySem.HandSPX.excO C hp.objs.size), g, dr, tk, os⟩ :=
    I.laid (t' := tk) (a := hp.objs.size + 1) (o := exo (hp.objs.size + 1) C none) (h' := (hp.push (PySem.W.kdv_tup [])).push (PySem.HandSPX.excO C hp.objs.size)) kk hsz (exo_ok hget)
  have r2 : Vals (V.ref (hp.objs.size + 1) :: dvs) (Value.ref (hp.objs.size + 1) :: ds) := .cons rfl hd
  have hq' : sp (V.ref (hp.objs.size + 1) :: dvs) _ _ _ := hq
  have hb' : BindsTo ⟨(hp.push (PySem.W.kdv_tup [])).push (PySem.HandSPX.excO C hp.objs.size), g, dr, tk, os⟩ fd ⟨[Value.ref (hp.objs.size + 1)], []⟩ (ps.zip (Value.ref (hp.objs.size + 1) :: ds)) := hb _ [Value.ref (hp.objs.size + 1)] I2.kIn (by
    have e := r2.length
    rw [F1.len _ _ _ _ hq'] at e
    exact e.symm)
  have hl : (Value.ref (hp.objs.size + 1) :: ds).length = ps.length := by
    have e := r2.length
    rw [F1.len _ _ _ _ hq'] at e
    exact e.symm
  refine wpAny_call (PySem.HandSPX.call_own F.excBase_ValueError (fun Y => PySem.HandSPX.refsVE_contains Y bm hbm) (I.kIn _ _ hC) (PySem.W.looks_findIn I.kIn iC) (fun self => PySem.W.bind_fn I.kIn self tI) (by rw [sizeLine_eq]; simp)
    (codeAny_mono (F1.run _ X.stack _ _ ⟨[Value.ref (hp.objs.size + 1)], []⟩ (Value.ref (hp.objs.size + 1) :: ds) _ _ (fun _ _ _ => False) (hr.make C [] []) (I2.env0.make C [] []) hb' r2 hq') fun r s' hq2 => ?_))
  cases r with
  | error er => exact hx pins σ _ _ er s' I2 hq2
  | ok fl =>
    cases fl with
    | ret u =>
      obtain ⟨v, H2, os2, bare2, un2, hok2, rv, ev, d, fs, ea, ed, hd1, q2⟩ := hq2
      subst ev
      obtain ⟨h2, g2, d2, t2, os'⟩ := s'
      exact ⟨rv, mk_end (raises_own T.exC T.tyC) I hsz kk un2 hok2 os2 bare2 ea ed hd1 q2⟩
    | next => exact False.elim hq2
    | brk => exact False.elim hq2
    | cont => exact False.elim hq2
theorem pmd_mk0 (J : OexI X.K C fI fd ps fs) (gr : GRX gd g) (F1 : FnOk X.prog X.w X.K X.mg X.base (L2.CX X.prog X.w) k fI fd ps (spI X.K 0 fs g)) (hr : Room (k + 1) X.A) (hm : X.mg x = some (.ref C)) (hg : Gl X x := by rfl)
    (hdb : (x == ("__debug__" : Str)) = false := by decide) :
    PMD X W (.Call (.Name x p) [] [] pos) (mkxM C 0 fs gd nilM) := by
  intro pins s σ H Q I h
  refine pmk_oex0 J.T J.iC J.tI F1 hr J.hb .nil passNoC hg hm hdb pins s σ H Q I ?_
  obtain ⟨δ, S, ρ, I', h⟩ := h
  exact mk_sem (n := 0) (xs := []) (vs := []) (W := W) (σ := σ) J gr I'.st Reps.nil (by decide) h
def raiseM (mx : DEnv → Store → Res Ex) : MS := fun δ S => match mx δ S with
  | .ok x S1 => .exc x δ S1
  | .exc x S1 => .exc x δ S1
  | .stuck => .stuck
theorem ps_draise (hc : X.calm = true) (tk : Takes X W) (h : PMD X W e mx) : PS X (.Raise (some e) none pos) (tS W (raiseM mx)) := PS.weak (ps_raise hc tk h) fun G σ H h => by
  obtain ⟨δ, S, ρ, I, h⟩ := h
  refine ⟨δ, S, ρ, I, ?_⟩
  unfold raiseM at h
  cases em : mx δ S with
  | ok x S1 =>
    rw [em] at h
    exact fun p H' ρ' n st r => h p.1 p.2 σ H' ρ' n (I.next n st) r
  | exc x S1 =>
    rw [em] at h
    exact fun c dd H' ρ' n st r => h c dd σ H' ρ' n (I.next n st) r
  | stuck => rw [em] at h; exact h
def xfM (a dd : Addr) (f : Str) (me : ME) : ME := fun δ S => (me δ S).bind fun x S1 => match x with
  | .exn a' d' ns ds => if a' = a ∧ d' = dd then RO (lookS ns ds f) S1 else .stuck
  | _ => .stuck
def goneF (i : Nat) : Flw → Flw
  | .nx δ S => .nx (δ.set i none) S
  | .bk δ S => .bk (δ.set i none) S
  | .ct δ S => .ct (δ.set i none) S
  | .rt d S => .rt d S
  | _ => .stuck
def tryM (ct : Addr → Option Bool) (i : Nat) (hm : Addr → Addr → MS) (mb : MS) : MS := fun δ S => match mb δ S with
  | .exc x δ1 S1 => match ct x.C with
    | some true => goneF i (hm 0 0 (δ1.set i (some (.exn 0 0 x.ns x.ds))) S1)
    | some false => .exc x δ1 S1
    | none => .stuck
  | r => r
theorem takes_fn {P : Program} {w : World} {K : PySem.W.Frag} {mg : Str → Option Value} {base : Heap} {N : List Str} {qual : Str} {scope : Scope} {f : Addr} {cd : Value} {A : Around} {outer : List Env} {s : Shared} {H : Hp} {E : XK} : Takes (cxOf (L2.CX P w) P w K mg base N qual scope f cd A outer s H E) (fun cls d _ H => E cls d H) := takes_of rfl rfl rfl rfl
end
section
variable {K : PySem.W.Frag} {C f : Addr}
theorem oexB_ok (h : oexB K C = true) : OexC K C := by
  obtain ⟨h1, h⟩ := Bool.and_eq_true_iff.mp h
  obtain ⟨h2, h⟩ := Bool.and_eq_true_iff.mp h
  obtain ⟨h3, h⟩ := Bool.and_eq_true_iff.mp h
  obtain ⟨h4, h5⟩ := Bool.and_eq_true_iff.mp h
  refine ⟨?_, of_decide_eq_true h2, of_decide_eq_true h3, of_decide_eq_true h4, h5⟩
  split at h1
  · rename_i dd cd sl ho
    split at h1
    · rename_i C' bm k0 k1 k2 k3 n k5 hm hs
      simp only [Bool.and_eq_true, beq_iff_eq, Bool.not_eq_true'] at h1
      obtain ⟨⟨⟨⟨rfl, rfl⟩, hdel⟩, hdc⟩, hr⟩ := h1
      obtain ⟨nm, bs, mro, ns, qn, hd, sn, sub, ab, col, del⟩ := cd
      dsimp only at hm hdel hdc
      subst hm hdel hdc
      have hsl : sl = #[k0, k1, k2, k3, some (.builtin "ValueError.__new__"), k5] := by
        obtain ⟨l⟩ := sl
        simp only at hs
        rw [hs]
      subst hsl
      exact ⟨nm, qn, ns, bs, bm, sn, sub, ab, col, dd, k0, k1, k2, k3, k5, ho, hr⟩
    · cases h1
  · cases h1
theorem oexIB_ok {fI : Addr} {fs ps : List Str} {fd : FuncData} (h : oexIB K C fI fs = true) (hb : Binds K fd ps []) : OexI K C fI fd ps fs := by
  obtain ⟨h1, h⟩ := Bool.and_eq_true_iff.mp h
  obtain ⟨h2, h⟩ := Bool.and_eq_true_iff.mp h
  obtain ⟨h3, h4⟩ := Bool.and_eq_true_iff.mp h
  exact ⟨oexB_ok h1, of_decide_eq_true h2, of_decide_eq_true h3, hb, fun f hf => of_decide_eq_true (List.all_eq_true.mp h4 f hf)⟩
theorem crB_ok (h : crB K C f = true) : ClX.CRead K C (.type "type") ∧ ClX.CVal K C (.type "type") "__init__" (.ref f) (.ref f) := by
  obtain ⟨h1, h⟩ := Bool.and_eq_true_iff.mp h
  obtain ⟨h2, h3⟩ := Bool.and_eq_true_iff.mp h
  refine ⟨⟨h1, of_decide_eq_true h2⟩, ⟨?_, rfl⟩⟩
  split at h3
  · rename_i g e
    rw [e, of_decide_eq_true h3]
  · cases h3
theorem veiB_ok (h : veiB K = true) : PySem.W.findCls K (.type "ValueError") (.type "type") "__init__" = some (.val (.builtin "ValueError.__init__")) := by
  unfold veiB at h
  split at h
  · rename_i n e
    rw [e, of_decide_eq_true h]
  · cases h
def ctOf (l : List (Addr × Bool)) (C : Addr) : Option Bool := l.lookup C
theorem mem_of_look : ∀ {l : List (Addr × Bool)} {a : Addr} {b : Bool}, l.lookup a = some b → (a, b) ∈ l
  | [], _, _, h => by cases h
  | (x, y) :: r, a, b, h => by
    rw [List.lookup_cons] at h
    by_cases e : a = x
    · subst e
      simp at h
      subst h
      exact List.mem_cons_self
    · have : (a == x) = false := by simpa using e
      rw [this] at h
      exact List.mem_cons_of_mem _ (mem_of_look h)
theorem ctB_ok {c : Addr} {l : List (Addr × Bool)} (h : ctB K c l = true) : ∀ C b, ctOf l C = some b → PySem.W.exmOne K (.ref C) (.ref c) = some b := fun C b e => of_decide_eq_true (List.all_eq_true.mp h (C, b) (mem_of_look e))
theorem xfAll_ok {l : List (Addr × Bool)} {fs : List Str} (h : xfAll K l fs = true) : ∀ C, ctOf l C = some true → XfC K C ∧ ∀ f ∈ fs, PySem.W.findIn K (.ref C) f = some none := fun C e => by
  have := List.all_eq_true.mp h (C, true) (mem_of_look e)
  simp only [Bool.not_true, Bool.false_or] at this
  obtain ⟨h1, h2⟩ := Bool.and_eq_true_iff.mp this
  exact ⟨xfB_ok h1, fun f hf => of_decide_eq_true (List.all_eq_true.mp h2 f hf)⟩
end
section
variable {P : Program} {w : World} {K : PySem.W.Frag} {mg : Str → Option Value} {base : Heap} {k : Nat} {f : Addr} {fd : FuncData} {ps : List Str}
def stuckF : Fn := fun _ _ => .stuck
theorem FnD.stuck : FnD P w K mg base k f fd ps stuckF := ⟨fun vs H Q E ⟨ds, S, ρ, _, _, _, h⟩ => False.elim h, fun A outer s H args us vs Q E hr he hb hv ⟨ds, S, ρ, _, _, _, h⟩ => False.elim h⟩
theorem FnD.up {φ : Fn} {j : Nat} (F : FnD P w K mg base j f fd ps φ) (h : j ≤ k) : FnD P w K mg base k f fd ps φ := FnOk.mono F h
end
theorem gr_end {dD : List D} {dV : List V} (h : ∀ H ρ, Reps H ρ dD dV) : GRel (fun ds es => ds ++ es ++ dD) (fun vs zs => vs ++ zs ++ dV) := ⟨fun r1 r2 => (r1.append r2).append (h _ _)⟩
def blkB (N : List Str) (sc scope : Scope) (own : List (Str × Nat)) : Bool := decide (scope.kind = .function) && (decide (∀ y ∈ scope.names, scope.names.lookup y.1 = some y.2) && (decide (∀ p ∈ own, N[p.2]? = some p.1) &&
  (decide (∀ y ∈ scope.names, y.2 = .free → sc.names.lookup y.1 = some .cell ∨ sc.names.lookup y.1 = some .free) && decide (∀ y ∈ scope.names, y.2 = .local ∨ y.2 = .cell → y.1 ∈ own.map (·.1) ∨ y.1 ∉ N))))
theorem blk_of {N N' : List Str} {sc sc' scope : Scope} {own : List (Str × Nat)} (h : blkB N sc scope own = true) (hN : N' = N) (hs : sc' = sc) : BlkOk N' sc' scope own := by
  subst hN hs
  obtain ⟨h1, h⟩ := Bool.and_eq_true_iff.mp h
  obtain ⟨h2, h⟩ := Bool.and_eq_true_iff.mp h
  obtain ⟨h3, h⟩ := Bool.and_eq_true_iff.mp h
  obtain ⟨h4, h5⟩ := Bool.and_eq_true_iff.mp h
  exact ⟨of_decide_eq_true h1, of_decide_eq_true h2, of_decide_eq_true h3, of_decide_eq_true h4, of_decide_eq_true h5⟩
theorem set_out {δ : DEnv} {i j : Nat} (h : i ≠ j) (x y z : Option D) : ((δ.set i x).set j y).set i z = (δ.set j y).set i z := by
  rw [List.set_comm _ _ h, List.set_set]
def addI (_ : Store) (x y : D) : Option D := match x, y with
  | .int i, .int j => some (.int (i + j))
  | _, _ => none
theorem snd_addI : OpSnd (rI0 fun i j => .int (i + j)) addI := by
  intro H ρ S x y z v u Q st rx ry e k
  unfold addI at e
  split at e
  · cases e; cases rx; cases ry
    exact ⟨_, _, rfl, rfl, k.now st rfl⟩
  · cases e
def seedF (s c : Int) : Int := (s * 48271 + c % 1000003 + 17) % 2147483647
def seedOf (ns : List Int) : Int := ns.foldl seedF 9458
def drawS (ns : List Int) (i w s c : Int) : Cell := .lst [.lst (ns.map D.int), .int i, .int w, .int s, .int c]
def spStart (K : PySem.W.Frag) : Sp := fun vs H Q E => ∃ a ns, vs = [.ref a] ∧ SqL K H a (ns.map V.int) ∧ ns.length ≤ 63 ∧ ∀ p H', Nx H [] H' [p] → (∀ b o, H b = some o → H' b = some o) → StS H' [drawS ns 0 0 (seedOf ns) 0] [p] → Q (.ref p) H'
abbrev tScr (K : PySem.W.Frag) : TE := L2.tSl (rSlL K) (tVar 0) tNoPart (tPart (tC (.int 63)))
abbrev rPl : R2 := rI0 fun i j => .int (i + j)
abbrev rMo : R2 := rI (fun _ j => 0 < j) fun i j => .int (i % j)
abbrev rMu : R2 := rI CMul fun i j => .int (i * j)
abbrev rLo (K : PySem.W.Frag) : List V → Hp → VK → Prop := fun xs H Q => ∃ p ys, xs = [.ref p] ∧ (SqL K H p ys ∨ SqT K H p ys) ∧ ∀ l, H l = none → Q (.ref l) (upd H l (.lst ys))
def tStart (K : PySem.W.Frag) : TS := tSeq (tAsg (tC (.int 9458)) (gName 1)) (tSeq (tFor (iList K (tScr K)) (gName 2) (tAsg (tOp rMo (tOp rPl (tOp rPl (tOp rMu (tVar 1) (tC (.int 48271))) (tOp rMo (tVar 2) (tC (.int 1000003)))) (tC (.int 17))) (tC (.int 2147483647))) (gName 1)))
  (tRet (tLst (tCons (tCB (rLo K) (tCons (tScr K) L2.tNil)) (tCons (tC (.int 0)) (tCons (tC (.int 0)) (tCons (tVar 1) (tCons (tC (.int 0)) L2.tNil))))))))
theorem cut63 {xs : List V} (h : xs.length ≤ 63) : cutV xs none (some 63) = xs := by
  unfold cutV
  rw [HT.sIx_none, show (63 : Int) = ((63 : Nat) : Int) from rfl, HT.sIx_nat, List.drop_zero, List.take_of_length_le]
  omega
theorem SqL.up {K : PySem.W.Frag} {H : Hp} {a p : Addr} {xs : List V} {o : HO} (h : SqL K H a xs) (hp : H p = none) : SqL K (upd H p o) a xs := by
  rcases h with (h | ⟨ob, h⟩) | h
  · exact .inl (.inl (by rw [upd_ne (ne_of_none h hp)]; exact h))
  · exact .inl (.inr ⟨ob, by rw [upd_ne (ne_of_none h hp)]; exact h⟩)
  · exact .inr h
theorem ints_reps {H : Hp} {ρ : List Addr} : ∀ ns : List Int, Reps H ρ (ns.map D.int) (ns.map V.int)
  | [] => rfl
  | n :: ns => ⟨_, _, rfl, rfl, ints_reps ns⟩
theorem start_sem {K : PySem.W.Frag} {s0 s1 s2 : Str} {vs : List V} {H : Hp} {Q : VK} {E : XK} (h : spStart K vs H Q E) : tStart K { nx := fun _ H' => Q .non H', rt := Q } (L2.start [s0, s1, s2] vs) H := by
  obtain ⟨a, ns, rfl, hs, hl, q⟩ := h
  have hc : cutV (ns.map V.int) none (some 63) = ns.map V.int := cut63 (by simpa using hl)
  show tScr K _ _ _
  refine ⟨_, rfl, 63, rfl, a, _, rfl, hs, fun p hp => ⟨p, rfl, ⟨_, .inl (.inl upd_same)⟩, ?_⟩⟩
  rw [hc]
  have hp' : SqL K (upd H p (.lst (ns.map V.int))) p (ns.map V.int) := .inl (.inl upd_same)
  refine ⟨fun i m σ H' => ∃ v, σ = [some (.ref a), some (.int ((ns.take i).foldl seedF 9458)), v] ∧ H' = upd H p (.lst (ns.map V.int)) ∧ m = ns.length - i, ⟨_, _, rfl, rfl, rfl⟩, ?_⟩
  rintro i m σ H' ⟨v, rfl, rfl, rfl⟩
  cases e : ns[i]? with
  | none =>
    have hi := List.getElem?_eq_none_iff.mp e
    refine .inl ⟨⟨_, hp', by simpa using hi⟩, ?_⟩
    rw [List.take_of_length_le hi]
    show tScr K _ _ _
    refine ⟨_, rfl, 63, rfl, a, _, rfl, SqL.up hs hp, fun p2 h2 => ?_⟩
    rw [hc]
    refine ⟨p2, _, rfl, .inl (.inl (.inl upd_same)), fun l hl' => ?_⟩
    refine ⟨_, rfl, by rw [sizeLine_eq]; simp, fun p3 h3 => ?_⟩
    have n1 : Nx H [] (upd H p (.lst (ns.map V.int))) [] := Nx.alloc hp
    have n2 := n1.trans (Nx.alloc (o := .lst (ns.map V.int)) h2)
    have n3 := n2.trans (Nx.alloc (o := .lst (ns.map V.int)) hl')
    have n4 := n3.trans (Nx.push (o := .lst [.ref l, .int 0, .int 0, .int (seedOf ns), .int 0]) h3)
    refine q p3 _ n4 (fun b o e => by
      have e2 : upd H p (.lst (ns.map V.int)) b = some o := by rw [upd_ne (ne_of_none e hp)]; exact e
      have e3 : upd (upd H p (.lst (ns.map V.int))) p2 (.lst (ns.map V.int)) b = some o := by rw [upd_ne (ne_of_none e2 h2)]; exact e2
      have e4 : upd (upd (upd H p (.lst (ns.map V.int))) p2 (.lst (ns.map V.int))) l (.lst (ns.map V.int)) b = some o := by rw [upd_ne (ne_of_none e3 hl')]; exact e3
      rw [upd_ne (ne_of_none e4 h3)]
      exact e4) ⟨rfl, by simp, fun n b c e1 e2 => ?_⟩
    match n with
    | 0 =>
      cases e1; cases e2
      refine ⟨_, upd_same, _, _, rfl, ⟨l, _, rfl, ?_, ?_, ints_reps ns⟩, _, _, rfl, rfl, _, _, rfl, rfl, _, _, rfl, rfl, _, _, rfl, rfl, rfl⟩
      · rw [upd_ne (fun z => ?_), upd_same]
        rw [← z, upd_same] at h3
        cases h3
      · intro z
        rw [List.mem_singleton] at z
        rw [← z, upd_same] at h3
        cases h3
    | n + 1 => cases e1
  | some c =>
    have hi := (List.getElem?_eq_some_iff.mp e).1
    refine .inr ⟨⟨_, _, hp', by rw [List.getElem?_map, e]; rfl⟩, fun σ' H' => ∃ v, σ' = [some (.ref a), some (.int ((ns.take (i + 1)).foldl seedF 9458)), v] ∧ H' = upd H p (.lst (ns.map V.int)), fun σ' H' ⟨v, h1, h2⟩ => ⟨_, Nat.sub_lt_sub_left hi (Nat.lt_succ_self i), v, h1, h2, rfl⟩, ?_⟩
    rintro x H' ⟨rfl, f⟩
    have hx := f _ hp'
    rw [List.getElem?_map, e] at hx
    cases hx
    refine ⟨_, rfl, _, _, rfl, rfl, .inr (by decide), _, rfl, _, _, rfl, rfl, (by decide : (0:Int) < 1000003), _, _, rfl, rfl, _, _, rfl, rfl, _, _, rfl, rfl, (by decide : (0:Int) < 2147483647), ?_⟩
    refine ⟨some (.int c), ?_, rfl⟩
    · have et : ns.take (i + 1) = ns.take i ++ [c] := by rw [List.take_add_one, e]; rfl
      rw [et, List.foldl_append]
      rfl
section
variable {P : Program} {w : World} {K : PySem.W.Frag} {mg : Str → Option Value} {base : Heap} {k : Nat} {f fS : Addr} {fd fdS : FuncData} {qual x : Str} {params : Arguments} {body : List Stmt} {scope : Scope} {kws : List (Str × V)} {N ps psS : List Str} {m : MS} {s0 s1 s2 : Str}
theorem start_ok (F : FunD K x qual params body scope [] kws f fd) (S : FnScope [s0, s1, s2] [s0] scope)
    (hb : ∀ (cdv : Value) (A : Around) (outer : List Env) (s : Shared) (H : Hp) (E : XK), Room k (A.deeper (envOfC qual scope s.heap.objs.size f cdv)) →
      PSs (cxOf (L2.CX P w) P w K mg base [s0, s1, s2] qual scope f cdv A outer s H E) body (tStart K)) : FnOk P w K mg base (L2.CX P w) (k + 1) f fd [s0] (spStart K) :=
  FunD.ok F S (fun vs H Q E h => by
    obtain ⟨a, ns, rfl, _⟩ := h
    rfl) (fun cdv A outer s H vs Q E hr h => ⟨_, hb cdv A outer s H E hr, start_sem h⟩)
section
variable {H : Hp} {ρ t : List Addr}
theorem notT {a : Addr} {o : HO} (ht : ∀ b ∈ t, ∃ ps, H b = some (.tbl ps)) (h : H a = some o) (n : ∀ ps, o ≠ .tbl ps) (k : a ∉ ρ) : a ∉ ρ ++ t := fun z => by
  rcases List.mem_append.mp z with z | z
  · exact k z
  · obtain ⟨ps, e⟩ := ht a z
    rw [h] at e
    exact n ps (Option.some.inj e)
mutual
theorem Rep.more (ht : ∀ b ∈ t, ∃ ps, H b = some (.tbl ps)) : ∀ (d : SL.D) (v : V), Rep H ρ d v → Rep H (ρ ++ t) d v
  | .non, v, h => h
  | .bl b, v, h => h
  | .int i, v, h => h
  | .str x, v, h => h
  | .raw u, v, h => h
  | .loc m, v, h => by
    obtain ⟨a, h1, h2⟩ := h
    exact ⟨a, by rw [List.getElem?_append_left (List.getElem?_eq_some_iff.mp h1).1]; exact h1, h2⟩
  | .tup ds, v, h => by
    obtain ⟨a, vs, e, h1, k, h2⟩ := h
    rcases h1 with h1 | ⟨e0, od, h1⟩
    · exact ⟨a, vs, e, .inl h1, notT ht h1 (fun ps z => by cases z) k, Reps.more ht ds vs h2⟩
    · exact ⟨a, vs, e, .inr ⟨e0, od, h1⟩, notT ht h1 (fun ps z => by cases z) k, Reps.more ht ds vs h2⟩
  | .lst ds, v, h => by
    obtain ⟨a, vs, e, h1, k, h2⟩ := h
    exact ⟨a, vs, e, h1, notT ht h1 (fun ps z => by cases z) k, Reps.more ht ds vs h2⟩
  | .dct ks ds, v, h => by
    obtain ⟨a, vs, e, h1, k, l, h2⟩ := h
    rcases h1 with h1 | ⟨od, h1⟩
    · exact ⟨a, vs, e, .inl h1, notT ht h1 (fun ps z => by cases z) k, l, Reps.more ht ds vs h2⟩
    · exact ⟨a, vs, e, .inr ⟨od, h1⟩, notT ht h1 (fun ps z => by cases z) k, l, Reps.more ht ds vs h2⟩
  | .obj C ns ds, v, h => by
    obtain ⟨a, dx, vs, e, h1, k, l, h2⟩ := h
    exact ⟨a, dx, vs, e, h1, notT ht h1 (fun ps z => by cases z) k, l, Reps.more ht ds vs h2⟩
  | .exn a dd ns ds, v, h => by
    obtain ⟨vs, e, h1, k, l, h2⟩ := h
    exact ⟨vs, e, h1, notT ht h1 (fun ps z => by cases z) k, l, Reps.more ht ds vs h2⟩
theorem Reps.more (ht : ∀ b ∈ t, ∃ ps, H b = some (.tbl ps)) : ∀ (ds : List SL.D) (vs : List V), Reps H ρ ds vs → Reps H (ρ ++ t) ds vs
  | [], vs, h => h
  | d :: ds, vs, h => by
    obtain ⟨v, r, e, h1, h2⟩ := h
    exact ⟨v, r, e, Rep.more ht d v h1, Reps.more ht ds r h2⟩
end
end
def tabsS (Ts : List (Addr × Str)) : Store := Ts.map fun t => .tab t.1 t.2
def spLaw (K : PySem.W.Frag) (Ts : List (Addr × Str)) (n : Nat) (m : MS) : Sp := fun vs H Q E => ∃ a ns, vs = [.ref a] ∧ SqL K H a (ns.map V.int) ∧ ns.length ≤ 63 ∧ (∃ S', m (none :: some (.loc 0) :: List.replicate n none) (drawS ns 0 0 (seedOf ns) 0 :: tabsS Ts) = .rt (.bl true) S') ∧
  (Ts.map (·.1)).Nodup ∧ (∀ t ∈ Ts, LamX.TabS H t.1 t.2) ∧ ∀ H', Q (.bl true) H'
end
theorem no_out {P : Program} {w : World} {K : PySem.W.Frag} {mg : Str → Option Value} {base : Heap} {k : Nat} {f : Addr} {fd : FuncData} {ps : List Str} {sp : Sp} (F : FnOk P w K mg base (L2.CX P w) k f fd ps sp)
    (h : ∀ vs H Q E, sp vs H Q E → sp vs H Q (fun _ _ _ => False)) : FnOk P w K mg base CX0 k f fd ps sp := ⟨F.len, fun A outer s H args us vs Q E hr he hb hv hs => codeAny_mono (F.run A outer s H args us vs Q (fun _ _ _ => False) hr he hb hv (h _ _ _ _ hs)) fun r s' q => by
    cases r with
    | error e =>
      obtain ⟨a, B, H', cls, d, _, _, _, _, _, _, _, z⟩ := q
      exact False.elim z
    | ok fl => cases fl <;> exact q⟩
end SL
namespace KL
open PySem PySem.Spec PySem.W PySem.Calls PyProof.Rows
structure KeyS (xn : Str) (params : Arguments) (body : Expr) (scope : Scope) : Prop where
  kind : scope.kind = .function
  co : scope.isCoroutine = false
  gen : scope.isGenerator = false
  cell : ∀ y ∈ scope.names, y.2 ≠ .cell
  free : ∀ y ∈ scope.names, y.2 ≠ .free
  loc : scope.names.lookup xn = some .local
  dbg : (xn == ("__debug__" : Str)) = false
  bind : ∀ (q : Str) (cl : List (Str × Addr)) (pm cv ctv v : Value), bindArgs (kla_fn "<lambda>" q params body scope cl pm cv ctv) ⟨[v], []⟩ = pure [(xn, v)]
section
variable {prog : Program} {w : World} {A : Around} {s : Shared}
end
end KL
namespace KL
open PySem PySem.Spec PyProof.Rows L2 LamX
inductive Grown (P : Addr) (q : Str) (H : Hp) : Hp → Prop where
  | same : Grown P q H H
  | more {ps m : Array Value} {c : Addr} (h : H P = some (.tbl ps)) (n : H c = none) (t : TriplesOk (ps ++ m).toList) (a : ∀ (pos : Pos) (cv : Value), codeAmong pos (ps ++ m).toList = some cv → codeAmong pos ps.toList = some cv ∨ cv = .ref c) : Grown P q H (upd (upd H P (.tbl (ps ++ m))) c (CodeO c q))
theorem Grown.tab {P : Addr} {q : Str} {H H' : Hp} (g : Grown P q H H') (t : TabS H P q) : TabS H' P q := by
  cases g with
  | same => exact t
  | @more ps m c h n t' a =>
    obtain ⟨ps', h1, h2, h3⟩ := t
    rw [h] at h1
    cases h1
    have nC : P ≠ c := ne_of_none h n
    refine ⟨ps ++ m, by rw [upd_ne nC, upd_same], t', fun pos cv hc => ?_⟩
    rcases a pos cv hc with z | z
    · obtain ⟨c0, e1, e2⟩ := h3 pos cv z
      refine ⟨c0, e1, ?_⟩
      rw [upd_ne (ne_of_none e2 n), upd_ne (fun z => by
        rw [z, h] at e2
        exact codeO_ne _ (Option.some.inj e2).symm)]
      exact e2
    · exact ⟨c, z, upd_same⟩
section
variable {X : Cx} {pins : List (Addr × Obj)} {σ : L2.St} {H : Hp} {s : Shared}
theorem lam_make3 {c P : Addr} {params : Arguments} {body : Expr} {scope : Scope} {pos : Pos} {E : Value → Shared → Prop} {Q : Value → Shared → Prop} (I : Inv X pins σ H s) (TB : TabB X.base X.mg c P) (hcode : X.env.code = .ref c)
    (hT : TabS H P (X.env.qual ++ "<lambda>")) (hdef : defaultsOf params X.env = ([], [])) (hfree : ∀ y ∈ scope.names, y.2 = .free → ∃ c, X.env.cells.lookup y.1 = some c)
    (h : ∀ (f c' : Addr) (pm ctv : Value) (H1 : Hp) (s' : Shared), Inv X pins σ H1 s' → Grown P (X.env.qual ++ "<lambda>") H H1 →
      s'.heap.get? f = some (PySem.W.kla_obj "<lambda>" (X.env.qual ++ "<lambda>") params body scope (cloFrom X.env.cells scope.names []) pm c' ctv) → H1 f = none → f ∉ frs X.stack → H1 c' = some (CodeO c' (X.env.qual ++ "<lambda>")) → Q (.ref f) s') :
    wpAny (model X.prog X.w) X.A (eval (.Lambda params body scope pos) X.env) Q E s := by
  obtain ⟨ps, hP, ht, ha⟩ := hT
  refine PySem.W.kla_eval hdef ?_
  have bP : s.heap.BuiltinsAt X.mg P := TB.bm.keeps I.bk
  have hP' : s.heap.get? P = some { cls := .none, data := .fields ps } := I.hok P _ hP
  have nofr : ∀ f, s.heap.objs.size ≤ f → f ∉ frs X.stack := fun f hf z => by
    rcases List.mem_cons.mp (I.stkSub _ z) with e | e
    · have h1 := I.lt
      rw [← e] at h1
      exact Nat.lt_irrefl _ (Nat.lt_of_lt_of_le h1 hf)
    · exact I.nofs hf e
  cases hc : codeAmong pos ps.toList with
  | none =>
    refine PySem.W.kla_makeFunction (mg := X.mg) (c := c) (P := P) (ps := ps) (closure_ok hfree) I.ok.glob (I.mod.glob.keeps I.bk) hcode (TB.code.keeps I.bk) hP' ht hc TB.gP bP fun c' ctv h' tk hx hge hlt hrec htb => ?_
    obtain ⟨c2, oc, vs, t, e2, hoc, hd, hv⟩ := hrec
    cases e2
    have hsz : s.heap.objs.size ≤ h'.objs.size := Nat.le_trans hge (Nat.le_of_lt hlt)
    have nC : H c' = none := I.hok.fresh hge
    have I1 := inv_table (t' := tk) (more := #[rawInt pos.line, rawInt pos.col, .ref c']) (h' := h'.push (PySem.W.kla_obj "<lambda>" (X.env.qual ++ "<lambda>") params body scope (cloFrom X.env.cells scope.names []) ((X.mg "__name__").getD .none) c' ctv)) I hP
      (fun b o hb e => Heap.get?_push_of_some _ (hx b o hb e)) (Heap.get?_push_of_some _ htb) hge ⟨oc, vs, t, Heap.get?_push_of_some _ hoc, hd, hv⟩
    have eL : (ps ++ #[rawInt pos.line, rawInt pos.col, .ref c']).toList = ps.toList ++ [rawInt pos.line, rawInt pos.col, .ref c'] := by simp
    refine h h'.objs.size c' ((X.mg "__name__").getD .none) ctv _ _ I1 (.more hP nC (by rw [eL]; exact PySem.TriplesOk_snoc _ _ _ _ ht) fun p' cv hcv => ?_) (Heap.get?_push_size _ rfl) ?_ (nofr _ hsz) upd_same
    · rw [eL] at hcv
      exact among_app _ ht hcv
    · have n1 : h'.objs.size ≠ c' := Nat.ne_of_gt hlt
      have n2 : h'.objs.size ≠ P := Nat.ne_of_gt (Nat.lt_of_lt_of_le (Heap.lt_size hP') hsz)
      rw [upd_ne n1, upd_ne n2]
      exact I.hok.fresh hsz
  | some cv =>
    obtain ⟨c', e, hco⟩ := ha pos cv hc
    subst e
    refine PySem.W.kla_makeFunctionHit (mg := X.mg) (c := c) (P := P) (ps := ps) (closure_ok hfree) I.ok.glob (I.mod.glob.keeps I.bk) hcode (TB.code.keeps I.bk) hP' ht hc bP fun ctv h' tk hx hsz => ?_
    have I1 : Inv X pins σ H { s with heap := h'.push (PySem.W.kla_obj "<lambda>" (X.env.qual ++ "<lambda>") params body scope (cloFrom X.env.cells scope.names []) ((X.mg "__name__").getD .none) c' ctv), toks := tk } := I.kept fun b o e => Heap.get?_push_of_some _ (hx b o e)
    exact h h'.objs.size c' ((X.mg "__name__").getD .none) ctv H _ I1 .same (Heap.get?_push_size _ rfl) (I.hok.fresh hsz) (nofr _ hsz) hco
def keyD (x : Str) : PyData := .tuple [.str (Txt.lower x), .str x]
def sortKey (xs : List Str) : List Str := xs.mergeSort (PySem.W.dataLe false keyD)
end
end KL
namespace SL
open PySem PySem.Spec L2
open PyProof.Rows hiding St
section
variable {prog : Program} {w : World} {A : Around} {E : Value → Shared → Prop} {s : Shared}
end
section
variable {X : Cx} {W : WX} {es : List Expr} {e : Expr} {t : TGs} {k x1 : Nat} {pos pos' : Pos} {me : ME}
end
section
variable {X : Cx} {W : WX} {e v1 v2 : Expr} {es rest : List Expr} {me : ME} {ms : List ME} {pos : Pos}
def fmtG (d : D) : Option D := match d with
  | .str l => if l.length ≤ 1000000 then some (.str l) else none
  | .int i => if i.natAbs.log2 < 1920 then some (.str (strI i)) else none
  | _ => none
def fmtM (me : ME) : ME := fun δ S => (me δ S).bind fun d S1 => RO (fmtG d) S1
end
section
variable {X : Cx} {W : WX} {e : Expr} {es : List Expr} {ms mk : MA} {p pos : Pos} {x : Str} {kws : List Keyword}
theorem vals_pt : ∀ {xs : List V} {us : List Value}, xs.length = us.length → (∀ (j : Nat) (x : V) (u : Value), xs[j]? = some x → us[j]? = some u → RelV x u) → Vals xs us
  | [], [], _, _ => .nil
  | [], _ :: _, h, _ => by cases h
  | _ :: _, [], h, _ => by cases h
  | x :: xs, u :: us, h, r => .cons (r 0 x u rfl rfl) (vals_pt (by simpa using h) fun j x' u' h1 h2 => r (j + 1) x' u' (by simpa using h1) (by simpa using h2))
def sgD (l : List Nat) : List D := l.map fun c => D.str [c]
def sgV (l : List Nat) : List V := l.map fun c => V.str ⟨#[c]⟩
theorem sg_reps {H : Hp} {ρ : List Addr} : ∀ l : List Nat, Reps H ρ (sgD l) (sgV l)
  | [] => Reps.nil
  | c :: l => Reps.cons (show Rep H ρ (.str [c]) (.str ⟨#[c]⟩) from rfl) (sg_reps l)
def rLsg : List V → Hp → VK → Prop := fun xs H Q => ∃ l : List Nat, xs = [.str ⟨l.toArray⟩] ∧ l.length ≤ 1000000 ∧ ∀ p, H p = none → Q (.ref p) (upd H p (.lst (sgV l)))
theorem call_list_sg (hc : X.calm = true) : CallR X (.type "list") rLsg := by
  intro pins s σ H xs us Q I r h
  obtain ⟨l, rfl, hl, q⟩ := h
  obtain ⟨u, rfl, rx⟩ := vals1 r
  obtain ⟨t, rfl⟩ := rx
  have hz : l.length ≤ sizeLine := sz6 hl
  refine call_list_str (I.ok.hd hc) _ t (fun h' tk acc' c' hk hS ha => ?_) (by simpa using hz)
  refine ⟨.ref s.heap.objs.size, _, I.laid (t' := tk) hk (Nat.le_refl _) (show ObjOk X.prog X.w _ h' _ (.lst (sgV l)) from ⟨by unfold sgV; rw [List.length_map]; exact hz, acc'.toList, c', ?_, by simpa using hS⟩), rfl, q _ (I.hok.fresh (Nat.le_refl _))⟩
  refine vals_pt (by unfold sgV; rw [List.length_map]; exact ha.1.symm) fun j x u h1 h2 => ?_
  obtain ⟨c, t', hc', rfl⟩ := ha.2 j u (by simpa using h2)
  unfold sgV at h1
  rw [List.getElem?_map] at h1
  have hc2 : l[j]? = some c := by simpa using hc'
  rw [hc2] at h1
  cases h1
  exact ⟨t', rfl⟩
def rList2 (K : PySem.W.Frag) : List V → Hp → VK → Prop := fun xs H Q => (∃ p ys, xs = [.ref p] ∧ (SqL K H p ys ∨ SqT K H p ys) ∧ ∀ l, H l = none → Q (.ref l) (upd H l (.lst ys))) ∨ rLsg xs H Q
theorem call_list2 (hc : X.calm = true) : CallR X (.type "list") (rList2 X.K) := CallR.or call_list_of (call_list_sg hc)
def list2G (S : Store) (xs : List D) : Option D := match xs with
  | [.str l] => if l.length ≤ 1000000 then some (.lst (sgD l)) else none
  | xs => listG S xs
theorem snd_list2 {K : PySem.W.Frag} : CaSnd (rList2 K) list2G := by
  intro H ρ S xs z vs Q st rs e k
  unfold list2G at e
  split at e
  · obtain ⟨v, us, rfl, rx, ru⟩ := rs
    split at e
    · rename_i l hl
      cases ru; cases e; cases rx
      exact .inr ⟨l, rfl, hl, fun p hp => KD.lst k st (sg_reps l) hp⟩
    · cases e
  · exact .inl (snd_list H ρ S _ z vs Q st rs e k)
def rMaxDf (K : PySem.W.Frag) : List V → List V → Hp → VK → Prop := fun vs zs H Q => ∃ (a : Addr) (ns : List Int) (d : Int), vs = [V.ref a] ∧ zs = [V.int d] ∧ SqL K H a (ns.map V.int) ∧ (ns = [] → Q (.int d) H) ∧ ∀ y ys, ns = y :: ys → Q (.int (PySem.W.maxOf y ys)) H
theorem cr_maxDf (hc : X.calm = true) (hu : X.A.units + 64 < cLine) : CallRK X (.builtin "max") [Str.ofString "default"] (rMaxDf X.K) := by
  intro pins s σ H vs zs us ws Q I r rz h
  obtain ⟨a, ns, d, rfl, rfl, hs, q0, q⟩ := h
  obtain ⟨its, rv, hl, _⟩ := I.list hs
  obtain rfl := Vals.ref1 r
  obtain ⟨w1, rfl, t1, rfl⟩ := vals1 rz
  refine PySem.W.max_list_datum_default (α := Int) (I.ok.hd hc) hl.isList (PySem.W.HoldAll.of_ints rv.ints) (by show _ + 1 + 0 < _; omega) (fun e h' tk hk => ⟨.int d, H, I.kept hk, ⟨_, rfl⟩, q0 e⟩) fun y ys i v h' tk e _ hv hk => ?_
  obtain ⟨t, rfl⟩ := PySem.W.int_of_holds hv
  exact ⟨.int _, H, I.kept hk, ⟨t, rfl⟩, q y ys e⟩
def maxI : List Int → Int → Int
  | [], d => d
  | y :: ys, _ => PySem.W.maxOf y ys
def maxDfG (S : Store) (xs zs : List D) : Option D := match xs, zs with
  | [x], [.int d] => match asL S x with
    | some ds => match asIs ds with
      | some ns => some (.int (maxI ns d))
      | none => none
    | none => none
  | _, _ => none
def callKG (g : Store → List D → List D → Option D) (ms mk : MA) : ME := fun δ S => (ms δ S).bind fun xs S1 => (mk δ S1).bind fun zs S2 => RO (g S2 xs zs) S2
theorem pd_maxDf (hc : X.calm = true) (hu : X.A.units + 64 < cLine) (hm : X.mg x = none) (ha : PA X (e :: es) (tA W ms)) (hk : PK X kws (tA W mk)) (hg : Gl X x := by rfl) (hv : bootBuiltins x = some (.builtin "max") := by decide +kernel)
    (hn : x ≠ "__name__" := by decide) (hdb : (x == ("__debug__" : Str)) = false := by decide)
    (he : backTo pos (starEach (e :: es) X.env) = (false, eval e X.env) :: backTo pos (starEach es X.env) := by rfl) (hpl : (backTo pos (starEach (e :: es) X.env)).any (·.1) = false := by rfl)
    (hall : (backToKw pos (keywordEach kws X.env)).all (·.1.isSome) = true := by rfl) (hnone : (backToKw pos (keywordEach kws X.env)).any (·.1.isNone) = false := by rfl) (hks : (backToKw pos (keywordEach kws X.env)).filterMap (·.1) = [Str.ofString "default"] := by rfl) :
    PE X (.Call (.Name x p) (e :: es) kws pos) (tE W (callKG maxDfG ms mk)) := PE.weak (pe_callBK (cr_maxDf hc hu) hg hm hv ha hk hn hdb he hpl hall hnone hks) fun σ H Q h => by
  obtain ⟨δ, S, ρ, I, h⟩ := h
  refine bindG I h fun xs vs S1 H1 ρ1 n1 I1 r1 h1 => ?_
  refine bindG I1 h1 fun zs us S2 H2 ρ2 n2 I2 r2 h2 => ?_
  obtain ⟨z, e, k⟩ := h2.ro
  have r1 := Reps.mono n2 _ _ r1
  unfold maxDfG at e
  split at e
  · obtain ⟨v, _, rfl, rx, ru⟩ := r1
    obtain ⟨v2, _, rfl, rx2, ru2⟩ := r2
    cases ru; cases ru2; cases rx2
    split at e
    · rename_i ds ed
      split at e
      · rename_i ns en
        cases e
        obtain ⟨a, vs, rfl, h1, r1⟩ := asL_rep I2.st rx ed
        have := asIs_rep r1 en
        subst this
        have kk := k _ H2 ρ2 (Nx.refl _ _) I2.st rfl
        exact ⟨a, ns, _, rfl, rfl, .inl (.inl h1), fun e => by subst e; exact kk, fun y ys e => by subst e; exact kk⟩
      · cases e
    · cases e
  · cases e
end
def TabAt (S : Store) (P : Addr) (q : Str) : Prop := ∃ (n : Nat) (c : Cell), S[n]? = some c ∧ (c = .tab P q ∨ ∃ es, c = .emp P q es)
theorem TabAt.tab {S : Store} {P : Addr} {q : Str} {n : Nat} (h : S[n]? = some (.tab P q)) : TabAt S P q := ⟨n, _, h, .inl rfl⟩
theorem TabAt.emp {S : Store} {P : Addr} {q : Str} {n : Nat} {es : List Addr} (h : S[n]? = some (.emp P q es)) : TabAt S P q := ⟨n, _, h, .inr ⟨es, rfl⟩⟩
theorem TabAt.app {S g : Store} {P : Addr} {q : Str} (h : TabAt S P q) : TabAt (S ++ g) P q := by
  obtain ⟨n, c, e, k⟩ := h
  exact ⟨n, c, by rw [List.getElem?_append_left (List.getElem?_eq_some_iff.mp e).1]; exact e, k⟩
def sortKL (xs : List (List Nat)) : List (List Nat) := (KL.sortKey (xs.map sOf)).map fun s => s.cps.toList
open Classical in
/-- sorted(e, key=lambda x: (x.lower(), x)) -/
noncomputable def sortKM (P : Addr) (q : Str) (me : ME) : ME := fun δ S => (me δ S).bind fun d S1 => match asL S1 d with
  | some ds => match asSs ds with
    | some ls => if TabAt S1 P q ∧ ls.length ≤ 100000 ∧ ∀ l ∈ ls, l.length ≤ 1000000 then .ok (.lst ((sortKL ls).map D.str)) S1 else .stuck
    | none => .stuck
  | none => .stuck
section
variable {X : Cx} {W : WX} {H H' : Hp} {ρ : List Addr} {S : Store} {P : Addr} {q : Str}
theorem RepC.tabR {a : Addr} {c : Cell} (hc : c = .tab P q ∨ ∃ es, c = .emp P q es) (h : RepC H ρ a c) : TabR H ρ a P q := by
  rcases hc with rfl | ⟨es, rfl⟩
  · exact h
  · exact h.1
theorem StS.grownC (st : StS H S ρ) {n : Nat} {c0 : Cell} (hn : S[n]? = some c0) (hc : c0 = .tab P q ∨ ∃ es, c0 = .emp P q es) (g : KL.Grown P q H H') : StS H' S ρ ∧ Nx H ρ H' ρ := by
  have hP : ρ[n]? = some P := by
    have hl : n < ρ.length := by rw [st.len]; exact (List.getElem?_eq_some_iff.mp hn).1
    have e := List.getElem?_eq_getElem hl
    obtain ⟨h0, _⟩ := (st.cells n _ _ e hn).tabR hc
    rw [e, h0]
  cases g with
  | same => exact ⟨st, Nx.refl _ _⟩
  | @more ps m c h nC t a =>
    have hm : P ∈ ρ := List.mem_of_getElem? hP
    have n1 : Nx H ρ (upd H P (.tbl (ps ++ m))) ρ := Nx.set hm (by rw [h]; simp)
    have nPc : P ≠ c := ne_of_none h nC
    have nC1 : upd H P (.tbl (ps ++ m)) c = none := by rw [upd_ne (fun z => nPc z.symm)]; exact nC
    have n2 := n1.trans (Nx.alloc (o := LamX.CodeO c q) nC1)
    refine ⟨⟨st.len, st.nd, fun i b cl e1 e2 => ?_⟩, n2⟩
    have hb := st.cells i b cl e1 e2
    have hbc : b ≠ c := fun z => by
      have := hb.ne
      rw [z] at this
      exact this nC
    by_cases hbP : b = P
    · subst hbP
      have : i = n := by
        have hi := (List.getElem?_eq_some_iff.mp e1).1
        have hn' := (List.getElem?_eq_some_iff.mp hP).1
        exact (List.getElem_inj st.nd).mp (by rw [(List.getElem?_eq_some_iff.mp e1).2, (List.getElem?_eq_some_iff.mp hP).2])
      subst this
      rw [hn] at e2
      cases e2
      have key : TabR (upd (upd H b (.tbl (ps ++ m))) c (LamX.CodeO c q)) ρ b b q := by
        obtain ⟨h0, ps', h1, h2, h3⟩ := hb.tabR hc
        rw [h] at h1
        cases h1
        refine ⟨rfl, ps ++ m, by rw [upd_ne nPc, upd_same], t, fun pos cv hc => ?_⟩
        rcases a pos cv hc with z | z
        · obtain ⟨c0, e1', e2', e3'⟩ := h3 pos cv z
          exact ⟨c0, e1', n2.stay c0 _ e2' e3' fun ps => LamX.codeO_ne ps, e3'⟩
        · exact ⟨c, z, upd_same, fun z => st.trk z nC⟩
      rcases hc with rfl | ⟨es, rfl⟩
      · exact key
      · refine ⟨key, fun x hx => ?_⟩
        obtain ⟨⟨ob, h1⟩, h2⟩ := hb.2 x hx
        exact ⟨⟨ob, n2.stay x _ h1 h2 fun ps z => by cases z⟩, h2⟩
    · exact hb.mono n2 (by rw [upd_ne hbc, upd_ne hbP])
theorem StS.grown (st : StS H S ρ) {n : Nat} (hn : S[n]? = some (.tab P q)) (g : KL.Grown P q H H') : StS H' S ρ ∧ Nx H ρ H' ρ := st.grownC hn (.inl rfl) g
theorem tab_ofC (st : StS H S ρ) {n : Nat} {c0 : Cell} (hn : S[n]? = some c0) (hc : c0 = .tab P q ∨ ∃ es, c0 = .emp P q es) : LamX.TabS H P q := by
  have hl : n < ρ.length := by rw [st.len]; exact (List.getElem?_eq_some_iff.mp hn).1
  obtain ⟨h0, ps, h1, h2, h3⟩ := (st.cells n _ _ (List.getElem?_eq_getElem hl) hn).tabR hc
  rw [h0] at h1
  exact ⟨ps, h1, h2, fun pos cv hc => by
    obtain ⟨c, e1, e2, _⟩ := h3 pos cv hc
    exact ⟨c, e1, e2⟩⟩
theorem tab_of (st : StS H S ρ) {n : Nat} (hn : S[n]? = some (.tab P q)) : LamX.TabS H P q := tab_ofC st hn (.inl rfl)
theorem strs_map : ∀ {ds : List D} {ls : List (List Nat)} {vs : List V}, asSs ds = some ls → Reps H ρ ds vs → vs = (ls.map sOf).map V.str
  | [], ls, vs, h, r => by cases h; cases r; rfl
  | d :: ds, ls, vs, h, r => by
    obtain ⟨v, us, rfl, r1, r2⟩ := r
    cases d with
    | str l =>
      simp only [asSs] at h
      split at h
      · rename_i bs e
        cases h
        cases r1
        rw [strs_map e r2]
        rfl
      · cases h
    | _ => cases h
end
def leL (a b : List Nat) : Bool := !decide (b < a)
def sortT (ls : List (List Nat)) : List (List Nat) := ls.mergeSort leL
def sortedG (S : Store) (xs : List D) : Option D := match xs with
  | [x] => match asQ S x with
    | some ds => match asSs ds with
      | some ls => some (.lst ((sortT ls).map D.str))
      | none => none
    | none => none
  | _ => none
def list3G (S : Store) (xs : List D) : Option D := match list2G S xs with
  | some d => some d
  | none => match xs with
    | [x] => match asDct S x with
      | some (ks, _) => some (.lst (ks.map kD))
      | none => none
    | _ => none
def rList3 (K : PySem.W.Frag) : List V → Hp → VK → Prop := fun xs H Q => rList2 K xs H Q ∨ ∃ (a : Addr) (kvs : List (Key × V)), xs = [.ref a] ∧ Rd H a (.dK kvs) ∧ ∀ p, H p = none → Q (.ref p) (upd H p (.lst (kvs.map fun kv => kV kv.1)))
theorem call_list3 {X : Cx} (hc : X.calm = true) : CallR X (.type "list") (rList3 X.K) := CallR.or (call_list2 hc) (call_listD hc)
theorem kDs_rep {H : Hp} {ρ : List Addr} : ∀ ks : List Key, Reps H ρ (ks.map kD) (ks.map kV)
  | [] => rfl
  | k :: ks => ⟨_, _, rfl, kD_rep k, kDs_rep ks⟩
theorem zip_keys {α : Type} : ∀ {ks : List Key} {vs : List α}, ks.length = vs.length → (ks.zip vs).map (fun kv => kV kv.1) = ks.map kV
  | [], _, _ => by simp
  | _ :: _, [], h => by cases h
  | k :: ks, v :: vs, h => by
    rw [List.zip_cons_cons, List.map_cons, List.map_cons, zip_keys (by simpa using h)]
theorem snd_list3 {K : PySem.W.Frag} : CaSnd (rList3 K) list3G := by
  intro H ρ S xs z vs Q st rs e k
  unfold list3G at e
  split at e
  · rename_i d ed
    cases e
    exact .inl (snd_list2 H ρ S xs _ vs Q st rs ed k)
  · split at e
    · rename_i x
      split at e
      · rename_i ks ds ed
        cases e
        obtain ⟨v, us, rfl, rx, ru⟩ := rs
        cases ru
        obtain ⟨a, vs, rfl, h1, l, r1⟩ := asDct_rep st rx ed
        refine .inr ⟨a, _, rfl, h1, fun p hp => ?_⟩
        rw [zip_keys (by rw [l, r1.len])]
        exact KD.lst k st (kDs_rep ks) hp
      · cases e
    · cases e
section
variable {X : Cx} {W : WX} {e o i value : Expr} {es : List Expr} {ms : MA} {me mo mi mv : ME} {x : Str} {p pos pos' : Pos}
def replL {α : Type} (k : Key) (v : α) : List Key → List α → List α
  | q :: ks, x :: xs => (if q = k then v else x) :: replL k v ks xs
  | _, _ => []
def putD {α : Type} (ks : List Key) (xs : List α) (k : Key) (v : α) : List Key × List α := if memK ks k = true then (ks, replL k v ks xs) else (ks ++ [k], xs ++ [v])
theorem replL_len {α : Type} {k : Key} {v : α} : ∀ {ks : List Key} {xs : List α}, ks.length = xs.length → (replL k v ks xs).length = ks.length
  | [], _, _ => rfl
  | _ :: _, [], h => by cases h
  | q :: ks, x :: xs, h => by simp [replL, replL_len (k := k) (v := v) (ks := ks) (xs := xs) (by simpa using h)]
theorem zip_repl {k : Key} {v : V} : ∀ {ks : List Key} {xs : List V}, ks.length = xs.length → (ks.zip xs).map (fun kv => if kv.1 = k then (kv.1, v) else kv) = ks.zip (replL k v ks xs)
  | [], _, _ => by simp
  | _ :: _, [], h => by cases h
  | q :: ks, x :: xs, h => by
    rw [List.zip_cons_cons, List.map_cons, zip_repl (by simpa using h), replL, List.zip_cons_cons]
    by_cases e : q = k
    · simp [e]
    · simp [e]
theorem zip_any {α : Type} {k : Key} : ∀ {ks : List Key} {xs : List α}, ks.length = xs.length → (ks.zip xs).any (fun kv => decide (kv.1 = k)) = memK ks k
  | [], _, _ => by simp [memK]
  | _ :: _, [], h => by cases h
  | q :: ks, x :: xs, h => by
    rw [List.zip_cons_cons, List.any_cons, zip_any (by simpa using h)]
    simp [memK]
theorem zip_app {ks : List Key} {xs : List V} {k : Key} {v : V} (h : ks.length = xs.length) : ks.zip xs ++ [(k, v)] = (ks ++ [k]).zip (xs ++ [v]) := by
  rw [List.zip_append h]
  rfl
theorem putD_zip {ks : List Key} {xs : List V} {k : Key} {v : V} (h : ks.length = xs.length) : putK (ks.zip xs) k v = (putD ks xs k v).1.zip (putD ks xs k v).2 := by
  unfold putK putD
  rw [zip_any h, zip_repl h, zip_app h]
  by_cases e : memK ks k = true
  · rw [if_pos e, if_pos e]
  · rw [if_neg e, if_neg e]
theorem putD_len {α : Type} {ks : List Key} {xs : List α} {k : Key} {v : α} (h : ks.length = xs.length) : (putD ks xs k v).1.length = (putD ks xs k v).2.length := by
  unfold putD
  split
  · rw [replL_len h]
  · simp [h]
theorem Reps.repl {H : Hp} {ρ : List Addr} {k : Key} {d : D} {v : V} (r : Rep H ρ d v) : ∀ {ks : List Key} {ds : List D} {vs : List V}, Reps H ρ ds vs → Reps H ρ (replL k d ks ds) (replL k v ks vs)
  | [], _, _, _ => by simp [replL, Reps]
  | _ :: _, [], vs, h => by cases h; simp [replL, Reps]
  | q :: ks, x :: ds, vs, h => by
    obtain ⟨u, us, rfl, h1, h2⟩ := h
    unfold replL
    refine Reps.cons ?_ (Reps.repl r h2)
    split
    · exact r
    · exact h1
theorem Reps.putD {H : Hp} {ρ : List Addr} {ks : List Key} {k : Key} {d : D} {v : V} {ds : List D} {vs : List V} (r : Rep H ρ d v) (h : Reps H ρ ds vs) : (SL.putD ks ds k d).1 = (SL.putD ks vs k v).1 ∧ Reps H ρ (SL.putD ks ds k d).2 (SL.putD ks vs k v).2 := by
  unfold SL.putD
  split
  · exact ⟨rfl, Reps.repl r h⟩
  · exact ⟨rfl, h.append (Reps.one r)⟩
def locD (S : Store) : D → Option (Nat × List Key × List D)
  | .loc n => match S[n]? with
    | some (.dct ks ds) => some (n, ks, ds)
    | _ => none
  | _ => none
def setXM (mo mi mv : ME) : MS := fun δ S => bindS (mv δ S) δ fun d S1 => bindS (mo δ S1) δ fun x S2 => bindS (mi δ S2) δ fun y S3 => match locL S3 x with
  | some (n, ds) => match setG ds y d with
    | some es => .nx δ (S3.set n (.lst es))
    | none => .stuck
  | none => match locD S3 x, keyD y with
    | some (n, ks, ds), some k => if ks.length < 1000000 then .nx δ (S3.set n (.dct (putD ks ds k d).1 (putD ks ds k d).2)) else .stuck
    | _, _ => .stuck
theorem pset_or {r r2 : TSet} (a : PSet X r) (b : PSet X r2) : PSet X (fun o i v H Q => r o i v H Q ∨ r2 o i v H Q) := by
  intro pins s σ H o i v ov iv u Q I ro ri rv h
  rcases h with h | h
  · exact a pins s σ H o i v ov iv u Q I ro ri rv h
  · exact b pins s σ H o i v ov iv u Q I ro ri rv h
theorem ps_dsetx (hu : X.A.units + 64 < cLine) (ho : PE X o (tE W mo)) (hi : PE X i (tE W mi)) (hv : PE X value (tE W mv))
    (ha : ∀ v, assign (.Subscript o i pos') X.env v = (do
      let ov ← holding [v] (eval o X.env)
      let iv ← holding [v, ov] (eval i X.env)
      standAt pos'
      holding [v, ov, iv] (setItem ov iv v)
      release [v, ov, iv] []) := by intro _; rfl) (hs : swapsWithSole [.Subscript o i pos'] value pos.line X.env = pure false := by rfl) (hw : swappedStores [.Subscript o i pos'] value X.env = pure none := by rfl)
    (h1 : (assignEach [.Subscript o i pos'] X.env).map (·.2) = [assign (.Subscript o i pos') X.env] := by rfl) : PS X (.Assign [.Subscript o i pos'] value pos) (tS W (setXM mo mi mv)) :=
  PS.weak (ps_asg hv (pg_sub ho hi (pset_or set_list (set_dict (by omega))) ha) hs hw h1) fun G σ H h => by
    obtain ⟨δ, S, ρ, I, h⟩ := h
    refine bindGF I h fun d v S1 H1 ρ1 n1 I1 r1 h1 => ?_
    refine bindGF I1 h1 fun x u S2 H2 ρ2 n2 I2 r2 h2 => ?_
    refine bindGF I2 h2 fun y w S3 H3 ρ3 n3 I3 r3 h3 => ?_
    split at h3
    · rename_i n ds el
      obtain ⟨rfl, ec, aa, vs, rfl, ea, hH, rv⟩ := locL_rep I3.st (Rep.mono n3 _ _ r2) el
      unfold setG at h3
      split at h3
      · rename_i es eg
        split at eg
        · rename_i kk
          split at eg
          · rename_i jj ej
            cases eg
            cases r3
            have hm : aa ∈ ρ3 := List.mem_of_getElem? ea
            have rd := Rep.mono (n2.trans n3) _ _ r1
            have rs := Reps.set jj rv rd
            have nx : Nx H3 ρ3 (upd H3 aa (.lst (vs.set jj v))) ρ3 := Nx.set hm (by rw [hH]; simp)
            have st3 := I3.st.set (o := .lst (vs.set jj v)) (c := .lst (ds.set jj d)) ea ⟨_, upd_same, Reps.mono nx _ _ rs⟩
            exact .inl ⟨aa, vs, kk, jj, rfl, rfl, hH, by rw [← rv.len]; exact ej, h3 σ _ ρ3 nx ⟨st3, I3.env.mono nx⟩⟩
          · cases eg
        · cases eg
      · exact False.elim h3
    · split at h3
      · rename_i n ks ds k el ek
        split at h3
        · rename_i hl
          cases x with
          | loc m =>
            simp only [locD] at el
            split at el
            · rename_i ks' ds' ec
              cases el
              obtain ⟨aa, ea, rfl⟩ := Rep.mono n3 _ _ r2
              obtain ⟨vs, hH, l, rv⟩ := I3.st.cells _ aa _ ea ec
              have ey := keyD_rep r3 ek
              subst ey
              have hm : aa ∈ ρ3 := List.mem_of_getElem? ea
              have rd := Rep.mono (n2.trans n3) _ _ r1
              have lv : ks.length = vs.length := by rw [l, rv.len]
              obtain ⟨e1, rs⟩ := Reps.putD (ks := ks) (k := k) rd rv
              have nx : Nx H3 ρ3 (upd H3 aa (.dK (putK (ks.zip vs) k v))) ρ3 := Nx.set hm (by rw [hH]; simp)
              have st3 := I3.st.set (o := .dK (putK (ks.zip vs) k v)) (c := .dct (SL.putD ks ds k d).1 (SL.putD ks ds k d).2) ea ⟨_, by rw [upd_same, putD_zip lv, ← e1], putD_len l, Reps.mono nx _ _ rs⟩
              exact .inr ⟨aa, _, rfl, DPut.k hH (by rw [zip_len lv]; exact Nat.lt_of_lt_of_le hl (by decide)), h3 σ _ ρ3 nx ⟨st3, I3.env.mono nx⟩⟩
            · cases el
          | _ => cases el
        · exact False.elim h3
      · exact False.elim h3
end
abbrev RepP : Hp → List Addr → List (D × D) → List (V × V) → Prop := fun H ρ xs vs => Reps H ρ (xs.map (·.1)) (vs.map (·.1)) ∧ Reps H ρ (xs.map (·.2)) (vs.map (·.2))
theorem RepP.mono {H H' : Hp} {ρ ρ' : List Addr} {xs : List (D × D)} {vs : List (V × V)} (n : Nx H ρ H' ρ') (r : RepP H ρ xs vs) : RepP H' ρ' xs vs := ⟨Reps.mono n _ _ r.1, Reps.mono n _ _ r.2⟩
section
variable {X : Cx} {W : WX} {pos : Pos}
def dnewM : ME := fun _ S => .ok (.loc S.length) (S ++ [.dct [] []])
theorem pd_dnew : PE X (.Dict [] [] pos) (tE W dnewM) := PE.weak pe_dnewK fun σ H Q h => by
  obtain ⟨δ, S, ρ, I, h⟩ := h
  intro p hp
  exact RunG.okN h (Nx.push hp) (I.st.push hp ⟨[], by rw [upd_same]; rfl, rfl, Reps.nil⟩) ⟨p, by rw [← I.st.len]; simp, rfl⟩
end
section
variable {X : Cx} {W : WX}
variable {kx vx tge iter : Expr} {ifs : List Expr} {scope : Scope} {own : List (Str × Nat)} {pos : Pos} {mi : DEnv → Store → Res Src} {tg : Tg} {tst : MB} {ke ve : ME}
def kndD (kvs : List (Key × V)) (u : HO) : Prop := u = .dK kvs ∨ ∃ o, u = .frz o (.dK kvs)
section
variable {H : Hp} {ρ : List Addr} {a : Addr} {u u' : HO} {kvs : List (Key × V)}
theorem kndD.ne (k : kndD kvs u) {o : HO} (e : H a = some u) {b : Addr} (hb : H b = some o) (h1 : ∀ q, o ≠ .dK q) (h2 : ∀ q z, o ≠ .frz q z) : b ≠ a := fun z => by
  rw [z, e] at hb
  cases hb
  rcases k with rfl | ⟨q, rfl⟩
  · exact h1 _ rfl
  · exact h2 _ _ rfl
theorem kndD.neT (k : kndD kvs u) (e : H a = some u) {b : Addr} {ob : Obj} {vs : List V} (hb : H b = some (.frz ob (.tup vs))) : b ≠ a := fun z => by
  rw [z, e] at hb
  cases hb
  rcases k with k | ⟨q, k⟩ <;> cases k
mutual
theorem Rep.swap (k : kndD kvs u) (k' : kndD kvs u') (e : H a = some u) : ∀ (d : D) (v : V), Rep H ρ d v → Rep (upd H a u') ρ d v
  | .non, v, h => h
  | .bl b, v, h => h
  | .int i, v, h => h
  | .str x, v, h => h
  | .raw w, v, h => h
  | .loc m, v, h => h
  | .tup ds, v, h => by
    obtain ⟨b, vs, e0, h1, k0, h2⟩ := h
    rcases h1 with h1 | ⟨en, od, h1⟩
    · exact ⟨b, vs, e0, .inl (by rw [upd_ne (kndD.ne k e h1 (fun q z => by cases z) (fun q w z => by cases z))]; exact h1), k0, Reps.swap k k' e ds vs h2⟩
    · exact ⟨b, vs, e0, .inr ⟨en, od, by rw [upd_ne (kndD.neT k e h1)]; exact h1⟩, k0, Reps.swap k k' e ds vs h2⟩
  | .lst ds, v, h => by
    obtain ⟨b, vs, e0, h1, k0, h2⟩ := h
    exact ⟨b, vs, e0, by rw [upd_ne (kndD.ne k e h1 (fun q z => by cases z) (fun q w z => by cases z))]; exact h1, k0, Reps.swap k k' e ds vs h2⟩
  | .dct ks ds, v, h => by
    obtain ⟨b, vs, e0, h1, k0, l, h2⟩ := h
    refine ⟨b, vs, e0, ?_, k0, l, Reps.swap k k' e ds vs h2⟩
    by_cases hb : b = a
    · subst hb
      have ek : ks.zip vs = kvs := by
        rcases h1 with h1 | ⟨o, h1⟩ <;> rw [e] at h1 <;> cases h1 <;> rcases k with k | ⟨q, k⟩ <;> cases k <;> rfl
      rw [ek]
      rcases k' with rfl | ⟨q, rfl⟩
      · exact .inl upd_same
      · exact .inr ⟨q, upd_same⟩
    · unfold Rd at h1 ⊢
      rw [upd_ne hb]
      exact h1
  | .obj C ns ds, v, h => by
    obtain ⟨b, dx, vs, e0, h1, k0, l, h2⟩ := h
    exact ⟨b, dx, vs, e0, by rw [upd_ne (kndD.ne k e h1 (fun q z => by cases z) (fun q w z => by cases z))]; exact h1, k0, l, Reps.swap k k' e ds vs h2⟩
  | .exn c dd ns ds, v, h => by
    obtain ⟨vs, e0, h1, k0, l, h2⟩ := h
    exact ⟨vs, e0, by rw [upd_ne (kndD.ne k e h1 (fun q z => by cases z) (fun q w z => by cases z))]; exact h1, k0, l, Reps.swap k k' e ds vs h2⟩
theorem Reps.swap (k : kndD kvs u) (k' : kndD kvs u') (e : H a = some u) : ∀ (ds : List D) (vs : List V), Reps H ρ ds vs → Reps (upd H a u') ρ ds vs
  | [], vs, h => h
  | d :: ds, vs, h => by
    obtain ⟨v, r, e0, h1, h2⟩ := h
    exact ⟨v, r, e0, Rep.swap k k' e d v h1, Reps.swap k k' e ds r h2⟩
end
theorem TabR.swap {b P : Addr} {q : Str} (k : kndD kvs u) (e : H a = some u) (ne : b ≠ a) (hb : TabR H ρ b P q) : TabR (upd H a u') ρ b P q := by
  obtain ⟨h0, ps, h1, h2, h3⟩ := hb
  refine ⟨h0, ps, by rw [upd_ne ne]; exact h1, h2, fun pos cv hc => ?_⟩
  obtain ⟨c, e1', e2', e3'⟩ := h3 pos cv hc
  refine ⟨c, e1', ?_, e3'⟩
  rw [upd_ne (kndD.ne k e e2' (fun q z => by cases z) (fun q w z => by cases z))]
  exact e2'
theorem StS.swap {S : Store} (k : kndD kvs u) (k' : kndD kvs u') (e : H a = some u) (ha : a ∉ ρ) (st : StS H S ρ) : StS (upd H a u') S ρ := by
  refine ⟨st.len, st.nd, fun n b c e1 e2 => ?_⟩
  have hb := st.cells n b c e1 e2
  have ne : b ≠ a := fun z => ha (by rw [← z]; exact List.mem_of_getElem? e1)
  cases c with
  | lst ds => obtain ⟨vs, h1, h2⟩ := hb; exact ⟨vs, by rw [upd_ne ne]; exact h1, Reps.swap k k' e _ _ h2⟩
  | dct ks ds => obtain ⟨vs, h1, l, h2⟩ := hb; exact ⟨vs, by rw [upd_ne ne]; exact h1, l, Reps.swap k k' e _ _ h2⟩
  | obj C ns ds => obtain ⟨dx, vs, h1, l, h2⟩ := hb; exact ⟨dx, vs, by rw [upd_ne ne]; exact h1, l, Reps.swap k k' e _ _ h2⟩
  | tab P q => exact TabR.swap k e ne hb
  | emp P q es => exact ⟨TabR.swap k e ne hb.1, fun x hx => by
      obtain ⟨⟨ob, h1⟩, h2⟩ := hb.2 x hx
      exact ⟨⟨ob, by rw [upd_ne (kndD.neT k e h1)]; exact h1⟩, h2⟩⟩
  | fn κ j l =>
    obtain ⟨pm, c, ctv, h1, h2, h3⟩ := hb
    refine ⟨pm, c, ctv, by rw [upd_ne ne]; exact h1, ?_, h3⟩
    rw [upd_ne (kndD.ne k e h2 (fun q z => by cases z) (fun q w z => by cases z))]
    exact h2
theorem EnvS.swap {δ : DEnv} {σ : St} (k : kndD kvs u) (k' : kndD kvs u') (e : H a = some u) (h : EnvS H ρ δ σ) : EnvS (upd H a u') ρ δ σ := ⟨h.1, fun i d e1 => by
  obtain ⟨v, e2, r⟩ := h.2 i d e1
  exact ⟨v, e2, Rep.swap k k' e d v r⟩⟩
theorem Nx.swap {H2 : Hp} {ρ2 : List Addr} (e : H a = some u) (ha : a ∉ ρ) (hm : ∀ ps, u' ≠ .tbl ps) (hu : ∀ ps, u ≠ .tbl ps) (n : Nx (upd H a u') ρ H2 ρ2) : Nx H ρ (upd H2 a u) ρ2 where
  pre := n.pre
  new := fun b hb hn => by
    have := n.new b hb hn
    by_cases z : b = a
    · subst z; rw [upd_same] at this; cases this
    · rw [upd_ne z] at this; exact this
  thr := fun b hb => by
    by_cases z : b = a
    · subst z; rw [upd_same] at hb; cases hb
    · rw [upd_ne z] at hb
      have := n.thr b hb
      rwa [upd_ne z] at this
  stay := fun b o hb hn ht => by
    by_cases z : b = a
    · subst z; rw [e] at hb; cases hb; exact upd_same
    · rw [upd_ne z]
      exact n.stay b o (by rw [upd_ne z]; exact hb) hn ht
  tbl := fun b ps hb hn => by
    by_cases z : b = a
    · subst z; rw [e] at hb; cases hb; exact absurd rfl (hu ps)
    · rw [upd_ne z]
      exact n.tbl b ps (by rw [upd_ne z]; exact hb) hn
theorem PE.or {e : Expr} {t t' : TE} (h : PE X e t) (h' : PE X e t') : PE X e (fun σ H Q => t σ H Q ∨ t' σ H Q) := ⟨fun pins s σ H Q I q => q.elim (h.run pins s σ H Q I) (h'.run pins s σ H Q I)⟩
end
end
section
variable {X : Cx} {W : WX}
variable {elt tge iter tge1 iter1 : Expr} {ifs ifs1 : List Expr} {scope : Scope} {own : List (Str × Nat)} {pos spos : Pos} {mi mi1 : DEnv → Store → Res Src} {tg tg1 : Tg} {tst tst1 : MB} {el : ME}
end
section
variable {prog : Program} {w : World} {A : Around} {E : Value → Shared → Prop} {s : Shared}
end
section
variable {X : Cx} {W : WX} {es : List Expr} {e : Expr} {t : TGs} {k x1 : Nat} {pos pos' : Pos} {me : ME}
def asgU (tgs : List Tg) (me : ME) : MS := fun δ S => bindS (me δ S) δ fun d S1 => match asL S1 d with
  | some ds => match bindTs tgs ds δ with
    | some δ1 => .nx δ1 S1
    | none => .stuck
  | none => .stuck
end
section
variable {H : Hp} {ρF ρ2 : List Addr} {n : Nat}
mutual
theorem Rep.recut (hi : ∀ i, i < n → ρ2[i]? = ρF[i]?) (hs : ∀ b, b ∈ ρ2 → b ∈ ρF) : ∀ (d : D) (v : V), Rep H ρF d v → okD n d = true → Rep H ρ2 d v
  | .non, _, h, _ => h
  | .bl _, _, h, _ => h
  | .int _, _, h, _ => h
  | .str _, _, h, _ => h
  | .raw _, _, h, _ => h
  | .loc m, v, h, k => by
    obtain ⟨a, e, h2⟩ := h
    simp only [okD] at k
    exact ⟨a, by rw [hi m (of_decide_eq_true k)]; exact e, h2⟩
  | .tup ds, v, h, k => by
    obtain ⟨a, vs, h0, h1, na, h2⟩ := h
    simp only [okD] at k
    exact ⟨a, vs, h0, h1, fun z => na (hs _ z), Reps.recut hi hs ds vs h2 k⟩
  | .lst ds, v, h, k => by
    obtain ⟨a, vs, h0, h1, na, h2⟩ := h
    simp only [okD] at k
    exact ⟨a, vs, h0, h1, fun z => na (hs _ z), Reps.recut hi hs ds vs h2 k⟩
  | .dct ks ds, v, h, k => by
    obtain ⟨a, vs, h0, h1, na, l, h2⟩ := h
    simp only [okD] at k
    exact ⟨a, vs, h0, h1, fun z => na (hs _ z), l, Reps.recut hi hs ds vs h2 k⟩
  | .obj C ns ds, v, h, k => by
    obtain ⟨a, dx, vs, h0, h1, na, l, h2⟩ := h
    simp only [okD] at k
    exact ⟨a, dx, vs, h0, h1, fun z => na (hs _ z), l, Reps.recut hi hs ds vs h2 k⟩
  | .exn a dd ns ds, v, h, k => by
    obtain ⟨vs, h0, h1, na, l, h2⟩ := h
    simp only [okD] at k
    exact ⟨vs, h0, h1, fun z => na (hs _ z), l, Reps.recut hi hs ds vs h2 k⟩
theorem Reps.recut (hi : ∀ i, i < n → ρ2[i]? = ρF[i]?) (hs : ∀ b, b ∈ ρ2 → b ∈ ρF) : ∀ (ds : List D) (vs : List V), Reps H ρF ds vs → okL n ds = true → Reps H ρ2 ds vs
  | [], _, h, _ => h
  | d :: ds, vs, h, k => by
    obtain ⟨v, us, h0, h1, h2⟩ := h
    simp only [okL, Bool.and_eq_true] at k
    exact ⟨v, us, h0, Rep.recut hi hs d v h1 k.1, Reps.recut hi hs ds us h2 k.2⟩
end
theorem TabR.recut {a P : Addr} {q : Str} (hs : ∀ b, b ∈ ρ2 → b ∈ ρF) (h : TabR H ρF a P q) : TabR H ρ2 a P q := by
  obtain ⟨h0, ps, h1, h2, h3⟩ := h
  refine ⟨h0, ps, h1, h2, fun pos cv hc => ?_⟩
  obtain ⟨c, e1, e2, e3⟩ := h3 pos cv hc
  exact ⟨c, e1, e2, fun z => e3 (hs _ z)⟩
theorem RepC.recut {a : Addr} {c : Cell} (hi : ∀ i, i < n → ρ2[i]? = ρF[i]?) (hs : ∀ b, b ∈ ρ2 → b ∈ ρF) (h : RepC H ρF a c) (k : okC n c = true) : RepC H ρ2 a c := by
  cases c with
  | lst ds => obtain ⟨vs, h1, h2⟩ := h; exact ⟨vs, h1, Reps.recut hi hs _ _ h2 k⟩
  | dct ks ds => obtain ⟨vs, h1, l, h2⟩ := h; exact ⟨vs, h1, l, Reps.recut hi hs _ _ h2 k⟩
  | obj C ns ds => obtain ⟨dx, vs, h1, l, h2⟩ := h; exact ⟨dx, vs, h1, l, Reps.recut hi hs _ _ h2 k⟩
  | tab P q => exact TabR.recut hs h
  | emp P q es => exact ⟨TabR.recut hs h.1, fun x hx => ⟨(h.2 x hx).1, fun z => (h.2 x hx).2 (hs _ z)⟩⟩
  | fn κ j l => obtain ⟨pm, c, ctv, h1, h2, h3⟩ := h; exact ⟨pm, c, ctv, h1, h2, fun z => h3 (hs _ z)⟩
end
def freshL (n : Nat) (S' : Store) (d : D) : Option (List D) := match d with
  | .loc m => if n ≤ m then (match S'[m]? with
      | some (.lst ds) => if okL n ds = true then some ds else none
      | _ => none) else none
  | _ => none
open Classical in
noncomputable def finO (S : Store) (d : D) (S' : Store) : Res D := match freshL S.length S' d with
  | some ds => if Settles S S' then .ok (.loc S.length) (S'.take S.length ++ [.lst ds]) else .ok d S'
  | none => .ok d S'
noncomputable def finDO (S : Store) (r : Flw) : Res D := match r with
  | .nx _ S' => finO S .non S'
  | .rt d S' => finO S d S'
  | .exc x _ S' => finX S x S'
  | _ => .stuck
noncomputable def defO (n : Nat) (m : MS) : Fn := fun ds S => finDO S (m (startD n ds) S)
theorem finO_run {W : WX} {σ : St} {Q : VK} {H0 H' : Hp} {ρ ρ' : List Addr} {S S' : Store} {d : D} {v : V} (st0 : StS H0 S ρ) (h : RunG W Rep σ H0 ρ (finO S d S') Q) (n : Nx H0 ρ H' ρ') (st : StS H' S' ρ') (r : Rep H' ρ' d v) : Q v H' := by
  unfold finO at h
  split at h
  · rename_i ds he
    split at h
    · rename_i hs
      cases d with
      | loc m =>
        simp only [freshL] at he
        split at he
        · rename_i hm
          split at he
          · rename_i ds' e1
            split at he
            · rename_i ho
              cases he
              obtain ⟨a, ea, rfl⟩ := r
              obtain ⟨t, ht⟩ := n.pre
              subst ht
              obtain ⟨vs, hH, rv⟩ := st.cells m a _ ea e1
              have hln := st0.len
              have na : a ∉ ρ := fun z => by
                obtain ⟨j, hj, ej⟩ := List.getElem_of_mem z
                have e4 : (ρ ++ t)[j]? = some a := by rw [List.getElem?_append_left hj, List.getElem?_eq_getElem hj, ej]
                have := (List.getElem?_inj (List.getElem?_eq_some_iff.mp e4).1 st.nd).mp (e4.trans ea.symm)
                omega
              have hmem := List.mem_of_getElem? ea
              have hi : ∀ i, i < S.length → (ρ ++ [a])[i]? = (ρ ++ t)[i]? := fun i hi => by rw [List.getElem?_append_left (by omega), List.getElem?_append_left (by omega)]
              have hss : ∀ b, b ∈ ρ ++ [a] → b ∈ ρ ++ t := fun b hb => by
                rcases List.mem_append.mp hb with hb | hb
                · exact List.mem_append_left _ hb
                · rw [List.mem_singleton.mp hb]; exact hmem
              have nx2 : Nx H0 ρ H' (ρ ++ [a]) := by
                refine ⟨⟨[a], rfl⟩, fun b hb hn => ?_, n.thr, n.stay, n.tbl⟩
                rcases List.mem_append.mp hb with hb | hb
                · exact absurd hb hn
                · rw [List.mem_singleton.mp hb]
                  exact n.new a hmem na
              have hl : S.length ≤ S'.length := by rw [← st.len, ← st0.len]; simp
              have hl2 : (S'.take S.length).length = S.length := by rw [List.length_take, Nat.min_eq_left hl]
              have st2 : StS H' (S'.take S.length ++ [.lst ds]) (ρ ++ [a]) := by
                refine ⟨by rw [List.length_append, List.length_append, hl2, hln]; rfl, ?_, fun i b c e2 e3 => ?_⟩
                · rw [List.nodup_append]
                  refine ⟨st0.nd, by simp, fun x hx y hy => ?_⟩
                  rw [List.mem_singleton] at hy
                  intro z
                  subst z
                  subst hy
                  exact na hx
                · by_cases hin : i < S.length
                  · rw [List.getElem?_append_left (by omega), List.getElem?_take_of_lt hin] at e3
                    have e2' : (ρ ++ t)[i]? = some b := by rw [← hi i hin]; exact e2
                    refine RepC.recut hi hss (st.cells i b c e2' e3) ?_
                    rcases hs i c hin e3 with h | h
                    · exact st0.cellOk h
                    · exact h
                  · rw [List.getElem?_append_right (by omega)] at e2 e3
                    rw [hl2] at e3
                    have hz : i - S.length = 0 := by
                      rcases Nat.eq_zero_or_pos (i - S.length) with z | z
                      · exact z
                      · rw [List.getElem?_eq_none (by simp only [List.length_singleton]; omega)] at e3
                        cases e3
                    rw [hz] at e3
                    rw [hln, hz] at e2
                    simp at e2 e3
                    subst e2
                    subst e3
                    exact ⟨vs, hH, Reps.recut hi hss _ _ rv ho⟩
              exact RunG.okN h nx2 st2 ⟨a, by rw [← hln]; simp, rfl⟩
            · cases he
          · cases he
        · cases he
      | _ => cases he
    · exact RunG.okN h n st r
  · exact RunG.okN h n st r
section
variable {P : Program} {w : World} {K : PySem.W.Frag} {mg : Str → Option Value} {base : Heap} {k : Nat} {f : Addr} {fd : FuncData} {x qual : Str} {params : Arguments} {body : List Stmt} {scope : Scope} {dvs : List V} {kws : List (Str × V)} {N ps : List Str} {m : MS}
theorem FnD.mkO (F : FunD K x qual params body scope dvs kws f fd) (S : FnScope N ps scope)
    (hb : ∀ (cdv : Value) (A : Around) (outer : List Env) (s : Shared) (H : Hp) (E : XK), Room k (A.deeper (envOfC qual scope s.heap.objs.size f cdv)) →
      PSs (cxOf (L2.CX P w) P w K mg base N qual scope f cdv A outer s H E) body (tS (fun c dd _ H' => E c dd H') m)) : FnD P w K mg base (k + 1) f fd ps (defO N.length m) := by
  refine FunD.ok F S (fun vs H Q E h => ?_) (fun cdv A outer s H vs Q E hr h => ⟨_, hb cdv A outer s H E hr, ?_⟩)
  · obtain ⟨ds, S, ρ, hl, _, r, _⟩ := h
    rw [← r.len, hl]
  · obtain ⟨ds, S0, ρ, hl, st0, r, h⟩ := h
    refine ⟨startD N.length ds, S0, ρ, ⟨st0, start_env rfl r⟩, ?_⟩
    unfold defO at h
    cases e : m (startD N.length ds) S0 with
    | nx δ' S' =>
      rw [e] at h
      exact fun σ' H' ρ' n I => finO_run (v := V.non) (d := D.non) st0 (show RunG _ Rep [] H ρ (finO S0 .non S') Q from h) n I.st rfl
    | rt d S' =>
      rw [e] at h
      exact fun v H' ρ' n st r => finO_run st0 h n st r
    | exc x δ' S' =>
      rw [e] at h
      exact fun c dd σ' H' ρ' n I r => finX_run (W := fun c dd _ H' => E c dd H') st0 h n I.st r
    | bk _ _ => rw [e] at h; exact False.elim h
    | ct _ _ => rw [e] at h; exact False.elim h
    | stuck => rw [e] at h; exact False.elim h
end
section
variable {X : Cx} {W : WX} {a b c : Expr} {ms : MA} {px py pz pt pos : Pos} {x y z : Str} {kt k2 : Nat} {pt2 : Pos}
def parM (i j : Nat) (ms : MA) : MS := fun δ S => bindS (ms δ S) δ fun xs S1 => match xs with
  | [v, w] => .nx ((δ.set i (some v)).set j (some w)) S1
  | _ => .stuck
end
end SL
namespace ZX
open PySem PySem.Spec PyProof.Rows L2
inductive ZS where
  | txt (x : Str) (t : Tok) | lst (a : Addr) | tup (a : Addr)
def sgs (x : Str) : List V := x.cps.toList.map fun c => V.str ⟨#[c]⟩
def ZS.at (K : PySem.W.Frag) (H : Hp) : ZS → List V → Prop
  | .txt x _, xs => xs = sgs x
  | .lst a, xs => SqL K H a xs
  | .tup a, xs => SqT K H a xs
def ZS.vl : ZS → Value
  | .txt x t => .str x t
  | .lst a => .ref a
  | .tup a => .ref a
def ZS.off : ZS → Addr → Prop
  | .txt _ _, _ => True
  | .lst a, b => a ≠ b
  | .tup a, b => a ≠ b
def ZS.it : ZS → Addr → Nat → Heap → Prop
  | .txt x t, it, i, h => h.IsStrIter it (strIterType x) x t i
  | .lst a, it, i, h => h.IsListIter it a i
  | .tup a, it, i, h => h.IsTupleIter it a i
def ZS.new : ZS → Obj
  | .txt x t => { cls := .type (strIterType x), data := .fields #[.str x t, .int 0 0] }
  | .lst a => { cls := .type "list_iterator", data := .fields #[.ref a, .int 0 0] }
  | .tup a => { cls := .type "tuple_iterator", data := .fields #[.ref a, .int 0 0] }
theorem ZS.obj {z : ZS} {it : Addr} {i : Nat} {h : Heap} (s : z.it it i h) : ∃ o, h.get? it = some o ∧ ∀ v, o.data ≠ .cell v := by
  cases z with
  | txt x t => obtain ⟨o, e, c, d⟩ := s; exact ⟨o, e, fun v q => by rw [d] at q; cases q⟩
  | lst a => obtain ⟨o, e, c, d⟩ := s; exact ⟨o, e, fun v q => by rw [d] at q; cases q⟩
  | tup a => obtain ⟨o, e, c, d⟩ := s; exact ⟨o, e, fun v q => by rw [d] at q; cases q⟩
theorem ZS.keep {z : ZS} {it : Addr} {i : Nat} {h h' : Heap} (s : z.it it i h) (k : ∀ o, h.get? it = some o → h'.get? it = some o) : z.it it i h' := by
  cases z with
  | txt x t => obtain ⟨o, e, r⟩ := s; exact ⟨o, k o e, r⟩
  | lst a => exact Heap.IsListIter.at s k
  | tup a => exact Heap.IsTupleIter.at s k
theorem ZS.start {z : ZS} {it : Addr} {h : Heap} (e : h.get? it = some z.new) : z.it it 0 h := by
  cases z with
  | txt x t => exact ⟨_, e, rfl, rfl⟩
  | lst a => exact ⟨_, e, rfl, rfl⟩
  | tup a => exact ⟨_, e, rfl, rfl⟩
section
variable {X : Cx} {pins : List (Addr × Obj)} {σ : L2.St} {H : Hp} {s : Shared} {xs : List V}
end
theorem ZS.inj {X : Cx} {pins : List (Addr × Obj)} {σ : L2.St} {H : Hp} {s : Shared} {xs ys : List V} (I : Inv X pins σ H s) {z : ZS} (h : z.at X.K H xs) (k : z.at X.K H ys) : xs = ys := by
  cases z with
  | txt x t => exact Eq.trans h (Eq.symm k)
  | lst a => exact I.list_inj h k
  | tup a => exact I.tuple_inj h k
structure Apart (z TI TO i1 i2 : Addr) (a b : ZS) : Prop where
  TIz : TI ≠ z
  TOz : TO ≠ z
  TITO : TI ≠ TO
  TIi1 : TI ≠ i1
  TIi2 : TI ≠ i2
  z1 : z ≠ i1
  z2 : z ≠ i2
  T1 : TO ≠ i1
  T2 : TO ≠ i2
  i12 : i1 ≠ i2
  az : a.off z
  aT : a.off TO
  a1 : a.off i1
  a2 : a.off i2
  bz : b.off z
  bT : b.off TO
  b1 : b.off i1
  b2 : b.off i2
inductive ZK where
  | txt | lst | tup
def SrcK (K : PySem.W.Frag) (H : Hp) : ZK → V → List V → Prop
  | .txt, v, xs => ∃ x, v = .str x ∧ xs = sgs x
  | .lst, v, xs => ∃ a, v = .ref a ∧ SqL K H a xs
  | .tup, v, xs => ∃ a, v = .ref a ∧ SqT K H a xs
def ZK.zs : ZK → V → ZS → Prop
  | .txt, v, z => ∃ x t, v = .str x ∧ z = .txt x t
  | .lst, v, z => ∃ a, v = .ref a ∧ z = .lst a
  | .tup, v, z => ∃ a, v = .ref a ∧ z = .tup a
theorem SrcK.kd {K : PySem.W.Frag} {H : Hp} {k : ZK} {v : V} {xs : List V} {u : Value} (h : SrcK K H k v xs) (r : L2.RelV v u) : ∃ z : ZS, z.at K H xs ∧ z.vl = u ∧ k.zs v z := by
  cases k with
  | txt =>
    obtain ⟨x, rfl, rfl⟩ := h
    obtain ⟨t, rfl⟩ := r
    exact ⟨.txt x t, rfl, rfl, x, t, rfl, rfl⟩
  | lst =>
    obtain ⟨a, rfl, h⟩ := h
    obtain rfl : u = Value.ref a := r
    exact ⟨.lst a, h, rfl, a, rfl, rfl⟩
  | tup =>
    obtain ⟨a, rfl, h⟩ := h
    obtain rfl : u = Value.ref a := r
    exact ⟨.tup a, h, rfl, a, rfl, rfl⟩
theorem ZK.at {K : PySem.W.Frag} {H : Hp} {k : ZK} {v : V} {xs : List V} {z : ZS} (h : SrcK K H k v xs) (kz : k.zs v z) : z.at K H xs := by
  cases k with
  | txt =>
    obtain ⟨x, t, rfl, rfl⟩ := kz
    obtain ⟨y, e, rfl⟩ := h
    cases e
    rfl
  | lst =>
    obtain ⟨a, rfl, rfl⟩ := kz
    obtain ⟨b, e, h⟩ := h
    cases e
    exact h
  | tup =>
    obtain ⟨a, rfl, rfl⟩ := kz
    obtain ⟨b, e, h⟩ := h
    cases e
    exact h
end ZX
namespace SL
open PySem PySem.Spec L2 ZX
open PyProof.Rows hiding St
section
variable {X : Cx} {W : WX} {H H' : Hp} {ρ ρ' : List Addr} {S : Store} {d e : D} {v v1 v2 : V} {xs ys ds : List D} {K : PySem.W.Frag}
def srcZ (ma mb : ME) : DEnv → Store → Res Src := fun δ S => (ma δ S).bind fun d S1 => (mb δ S1).bind fun e S2 => match iterD S2 d, iterD S2 e with
  | some xs, some ys => .ok (.zip d e xs.length ys.length) S2
  | _, _ => .stuck
end
end SL
namespace SL
open PySem PySem.Spec L2
open PyProof.Rows hiding St
def swL (c : Nat) : Nat := if 65 ≤ c ∧ c ≤ 90 then c + 32 else if 97 ≤ c ∧ c ≤ 122 then c - 32 else c
def swapG (_ : Store) (x : D) (xs : List D) : Option D := match x, xs with
  | .str [c], [] => if c < 128 then some (.str [swL c]) else none
  | _, _ => none
def isupG (_ : Store) (x : D) (xs : List D) : Option D := match x, xs with
  | .str [c], [] => if c < 128 then some (.bl (decide (65 ≤ c) && decide (c ≤ 90))) else none
  | _, _ => none
section
variable {X : Cx}
end
section
variable {P : Program} {w : World} {K : PySem.W.Frag} {mg : Str → Option Value} {base : Heap} {k : Nat} {at_ : Str × Option Str} {fd : FuncData} {x qual : Str} {params : Arguments} {body : List Stmt} {scope : Scope} {dvs : List V} {kws : List (Str × V)} {N ps : List Str} {m : MS}
theorem FunD.okT {CX : CXT} {sp : Sp} (F : FunD K x qual params body scope dvs kws (He.fAd K at_) fd) (S : FnScope N ps scope) (len : ∀ vs H Q E, sp vs H Q E → vs.length = ps.length)
    (hbody : ∀ (cdv : Value) (A : Around) (outer : List Env) (s : Shared) (H : Hp) (vs : List V) (Q : VK) (E : XK), cdv = .ref (He.cT K at_).1 → Room k (A.deeper (envOfC qual scope s.heap.objs.size (He.fAd K at_) cdv)) → sp vs H Q E →
      ∃ t, PSs (cxOf CX P w K mg base N qual scope (He.fAd K at_) cdv A outer s H E) body t ∧ t { nx := fun _ H' => Q .non H', rt := Q } (L2.start N vs) H) : FnOk P w K mg base CX (k + 1) (He.fAd K at_) fd ps sp := by
  obtain ⟨oc, od, dV, kV, doc, pm, an, cdv, ct, osl, rfl, lk, hcd, _, _⟩ := F.ex
  obtain ⟨c, rfl⟩ := He.codeIn_ref hcd
  have e := He.codeOf_eq lk rfl
  exact fn_of lk hcd S len fun A outer s H vs Q E hr hsp => hbody (.ref c) A outer s H vs Q E (by rw [← e]; rfl) hr hsp
end
section
variable {K : PySem.W.Frag} {x qual : Str} {params : Arguments} {body : List Stmt} {scope : Scope} {kws : List (Str × V)} {f : Addr} {fd : FuncData} {ps ks : List Str} {n : Nat} {g : List Value → List Value → List Value} {gV : List V → List V → List V}
theorem kbindsP (F : FunD K x qual params body scope [] kws f fd) (hrel : ∀ {vs zs : List V} {us ws : List Value}, Vals vs us → Vals zs ws → Vals (gV vs zs) (g us ws))
    (h : ∀ (kV doc pm : Value) (an : Option Addr) (cdv ct : Value) (us ws : List Value), us.length = n → ws.length = ks.length → bindArgs (PySem.W.fnOf x qual params body scope .none kV doc pm an cdv ct) ⟨us, ks.zip ws⟩ = pure (ps.zip (g us ws))) : KBn K fd ps n ks g gV := by
  obtain ⟨oc, od, dV, kV, doc, pm, an, cdv, ct, osl, rfl, lk, hcd, hD, hK⟩ := F.ex
  rcases hD with ⟨_, rfl⟩ | ⟨e, _⟩
  · exact ⟨fun s us ws X l1 l2 => .of_eq (h kV doc pm an cdv ct us ws l1 l2), fun r1 r2 => hrel r1 r2⟩
  · exact absurd rfl e
end
section
variable {X : Cx} {W : WX} {o : Expr} {mo : ME} {mk : MA} {pos apos : Pos} {m : Str} {k n : Nat} {f C : Addr} {fd : FuncData} {ps ks : List Str} {φ : Fn} {kws : List Keyword}
end
section
variable {X : Cx} {W : WX} {e : Expr} {es : List Expr} {ms mk : MA} {x : Str} {p pos : Pos} {k n : Nat} {f : Addr} {fd : FuncData} {ps ks : List Str} {φ : Fn} {kws : List Keyword}
end
end SL
namespace SetTx
open PySem PySem.Spec PyProof.Rows L2 PpSet
def keyT (e : Int × Value) : Str := match e.2 with | .str k _ => k | _ => default
def GoodT (w : World) (e : Int × Value) : Prop := ∃ k tk, e.2 = Value.str k tk ∧ e.1 = hashStr w k
def SetT (w : World) (h : Heap) (a : Addr) (S : Str → Bool) (n : Nat) : Prop :=
  ∃ o es ep t, h.get? a = some o ∧ o.ExactSet ∧ o.data = .set es ep t ∧ (∀ e ∈ es.toList, GoodT w e) ∧ (es.toList.map keyT).Nodup ∧ (∀ k, S k = true ↔ k ∈ es.toList.map keyT) ∧
    es.size < scanBound ∧ t.fits es.size = true ∧ es.size = n ∧ Ris t.place.toList ∧ (w.params.followText "set-order" = true ∨ t.led = true)
section
variable {P : Program} {w : World} {h h' : Heap} {a : Addr} {S : Str → Bool} {n : Nat}
theorem SetT.at (R : SetT w h a S n) (k : ∀ o, h.get? a = some o → h'.get? a = some o) : SetT w h' a S n := by
  obtain ⟨o, es, ep, t, ho, r⟩ := R
  exact ⟨o, es, ep, t, k o ho, r⟩
theorem SetT.lt (R : SetT w h a S n) : a < h.objs.size := by
  obtain ⟨o, es, ep, t, ho, r⟩ := R
  exact Heap.lt_size ho
theorem SetT.congr {S' : Str → Bool} (R : SetT w h a S n) (e : ∀ k, S' k = S k) : SetT w h a S' n := by
  have q : S' = S := funext e
  rw [q]; exact R
end
section
variable {P : Program} {w : World} {A : Around} {E : Value → Shared → Prop} {s : Shared} {a : Addr} {S : Str → Bool} {n : Nat}
end
section
variable {P : Program} {w : World} {A : Around} {E : Value → Shared → Prop} {s : Shared}
end
section
variable {X : Cx}
end
section
variable {prog : Program} {w : World} {A : Around} {R : Result → Shared → Prop} {s : Shared} {elt t0 i0 t1 i1 : Expr} {ifs0 ifs1 : List Expr} {scope : Scope} {pos : Pos} {it acc : Value} {env : Env}
end
section
variable {X : Cx}
end
section
variable {X : Cx}
end
end SetTx
namespace SL
open PySem PySem.Spec L2 SetTx
open PyProof.Rows hiding St
section
variable {H : Hp} {ρ : List Addr} {p : Addr} {f g : Heap → Prop}
theorem stay_ext (hp : H p = some (.ext f)) {a : Addr} {o : HO} (h : H a = some o) (hn : ∀ f, o ≠ .ext f) : upd H p (.ext g) a = some o := by
  have hap : a ≠ p := fun z => by
    rw [z, hp] at h
    exact hn f (Option.some.inj h).symm
  rw [upd_ne hap]
  exact h
mutual
theorem Rep.ext (hp : H p = some (.ext f)) : ∀ (d : D) (v : V), Rep H ρ d v → Rep (upd H p (.ext g)) ρ d v
  | .non, v, h => h
  | .bl b, v, h => h
  | .int i, v, h => h
  | .str x, v, h => h
  | .raw u, v, h => h
  | .loc m, v, h => h
  | .tup ds, v, h => by
    obtain ⟨a, vs, e, h1, k, h2⟩ := h
    rcases h1 with h1 | ⟨e0, od, h1⟩
    · exact ⟨a, vs, e, .inl (stay_ext hp h1 (fun f z => by cases z)), k, Reps.ext hp ds vs h2⟩
    · exact ⟨a, vs, e, .inr ⟨e0, od, stay_ext hp h1 (fun f z => by cases z)⟩, k, Reps.ext hp ds vs h2⟩
  | .lst ds, v, h => by
    obtain ⟨a, vs, e, h1, k, h2⟩ := h
    exact ⟨a, vs, e, stay_ext hp h1 (fun f z => by cases z), k, Reps.ext hp ds vs h2⟩
  | .dct ks ds, v, h => by
    obtain ⟨a, vs, e, h1, k, l, h2⟩ := h
    rcases h1 with h1 | ⟨od, h1⟩
    · exact ⟨a, vs, e, .inl (stay_ext hp h1 (fun f z => by cases z)), k, l, Reps.ext hp ds vs h2⟩
    · exact ⟨a, vs, e, .inr ⟨od, stay_ext hp h1 (fun f z => by cases z)⟩, k, l, Reps.ext hp ds vs h2⟩
  | .obj C ns ds, v, h => by
    obtain ⟨a, dx, vs, e, h1, k, l, h2⟩ := h
    exact ⟨a, dx, vs, e, stay_ext hp h1 (fun f z => by cases z), k, l, Reps.ext hp ds vs h2⟩
  | .exn a dd ns ds, v, h => by
    obtain ⟨vs, e, h1, k, l, h2⟩ := h
    exact ⟨vs, e, stay_ext hp h1 (fun f z => by cases z), k, l, Reps.ext hp ds vs h2⟩
theorem Reps.ext (hp : H p = some (.ext f)) : ∀ (ds : List D) (vs : List V), Reps H ρ ds vs → Reps (upd H p (.ext g)) ρ ds vs
  | [], vs, h => h
  | d :: ds, vs, h => by
    obtain ⟨v, r, e, h1, h2⟩ := h
    exact ⟨v, r, e, Rep.ext hp d v h1, Reps.ext hp ds r h2⟩
end
theorem TabR.ext (hp : H p = some (.ext f)) (hf : ∀ q, HO.ext f ≠ LamX.CodeO p q) {a P : Addr} {q : Str} (h : TabR H ρ a P q) : TabR (upd H p (.ext g)) ρ a P q := by
  obtain ⟨e, ps, h1, h2, h3⟩ := h
  refine ⟨e, ps, stay_ext hp h1 (fun f z => by cases z), h2, fun pos cv q => ?_⟩
  obtain ⟨c, e1, e2, e3⟩ := h3 pos cv q
  have hcp : c ≠ p := fun z => by
    subst z
    rw [hp] at e2
    exact hf _ (Option.some.inj e2)
  exact ⟨c, e1, by rw [upd_ne hcp]; exact e2, e3⟩
theorem RepC.ext (hp : H p = some (.ext f)) (hf : ∀ q, HO.ext f ≠ LamX.CodeO p q) {a : Addr} {c : Cell} (ha : a ≠ p) (h : RepC H ρ a c) : RepC (upd H p (.ext g)) ρ a c := by
  cases c with
  | lst ds =>
    obtain ⟨vs, h1, h2⟩ := h
    exact ⟨vs, stay_ext hp h1 (fun f z => by cases z), Reps.ext hp _ _ h2⟩
  | dct ks ds =>
    obtain ⟨vs, h1, l, h2⟩ := h
    exact ⟨vs, stay_ext hp h1 (fun f z => by cases z), l, Reps.ext hp _ _ h2⟩
  | obj C ns ds =>
    obtain ⟨dx, vs, h1, l, h2⟩ := h
    exact ⟨dx, vs, stay_ext hp h1 (fun f z => by cases z), l, Reps.ext hp _ _ h2⟩
  | tab P q => exact TabR.ext hp hf h
  | emp P q es => exact ⟨TabR.ext hp hf h.1, fun x hx => by
      obtain ⟨⟨ob, h1⟩, h2⟩ := h.2 x hx
      exact ⟨⟨ob, stay_ext hp h1 (fun f z => by cases z)⟩, h2⟩⟩
  | fn κ j l =>
    obtain ⟨pm, c, ctv, h1, h2, h3⟩ := h
    have hcp : c ≠ p := fun z => by
      subst z
      rw [hp] at h2
      exact hf _ (Option.some.inj h2)
    exact ⟨pm, c, ctv, by rw [upd_ne ha]; exact h1, by rw [upd_ne hcp]; exact h2, h3⟩
theorem StS.ext {S : Store} (hp : H p = some (.ext f)) (hf : ∀ q, HO.ext f ≠ LamX.CodeO p q) (np : p ∉ ρ) (st : StS H S ρ) : StS (upd H p (.ext g)) S ρ := ⟨st.len, st.nd, fun n a c h1 h2 => RepC.ext hp hf (fun z => np (by rw [← z]; exact List.mem_of_getElem? h1)) (st.cells n a c h1 h2)⟩
theorem EnvS.ext {δ : DEnv} {σ : St} (hp : H p = some (.ext f)) (h : EnvS H ρ δ σ) : EnvS (upd H p (.ext g)) ρ δ σ := ⟨h.1, fun i d e => by
  obtain ⟨v, e1, e2⟩ := h.2 i d e
  exact ⟨v, e1, Rep.ext hp d v e2⟩⟩
theorem Nx.ext {H1 : Hp} {ρ1 : List Addr} (n : Nx H1 ρ1 H ρ) (h1 : H1 p = none) (hp : H p = some (.ext f)) : Nx H1 ρ1 (upd H p (.ext g)) ρ := by
  refine ⟨n.pre, n.new, fun a h => ?_, fun a o h k t => ?_, fun a ps h k => ?_⟩
  · by_cases e : a = p
    · rw [e]; exact h1
    · rw [upd_ne e] at h
      exact n.thr a h
  · have e : a ≠ p := fun z => by rw [z, h1] at h; cases h
    rw [upd_ne e]
    exact n.stay a o h k t
  · have e : a ≠ p := fun z => by rw [z, h1] at h; cases h
    rw [upd_ne e]
    exact n.tbl a ps h k
end
section
variable {X : Cx} {W : WX} {e tg : Expr} {ma : ME}
end
def addT (acc : List (List Nat)) (l : List Nat) : List (List Nat) := if l ∈ acc then acc else l :: acc
open Classical in
noncomputable def sL1 (src : Src) (tg : Tg) (tst : MB) (el : ME) (ds : List D) (δ : DEnv) : List D → Store → List (List Nat) → Option (Store × List (List Nat))
  | [], S, acc => if items S src = some ds then some (S, acc) else none
  | d :: r, S, acc => if items S src = some ds then (match bindT tg d δ with
      | some δ1 => match tst δ1 S with
        | .ok true S1 => match el δ1 S1 with
          | .ok (.str l) S2 => if acc.length < 4000 then sL1 src tg tst el ds δ r S2 (addT acc l) else none
          | _ => none
        | .ok false S1 => sL1 src tg tst el ds δ r S1 acc
        | _ => none
      | none => none) else none
open Classical in
noncomputable def sL2 (src : Src) (tg : Tg) (tst : MB) (mi1 : DEnv → Store → Res Src) (tg1 : Tg) (tst1 : MB) (el : ME) (vs1 : List Nat) (ds : List D) (δ : DEnv) : List D → Store → List (List Nat) → Option (Store × List (List Nat))
  | [], S, acc => if items S src = some ds then some (S, acc) else none
  | d :: r, S, acc => if items S src = some ds then (match bindT tg d δ with
      | some δ1 => match tst δ1 S with
        | .ok true S1 => match mi1 δ1 S1 with
          | .ok src1 S2 => match items S2 src1 with
            | some ds1 => match sL1 src1 tg1 tst1 el ds1 (wipeD δ1 vs1) ds1 S2 acc with
              | some (S3, acc') => sL2 src tg tst mi1 tg1 tst1 el vs1 ds δ r S3 acc'
              | none => none
            | none => none
          | _ => none
        | .ok false S1 => sL2 src tg tst mi1 tg1 tst1 el vs1 ds δ r S1 acc
        | _ => none
      | none => none) else none
noncomputable def setSM (mi : DEnv → Store → Res Src) (tg : Tg) (tst : MB) (mi1 : DEnv → Store → Res Src) (tg1 : Tg) (tst1 : MB) (el : ME) (vs vs1 : List Nat) : ME := fun δ S => (mi δ S).bind fun src S1 => match items S1 src with
  | some ds => match sL2 src tg tst mi1 tg1 tst1 el vs1 ds (wipeD δ vs) ds S1 [] with
    | some (Sf, acc) => .ok (.lst ((sortT acc).map D.str)) Sf
    | none => .stuck
  | none => .stuck
theorem EnvS.go {H H' : Hp} {ρ ρ' : List Addr} {δ : DEnv} {σ : St} (g : ∀ d v, Rep H ρ d v → Rep H' ρ' d v) (h : EnvS H ρ δ σ) : EnvS H' ρ' δ σ := ⟨h.1, fun i d e => by
  obtain ⟨v, e1, r⟩ := h.2 i d e
  exact ⟨v, e1, g _ _ r⟩⟩
section
variable {X : Cx} {W : WX}
variable {elt tge iter tge1 iter1 : Expr} {ifs ifs1 : List Expr} {scope : Scope} {own : List (Str × Nat)} {pos cpos fp : Pos} {mi mi1 : DEnv → Store → Res Src} {tg tg1 : Tg} {tst tst1 : MB} {el : ME}
end
end SL
namespace SL
open PySem PySem.Spec L2
open PyProof.Rows hiding St
section
variable {X : Cx} {W : WX} {e : Expr} {es : List Expr} {ms mk : MA} {p pos : Pos} {x : Str} {kws : List Keyword}
def minS : List Nat → List (List Nat) → List Nat := fun x xs => xs.foldl (fun a y => if y < a then y else a) x
def maxS : List Nat → List (List Nat) → List Nat := fun x xs => xs.foldl (fun a y => if a < y then y else a) x
theorem minS_of (x : List Nat) : ∀ xs : List (List Nat), PySem.W.minOf (sOf x) (xs.map sOf) = sOf (minS x xs) := fun xs => by
  unfold PySem.W.minOf minS
  induction xs generalizing x with
  | nil => rfl
  | cons y ys ih =>
    rw [List.map_cons, List.foldl_cons, List.foldl_cons, ← ih]
    congr 1
    show (if decide ((sOf y).cps.toList < (sOf x).cps.toList) = true then sOf y else sOf x) = _
    by_cases h : y < x
    · rw [if_pos h, if_pos (decide_eq_true h)]
    · rw [if_neg h, if_neg (by rw [decide_eq_true_iff]; exact h)]
theorem maxS_of (x : List Nat) : ∀ xs : List (List Nat), PySem.W.maxOf (sOf x) (xs.map sOf) = sOf (maxS x xs) := fun xs => by
  unfold PySem.W.maxOf maxS
  induction xs generalizing x with
  | nil => rfl
  | cons y ys ih =>
    rw [List.map_cons, List.foldl_cons, List.foldl_cons, ← ih]
    congr 1
    show (if decide ((sOf x).cps.toList < (sOf y).cps.toList) = true then sOf y else sOf x) = _
    by_cases h : x < y
    · rw [if_pos h, if_pos (decide_eq_true h)]
    · rw [if_neg h, if_neg (by rw [decide_eq_true_iff]; exact h)]
def minIs (n : Int) (ns : List Int) : Int := PySem.W.minOf n ns
def maxIs (n : Int) (ns : List Int) : Int := PySem.W.maxOf n ns
def rMinA (K : PySem.W.Frag) : List V → Hp → VK → Prop := fun vs H Q => (∃ (a : Addr) (n : Int) (ns : List Int), vs = [V.ref a] ∧ SqL K H a ((n :: ns).map V.int) ∧ Q (.int (minIs n ns)) H) ∨
  (∃ (a : Addr) (y : Str) (ys : List Str), vs = [V.ref a] ∧ SqL K H a ((y :: ys).map V.str) ∧ Q (.str (PySem.W.minOf y ys)) H) ∨ ∃ i j, vs = [.int i, .int j] ∧ Q (.int (if j < i then j else i)) H
def rMaxA (K : PySem.W.Frag) : List V → Hp → VK → Prop := fun vs H Q => (∃ (a : Addr) (n : Int) (ns : List Int), vs = [V.ref a] ∧ SqL K H a ((n :: ns).map V.int) ∧ Q (.int (maxIs n ns)) H) ∨
  (∃ (a : Addr) (y : Str) (ys : List Str), vs = [V.ref a] ∧ SqL K H a ((y :: ys).map V.str) ∧ Q (.str (PySem.W.maxOf y ys)) H) ∨ ∃ i j, vs = [.int i, .int j] ∧ Q (.int (if j > i then j else i)) H
theorem cr_minA (hc : X.calm = true) (hu : X.A.units + 64 < cLine) : CallR X (.builtin "min") (rMinA X.K) := by
  refine CallR.or ?_ (CallR.or ?_ (call_min2 hc))
  · intro pins s σ H vs us Q I r h
    obtain ⟨a, n, ns, rfl, hs, q⟩ := h
    obtain ⟨its, rv, hl, _⟩ := I.list hs
    obtain rfl := Vals.ref1 r
    refine PySem.W.min_list_datum (α := Int) (I.ok.hd hc) hl.isList (PySem.W.HoldAll.of_ints rv.ints) (by show _ + 1 + 0 < _; omega) fun i v h' tk hi hv hk => ?_
    obtain ⟨t, rfl⟩ := PySem.W.int_of_holds hv
    exact ⟨.int _, H, I.kept hk, ⟨t, rfl⟩, q⟩
  · intro pins s σ H vs us Q I r h
    obtain ⟨a, n, ns, rfl, hs, q⟩ := h
    obtain ⟨its, rv, hl, _⟩ := I.list hs
    obtain rfl := Vals.ref1 r
    refine PySem.W.min_list_datum (α := Str) (I.ok.hd hc) hl.isList (PySem.W.HoldAll.of_strs rv.strs) (by show _ + 1 + 0 < _; omega) fun i v h' tk hi hv hk => ?_
    obtain ⟨t, rfl⟩ := PySem.W.str_of_holds hv
    exact ⟨.str _, H, I.kept hk, ⟨t, rfl⟩, q⟩
theorem cr_maxA (hc : X.calm = true) (hu : X.A.units + 64 < cLine) : CallR X (.builtin "max") (rMaxA X.K) := by
  refine CallR.or ?_ (CallR.or ?_ (call_max2 hc))
  · intro pins s σ H vs us Q I r h
    obtain ⟨a, n, ns, rfl, hs, q⟩ := h
    obtain ⟨its, rv, hl, _⟩ := I.list hs
    obtain rfl := Vals.ref1 r
    refine PySem.W.max_list_datum (α := Int) (I.ok.hd hc) hl.isList (PySem.W.HoldAll.of_ints rv.ints) (by show _ + 1 + 0 < _; omega) fun i v h' tk hi hv hk => ?_
    obtain ⟨t, rfl⟩ := PySem.W.int_of_holds hv
    exact ⟨.int _, H, I.kept hk, ⟨t, rfl⟩, q⟩
  · intro pins s σ H vs us Q I r h
    obtain ⟨a, n, ns, rfl, hs, q⟩ := h
    obtain ⟨its, rv, hl, _⟩ := I.list hs
    obtain rfl := Vals.ref1 r
    refine PySem.W.max_list_datum (α := Str) (I.ok.hd hc) hl.isList (PySem.W.HoldAll.of_strs rv.strs) (by show _ + 1 + 0 < _; omega) fun i v h' tk hi hv hk => ?_
    obtain ⟨t, rfl⟩ := PySem.W.str_of_holds hv
    exact ⟨.str _, H, I.kept hk, ⟨t, rfl⟩, q⟩
def mmG (fi : Int → List Int → Int) (fs : List Nat → List (List Nat) → List Nat) (S : Store) (x : D) : Option D := match asL S x with
  | some ds => match asIs ds with
    | some (n :: ns) => some (.int (fi n ns))
    | _ => match asSs ds with
      | some (l :: ls) => some (.str (fs l ls))
      | _ => none
  | none => none
def minG (S : Store) (xs : List D) : Option D := match xs with
  | [x] => mmG minIs minS S x
  | [.int i, .int j] => some (.int (if j < i then j else i))
  | _ => none
def maxG (S : Store) (xs : List D) : Option D := match xs with
  | [x] => mmG maxIs maxS S x
  | [.int i, .int j] => some (.int (if j > i then j else i))
  | _ => none
theorem mm_ok {fi : Int → List Int → Int} {fs : List Nat → List (List Nat) → List Nat} {H : Hp} {ρ : List Addr} {S : Store} {x z : D} {v : V} {K : PySem.W.Frag} (st : StS H S ρ) (rx : Rep H ρ x v) (e : mmG fi fs S x = some z) :
    (∃ a n ns, v = .ref a ∧ SqL K H a ((n :: ns).map V.int) ∧ z = .int (fi n ns)) ∨ (∃ a l ls, v = .ref a ∧ SqL K H a (((l :: ls).map sOf).map V.str) ∧ z = .str (fs l ls)) := by
  unfold mmG at e
  split at e
  · rename_i ds ed
    obtain ⟨a, vs, rfl, h1, r1⟩ := asL_rep st rx ed
    split at e
    · rename_i n ns en
      have := asIs_rep r1 en
      subst this
      exact .inl ⟨a, n, ns, rfl, .inl (.inl h1), (Option.some.inj e).symm⟩
    · split at e
      · rename_i l ls el
        have := strs_map el r1
        subst this
        exact .inr ⟨a, l, ls, rfl, .inl (.inl h1), (Option.some.inj e).symm⟩
      · cases e
  · cases e
theorem snd_min {K : PySem.W.Frag} : CaSnd (rMinA K) minG := by
  intro H ρ S xs z vs Q st rs e k
  unfold minG at e
  split at e
  · obtain ⟨v, us, rfl, rx, ru⟩ := rs
    cases ru
    rcases mm_ok (K := K) st rx e with ⟨a, n, ns, rfl, hs, rfl⟩ | ⟨a, l, ls, rfl, hs, rfl⟩
    · exact .inl ⟨a, n, ns, rfl, hs, k.now st rfl⟩
    · refine .inr (.inl ⟨a, sOf l, ls.map sOf, rfl, hs, k.now st ?_⟩)
      rw [minS_of]; rfl
  · obtain ⟨v, us, rfl, rx, v2, us2, rfl, rx2, ru⟩ := rs
    cases ru; cases rx; cases rx2; cases e
    exact .inr (.inr ⟨_, _, rfl, k.now st rfl⟩)
  · cases e
theorem snd_max {K : PySem.W.Frag} : CaSnd (rMaxA K) maxG := by
  intro H ρ S xs z vs Q st rs e k
  unfold maxG at e
  split at e
  · obtain ⟨v, us, rfl, rx, ru⟩ := rs
    cases ru
    rcases mm_ok (K := K) st rx e with ⟨a, n, ns, rfl, hs, rfl⟩ | ⟨a, l, ls, rfl, hs, rfl⟩
    · exact .inl ⟨a, n, ns, rfl, hs, k.now st rfl⟩
    · refine .inr (.inl ⟨a, sOf l, ls.map sOf, rfl, hs, k.now st ?_⟩)
      rw [maxS_of]; rfl
  · obtain ⟨v, us, rfl, rx, v2, us2, rfl, rx2, ru⟩ := rs
    cases ru; cases rx; cases rx2; cases e
    exact .inr (.inr ⟨_, _, rfl, k.now st rfl⟩)
  · cases e
end
end SL
namespace NC
open PySem PySem.Spec L2 SL
structure Ad where
  (HallError Missing NothingLeft BadWalls BadBar BadSide Fixed Alike BadRoom BadPart Empty BadTurn BadTable OtherHall BadText BadTree Ring TooMany BadOrder BadCount NoStory BadName Taken Full InWay Hangs BadDeed BadPage NoRow NoWalker NoBar NoWall NoStep Hall Table Reader Maker Counter Log Crowd Desk t_in_order t_parts_where t_law e_bars e_names e_puts : Addr)
abbrev s_SMALL : List Nat := [97, 98, 99, 100, 101, 102, 103, 104, 105, 106, 107, 108, 109, 110, 111, 112, 113, 114, 115, 116, 117, 118, 119, 120, 121, 122]
abbrev s_LETTERS : List Nat := [97, 98, 99, 100, 101, 102, 103, 104, 105, 106, 107, 108, 109, 110, 111, 112, 113, 114, 115, 116, 117, 118, 119, 120, 121, 122, 65, 66, 67, 68, 69, 70, 71, 72, 73, 74, 75, 76, 77, 78, 79, 80, 81, 82, 83, 84, 85, 86, 87, 88, 89, 90]
def gx_HallError : List SL.D → List SL.D := fun ds => ds
def gx_Missing : List SL.D → List SL.D := fun ds => ds
def gx_BadSide : List SL.D → List SL.D := fun _ => gx_HallError [.str [98, 97, 100, 115, 105, 100, 101]]
def gx_BadPart : List SL.D → List SL.D := fun _ => gx_HallError [.str [98, 97, 100, 112, 97, 114, 116]]
def gx_Empty : List SL.D → List SL.D := fun ds => ds ++ gx_HallError [.str [101, 109, 112, 116, 121]]
def gx_BadTree : List SL.D → List SL.D := fun _ => gx_HallError [.str [98, 97, 100, 116, 114, 101, 101]]
def gx_Ring : List SL.D → List SL.D := fun ds => ds ++ gx_HallError [.str [114, 105, 110, 103]]
def gx_TooMany : List SL.D → List SL.D := fun ds => ds ++ gx_HallError [.str [116, 111, 111, 109, 97, 110, 121]]
def gx_NoRow : List SL.D → List SL.D := fun ds => ds ++ gx_Missing [.str [110, 111, 114, 111, 119]]
noncomputable def m_law_draw (A : Ad)  : MS := (seqM (ifSM (andB (cmpB ltG (op2M ixG (vM 0) (cM (.int 2))) (vM 1)) (cmpB ltG (op2M ixG (vM 0) (cM (.int 1))) (callG lenG (consM (op2M ixG (vM 0) (cM (.int 0))) nilM)))) (seqM (asgM 2 (op2M ixG (op2M ixG (vM 0) (cM (.int 0))) (op2M ixG (vM 0) (cM (.int 1)))))
  (seqM (setIM (vM 0) (cM (.int 1)) (op2M addG (op2M ixG (vM 0) (cM (.int 1))) (cM (.int 1))))
  (seqM (setIM (vM 0) (cM (.int 2)) (ifM (cmpB geG (vM 2) (op2M powG (cM (.int 10)) (cM (.int 18)))) (vM 2) (cM (.int 0))))
  (setIM (vM 0) (cM (.int 3)) (op2M modG (op2M addG (op2M addG (op2M mulG (op2M ixG (vM 0) (cM (.int 3))) (cM (.int 69621))) (op2M modG (vM 2) (cM (.int 998244353)))) (cM (.int 1))) (cM (.int 2147483647))))))) nxM)
  (seqM (ifSM (cmpB geG (op2M ixG (vM 0) (cM (.int 2))) (vM 1)) (seqM (asgM 3 (op2M modG (op2M ixG (vM 0) (cM (.int 2))) (vM 1)))
  (seqM (setIM (vM 0) (cM (.int 2)) (op2M fdivG (op2M ixG (vM 0) (cM (.int 2))) (vM 1)))
  (retM (vM 3)))) nxM)
  (seqM (setIM (vM 0) (cM (.int 4)) (op2M addG (op2M ixG (vM 0) (cM (.int 4))) (cM (.int 1))))
  (seqM (asgM 4 (op2M addG (op2M addG (op2M mulG (op2M ixG (vM 0) (cM (.int 3))) (cM (.int 16807))) (op2M mulG (op2M ixG (vM 0) (cM (.int 4))) (cM (.int 40692)))) (cM (.int 7))))
  (seqM (asgM 4 (op2M addG (op2M mulG (vM 4) (op2M addG (op2M modG (vM 4) (cM (.int 65521))) (cM (.int 3)))) (op2M mulG (op2M ixG (vM 0) (cM (.int 4))) (cM (.int 9176)))))
  (seqM (setIM (vM 0) (cM (.int 3)) (op2M modG (vM 4) (cM (.int 2147483629))))
  (retM (op2M modG (op2M addG (op2M fdivG (op2M ixG (vM 0) (cM (.int 3))) (cM (.int 32))) (op2M mulG (op2M modG (op2M ixG (vM 0) (cM (.int 3))) (cM (.int 8191))) (cM (.int 13)))) (vM 1)))))))))
noncomputable def φlaw_draw (A : Ad) : Fn := defM 5 (m_law_draw A )
noncomputable def m_law_letters (A : Ad)  : MS := (retM (cM (.str [97, 98, 99, 100, 101, 102, 103, 104, 105, 106, 107, 108, 109, 110, 111, 112, 113, 114, 115, 116, 117, 118, 119, 120, 121, 122])))
noncomputable def φlaw_letters (A : Ad) : Fn := defM 0 (m_law_letters A )
noncomputable def m_law_of (A : Ad) (φlaw_draw : Fn) : MS := (retM (op2M ixG (vM 1) (appM 2 φlaw_draw (consM (vM 0) (consM (callG lenG (consM (vM 1) nilM)) nilM)) [])))
noncomputable def φlaw_of (A : Ad) : Fn := defM 2 (m_law_of A (φlaw_draw A))
noncomputable def m_is_side (A : Ad)  : MS := (retM (andM (op2M eqG (callG lenG (consM (vM 1) nilM)) (cM (.int 1))) (op2M inG (mtS lowerG (vM 1) nilM) (vM 0))))
noncomputable def φis_side (A : Ad) : Fn := defM 2 (m_is_side A )
noncomputable def m_other (A : Ad)  : MS := (retM (mtS swapG (vM 0) nilM))
noncomputable def φother (A : Ad) : Fn := defM 1 (m_other A )
noncomputable def m_in_order (A : Ad)  : MS := (retM (mtS joinG (cM (.str [])) (consM (sortKM (A.t_in_order) "in_order.<locals>.<lambda>" (vM 0)) nilM)))
noncomputable def φin_order (A : Ad) : Fn := defM 1 (m_in_order A )
noncomputable def m_law_same (A : Ad) (φlaw_same : Fn) : MS := (seqM (ifSM (trM (callG isiA (consM (vM 1) (consM (callG tupG (consM (cM (.raw (.ty "list"))) (consM (cM (.raw (.ty "tuple"))) nilM))) nilM)))) (seqM (ifSM (orB (cmpB neG (callG isiA (consM (vM 1) (consM (cM (.raw (.ty "list"))) nilM))) (callG isiA (consM (vM 0) (consM (cM (.raw (.ty "list"))) nilM)))) (cmpB neG (callG isiA (consM (vM 1) (consM (cM (.raw (.ty "tuple"))) nilM))) (callG isiA (consM (vM 0) (consM (cM (.raw (.ty "tuple"))) nilM))))) (retM (cM (.bl false))) nxM)
  (retM (andM (op2M eqG (callG lenG (consM (vM 0) nilM)) (callG lenG (consM (vM 1) nilM))) (callG allG (consM (compM (src1 (callG lenG (consM (vM 1) nilM))) (.nm 2) yesB (appM 2 φlaw_same (consM (op2M ixG (vM 0) (vM 2)) (consM (op2M ixG (vM 1) (vM 2)) nilM)) []) [2]) nilM))))) nxM)
  (seqM (ifSM (orB (cmpB neG (callG isiA (consM (vM 0) (consM (cM (.raw (.ty "bool"))) nilM))) (callG isiA (consM (vM 1) (consM (cM (.raw (.ty "bool"))) nilM)))) (cmpB neG (callG isiA (consM (vM 0) (consM (cM (.raw (.ty "str"))) nilM))) (callG isiA (consM (vM 1) (consM (cM (.raw (.ty "str"))) nilM))))) (retM (cM (.bl false))) nxM)
  (retM (andM (op2M eqG (op2M isG (vM 0) (cM .non)) (op2M isG (vM 1) (cM .non))) (op2M eqG (vM 0) (vM 1))))))
noncomputable def grp_law_same (A : Ad) : Nat → Fn
  | 0 => (stuckF)
  | n + 1 => (defM 3 (m_law_same A ((grp_law_same A n))))
noncomputable def φn_law_same (A : Ad) (n : Nat) : Fn := (grp_law_same A n)
noncomputable def φlaw_same (A : Ad) : Fn := φn_law_same A 40
noncomputable def m_Hall_walls (A : Ad)  : MS := (retM (fldM A.Hall "signs" (vM 0)))
noncomputable def φHall_walls (A : Ad) : Fn := defM 1 (m_Hall_walls A )
noncomputable def m_is_part (A : Ad) (φis_side : Fn) : MS := (seqM (ifSM (notB (trM (callG allG (consM (compM (srcV (vM 1)) (.nm 2) yesB (appM 2 φis_side (consM (vM 0) (consM (vM 2) nilM)) []) [2]) nilM)))) (retM (cM (.bl false))) nxM)
  (retM (callG allG (consM (compM (srcZ (vM 1) (slM (vM 1) (soO (cM (.int 1))) noO)) (.tp [(.nm 3), (.nm 4)]) yesB (op2M ltG (mtS lowerG (vM 3) nilM) (mtS lowerG (vM 4) nilM)) [3, 4]) nilM))))
noncomputable def φis_part (A : Ad) : Fn := defM 5 (m_is_part A (φis_side A))
noncomputable def m_look_part (A : Ad) (φHall_walls : Fn) (φis_part : Fn) : MS := (ifSM (notB (trM (appM 2 φis_part (consM (methM A.Hall "walls" 1 φHall_walls (vM 0) nilM []) (consM (vM 1) nilM)) []))) (raiseM (mkxM A.BadPart 0 ["word"] gx_BadPart nilM)) nxM)
noncomputable def φlook_part (A : Ad) : Fn := defM 2 (m_look_part A (φHall_walls A) (φis_part A))
noncomputable def m_Hall_forced (A : Ad) (φis_side : Fn) : MS := (seqM (ifSM (notB (trM (appM 2 φis_side (consM (fldM A.Hall "signs" (vM 0)) (consM (vM 1) nilM)) []))) (raiseM (mkxM A.BadSide 0 ["word"] gx_BadSide nilM)) nxM)
  (retM (op2M ixG (fldM A.Hall "force" (vM 0)) (vM 1))))
noncomputable def φHall_forced (A : Ad) : Fn := defM 2 (m_Hall_forced A (φis_side A))
noncomputable def m_all_forced (A : Ad) (φHall_forced : Fn) (φin_order : Fn) : MS := (retM (appM 1 φin_order (consM (setSM (srcV (vM 1)) (.nm 2) yesB (srcV (methM A.Hall "forced" 2 φHall_forced (vM 0) (consM (vM 2) nilM) [])) (.nm 3) yesB (vM 3) [2, 3] [3]) nilM) []))
noncomputable def φall_forced (A : Ad) : Fn := defM 4 (m_all_forced A (φHall_forced A) (φin_order A))
noncomputable def m_shut (A : Ad) (φlook_part : Fn) (φall_forced : Fn) (φHall_walls : Fn) (φother : Fn) : MS := (seqM (exprM (appM 2 φlook_part (consM (vM 0) (consM (vM 1) nilM)) []))
  (seqM (asgM 2 (appM 2 φall_forced (consM (vM 0) (consM (vM 1) nilM)) []))
  (seqM (forM (srcV (methM A.Hall "walls" 1 φHall_walls (vM 0) nilM [])) (.nm 3) (ifSM (andB (cmpB inG (vM 3) (vM 2)) (cmpB inG (appM 1 φother (consM (vM 3) nilM) []) (vM 2))) (raiseM (mkxM A.Empty 1 ["wall", "word"] gx_Empty (consM (vM 3) nilM))) nxM))
  (retM (vM 2)))))
noncomputable def φshut (A : Ad) : Fn := defM 4 (m_shut A (φlook_part A) (φall_forced A) (φHall_walls A) (φother A))
noncomputable def m_law_told (A : Ad) (φshut : Fn) : MS := (seqM (tryM (ctOf [(A.Empty, true)]) 3 (fun a dd => (asgM 2 (callG tupG (consM (xfM a dd "word" (vM 3)) (consM (xfM a dd "wall" (vM 3)) nilM))))) (asgM 2 (appM 2 φshut (consM (vM 0) (consM (vM 1) nilM)) [])))
  (retM (vM 2)))
end NC
namespace SL
open PySem PySem.Spec L2
open PyProof.Rows hiding St
section
variable {X : Cx} {W : WX} {tg a b c e o : Expr} {es : List Expr} {ma mb mc mo : ME} {ms : MA} {p pos p1 p2 p3 p4 apos cpos : Pos} {x : Str} {k : Nat}
end
section
variable {X : Cx} {W : WX} {e : Expr} {es : List Expr} {ms : MA} {p pos : Pos} {x : Str} {k n : Nat} {f : Addr} {fd : FuncData} {ps : List Str} {φ : Fn} {dD : List D} {dvs : List V}
theorem pd_callE (F : FnOk X.prog X.w X.K X.mg X.base (L2.CX X.prog X.w) k f fd ps (spD n φ)) (hr : Room k X.A) (hm : X.mg x = some (.ref f)) (hk : PySem.W.keepIn X.K (.ref f) = true) (hb : ∃ ds, Vals dvs ds ∧ Binds X.K fd ps ds) (hD : ∀ H ρ, Reps H ρ dD dvs) (tk : TkW X W)
    (ha : PA X (e :: es) (tA W ms)) (hg : Gl X x := by rfl) (hdb : (x == ("__debug__" : Str)) = false := by decide) (he : starEach (e :: es) X.env = (false, eval e X.env) :: starEach es X.env := by rfl) (hpl : (backTo pos (starEach es X.env)).any (·.1) = false := by rfl) :
    PE X (.Call (.Name x p) (e :: es) [] pos) (tE W (appM n φ ms dD)) := by
  obtain ⟨ds, hd, hb⟩ := hb
  exact pd_callD F hr hm hk hb hd hD tk ha hg hdb he hpl
end
end SL
namespace NC
open PySem PySem.Spec L2 SL
end NC
namespace SL
open PySem PySem.Spec L2
open PyProof.Rows hiding St
section
variable {X : Cx}
end
end SL
namespace NC
open PySem PySem.Spec L2 SL
end NC
namespace SL
open PySem PySem.Spec L2
open PyProof.Rows hiding St
noncomputable def drawM : MS := (seqM (ifSM (andB (cmpB ltG (op2M ixG (vM 0) (cM (.int 2))) (vM 1)) (cmpB ltG (op2M ixG (vM 0) (cM (.int 1))) (callG lenG (consM (op2M ixG (vM 0) (cM (.int 0))) nilM)))) (seqM (asgM 2 (op2M ixG (op2M ixG (vM 0) (cM (.int 0))) (op2M ixG (vM 0) (cM (.int 1)))))
  (seqM (setIM (vM 0) (cM (.int 1)) (op2M addG (op2M ixG (vM 0) (cM (.int 1))) (cM (.int 1))))
  (seqM (setIM (vM 0) (cM (.int 2)) (ifM (cmpB geG (vM 2) (op2M powG (cM (.int 10)) (cM (.int 18)))) (vM 2) (cM (.int 0))))
  (setIM (vM 0) (cM (.int 3)) (op2M modG (op2M addG (op2M addG (op2M mulG (op2M ixG (vM 0) (cM (.int 3))) (cM (.int 69621))) (op2M modG (vM 2) (cM (.int 998244353)))) (cM (.int 1))) (cM (.int 2147483647))))))) nxM)
  (seqM (ifSM (cmpB geG (op2M ixG (vM 0) (cM (.int 2))) (vM 1)) (seqM (asgM 3 (op2M modG (op2M ixG (vM 0) (cM (.int 2))) (vM 1)))
  (seqM (setIM (vM 0) (cM (.int 2)) (op2M fdivG (op2M ixG (vM 0) (cM (.int 2))) (vM 1)))
  (retM (vM 3)))) nxM)
  (seqM (setIM (vM 0) (cM (.int 4)) (op2M addG (op2M ixG (vM 0) (cM (.int 4))) (cM (.int 1))))
  (seqM (asgM 4 (op2M addG (op2M addG (op2M mulG (op2M ixG (vM 0) (cM (.int 3))) (cM (.int 16807))) (op2M mulG (op2M ixG (vM 0) (cM (.int 4))) (cM (.int 40692)))) (cM (.int 7))))
  (seqM (asgM 4 (op2M addG (op2M mulG (vM 4) (op2M addG (op2M modG (vM 4) (cM (.int 65521))) (cM (.int 3)))) (op2M mulG (op2M ixG (vM 0) (cM (.int 4))) (cM (.int 9176)))))
  (seqM (setIM (vM 0) (cM (.int 3)) (op2M modG (vM 4) (cM (.int 2147483629))))
  (retM (op2M modG (op2M addG (op2M fdivG (op2M ixG (vM 0) (cM (.int 3))) (cM (.int 32))) (op2M mulG (op2M modG (op2M ixG (vM 0) (cM (.int 3))) (cM (.int 8191))) (cM (.int 13)))) (vM 1)))))))))
theorem gAddI {S : Store} {x y : Int} : addG S (.int x) (.int y) = some (.int (x + y)) := rfl
theorem gAddS {S : Store} {x y : List Nat} (h : x.length + y.length ≤ 1000000) : addG S (.str x) (.str y) = some (.str (x ++ y)) := if_pos h
theorem gMulI {S : Store} {x y : Int} (h1 : -(2 ^ 64) < y) (h2 : y < 2 ^ 64) : mulG S (.int x) (.int y) = some (.int (x * y)) := if_pos (.inl (.inr ⟨h1, h2⟩))
theorem gModI {S : Store} {x y : Int} (h : 0 < y) : modG S (.int x) (.int y) = some (.int (x % y)) := if_pos h
theorem gFdivI {S : Store} {x y : Int} (h : 0 < y) (h2 : y.natAbs.log2 < 9000) : fdivG S (.int x) (.int y) = some (.int (x / y)) := if_pos ⟨h, h2⟩
theorem gLtI {S : Store} {x y : Int} : ltG S (.int x) (.int y) = some (.bl (decide (x < y))) := rfl
theorem gLeI {S : Store} {x y : Int} : leG S (.int x) (.int y) = some (.bl (decide (x ≤ y))) := rfl
theorem gGeI {S : Store} {x y : Int} : geG S (.int x) (.int y) = some (.bl (decide (y ≤ x))) := rfl
theorem gEqI {S : Store} {x y : Int} : eqG S (.int x) (.int y) = some (.bl (decide (x = y))) := rfl
theorem gEqS {S : Store} {x y : List Nat} : eqG S (.str x) (.str y) = some (.bl (decide (x = y))) := rfl
theorem gInC {S : Store} {c : Nat} {z : List Nat} : inG S (.str [c]) (.str z) = some (.bl (decide (c ∈ z))) := rfl
theorem gLenS {S : Store} {z : List Nat} (h : z.length ≤ 1000000) : lenG S [.str z] = some (.int z.length) := by
  show (match (if z.length ≤ 1000000 then some z.length else none : Option Nat) with | some n => some (D.int n) | none => none) = _
  rw [if_pos h]
theorem gPow {S : Store} {x y : Int} (h : 0 ≤ y ∧ y ≤ 1000000 ∧ x.natAbs < 2 ^ 64) : powG S (.int x) (.int y) = some (.int (x ^ y.toNat)) := if_pos h
theorem gIxL {S : Store} {ds : List D} {n : Nat} {d : D} (h : ds[n]? = some d) : ixG S (.lst ds) (.int n) = some d := by
  have hl := (List.getElem?_eq_some_iff.mp h).1
  show atI ds n = some d
  unfold atI ixN
  rw [if_pos (by omega), if_pos (by omega)]
  simpa using h
theorem gIxT {S : Store} {ds : List D} {n : Nat} {d : D} (h : ds[n]? = some d) : ixG S (.tup ds) (.int n) = some d := by
  have hl := (List.getElem?_eq_some_iff.mp h).1
  show atI ds n = some d
  unfold atI ixN
  rw [if_pos (by omega), if_pos (by omega)]
  simpa using h
theorem gIxS {S : Store} {l : List Nat} {n c : Nat} (hz : l.length ≤ 1000000) (h : l[n]? = some c) : ixG S (.str l) (.int n) = some (.str [c]) := by
  have hl := (List.getElem?_eq_some_iff.mp h).1
  show (if l.length ≤ 1000000 then (match atI l n with | some c => some (D.str [c]) | none => none) else none) = _
  rw [if_pos hz]
  unfold atI ixN
  rw [if_pos (by omega), if_pos (by omega)]
  simp [h]
theorem cut_nat {α : Type} (l : List α) (p q : Nat) : cutL l (some (p : Int)) (some (q : Int)) = (l.drop p).take (q - p) := by
  unfold cutL
  rw [HT.sIx_nat, HT.sIx_nat]
  by_cases hp : p ≤ l.length
  · rw [Nat.min_eq_left hp]
    by_cases hq : q ≤ l.length
    · rw [Nat.min_eq_left hq]
    · rw [Nat.min_eq_right (by omega), List.take_of_length_le (by rw [List.length_drop]; omega), List.take_of_length_le (by rw [List.length_drop]; omega)]
  · rw [Nat.min_eq_right (by omega : l.length ≤ p), List.drop_of_length_le (Nat.le_refl _), List.drop_of_length_le (by omega : l.length ≤ p)]
    simp
theorem cut_to {α : Type} (l : List α) (q : Nat) : cutL l none (some (q : Int)) = l.take q := by
  have := cut_nat l 0 q
  simpa [cutL, HT.sIx] using this
theorem cut_from {α : Type} (l : List α) (p : Nat) : cutL l (some (p : Int)) none = l.drop p := by
  unfold cutL
  rw [HT.sIx_nat, HT.sIx_none]
  by_cases hp : p ≤ l.length
  · rw [Nat.min_eq_left hp, List.take_of_length_le (by rw [List.length_drop]; omega)]
  · rw [Nat.min_eq_right (by omega : l.length ≤ p), List.drop_of_length_le (Nat.le_refl _), List.drop_of_length_le (by omega : l.length ≤ p)]
    simp
section
variable {ns : List Int} {i w s c x : Int} {T : Store}
theorem dr0 : ixG (drawS ns i w s c :: T) (.loc 0) (.int 0) = some (.lst (ns.map D.int)) := rfl
theorem dr1 : ixG (drawS ns i w s c :: T) (.loc 0) (.int 1) = some (.int i) := rfl
theorem dr2 : ixG (drawS ns i w s c :: T) (.loc 0) (.int 2) = some (.int w) := rfl
theorem dr3 : ixG (drawS ns i w s c :: T) (.loc 0) (.int 3) = some (.int s) := rfl
theorem dr4 : ixG (drawS ns i w s c :: T) (.loc 0) (.int 4) = some (.int c) := rfl
theorem dfold : Cell.lst [.lst (ns.map D.int), .int i, .int w, .int s, .int c] = drawS ns i w s c := rfl
theorem drL : locL (drawS ns i w s c :: T) (.loc 0) = some (0, [.lst (ns.map D.int), .int i, .int w, .int s, .int c]) := rfl
theorem st1 : setG [.lst (ns.map D.int), .int i, .int w, .int s, .int c] (.int 1) (.int x) = some [.lst (ns.map D.int), .int x, .int w, .int s, .int c] := rfl
theorem st2 : setG [.lst (ns.map D.int), .int i, .int w, .int s, .int c] (.int 2) (.int x) = some [.lst (ns.map D.int), .int i, .int x, .int s, .int c] := rfl
theorem st3 : setG [.lst (ns.map D.int), .int i, .int w, .int s, .int c] (.int 3) (.int x) = some [.lst (ns.map D.int), .int i, .int w, .int x, .int c] := rfl
theorem st4 : setG [.lst (ns.map D.int), .int i, .int w, .int s, .int c] (.int 4) (.int x) = some [.lst (ns.map D.int), .int i, .int w, .int s, .int x] := rfl
theorem fin_same {S S' : Store} {d : D} (h : fz S.length S' d = some d) (hl : S'.length = S.length) : finV S d S' = .ok d S' := by
  unfold finV
  rw [h]
  simp only
  split
  · rw [← hl, List.take_length]
  · rfl
theorem fin_int {S S' : Store} {j : Int} (hl : S'.length = S.length) : finV S (.int j) S' = .ok (.int j) S' := fin_same rfl hl
theorem draw_run {m : Int} (hi : 0 ≤ i) (hm : 0 < m) (hm2 : m < 2 ^ 64) : ∃ r i' w' s' c', 0 ≤ i' ∧ 0 ≤ r ∧ r < m ∧ defM 5 drawM [.loc 0, .int m] (drawS ns i w s c :: T) = .ok (.int r) (drawS ns i' w' s' c' :: T) := by
  have hlog : m.natAbs.log2 < 9000 := by
    have : m.natAbs < 2 ^ 64 := by omega
    have h2 : m.natAbs.log2 < 64 := (Nat.log2_lt (by omega)).mpr this
    omega
  have e9 : ∀ S (x : Int), modG S (.int x) (.int m) = some (.int (x % m)) := fun S x => gModI hm
  have e0 : ∀ S (x : Int), fdivG S (.int x) (.int m) = some (.int (x / m)) := fun S x => gFdivI hm hlog
  have tail : ∀ i w s c b, ∃ r s' c', 0 ≤ r ∧ r < m ∧ (seqM (setIM (vM 0) (cM (.int 4)) (op2M addG (op2M ixG (vM 0) (cM (.int 4))) (cM (.int 1))))
  (seqM (asgM 4 (op2M addG (op2M addG (op2M mulG (op2M ixG (vM 0) (cM (.int 3))) (cM (.int 16807))) (op2M mulG (op2M ixG (vM 0) (cM (.int 4))) (cM (.int 40692)))) (cM (.int 7))))
  (seqM (asgM 4 (op2M addG (op2M mulG (vM 4) (op2M addG (op2M modG (vM 4) (cM (.int 65521))) (cM (.int 3)))) (op2M mulG (op2M ixG (vM 0) (cM (.int 4))) (cM (.int 9176)))))
  (seqM (setIM (vM 0) (cM (.int 3)) (op2M modG (vM 4) (cM (.int 2147483629))))
  (retM (op2M modG (op2M addG (op2M fdivG (op2M ixG (vM 0) (cM (.int 3))) (cM (.int 32))) (op2M mulG (op2M modG (op2M ixG (vM 0) (cM (.int 3))) (cM (.int 8191))) (cM (.int 13)))) (vM 1))))))) [some (.loc 0), some (.int m), b, none, none] (drawS ns i w s c :: T) = .rt (.int r) (drawS ns i w s' c' :: T) := by
    intro i w s c b
    refine ⟨((((s * 16807 + (c + 1) * 40692 + 7) * ((s * 16807 + (c + 1) * 40692 + 7) % 65521 + 3) + (c + 1) * 9176) % 2147483629) / 32 + (((s * 16807 + (c + 1) * 40692 + 7) * ((s * 16807 + (c + 1) * 40692 + 7) % 65521 + 3) + (c + 1) * 9176) % 2147483629) % 8191 * 13) % m, ((s * 16807 + (c + 1) * 40692 + 7) * ((s * 16807 + (c + 1) * 40692 + 7) % 65521 + 3) + (c + 1) * 9176) % 2147483629, c + 1, Int.emod_nonneg _ (by omega), Int.emod_lt_of_pos _ hm, ?_⟩
    have e1 : ∀ S, mulG S (.int s) (.int 16807) = some (.int (s * 16807)) := fun S => gMulI (by omega) (by omega)
    have e2 : ∀ S, mulG S (.int (c + 1)) (.int 40692) = some (.int ((c + 1) * 40692)) := fun S => gMulI (by omega) (by omega)
    have e3 : ∀ S, mulG S (.int (c + 1)) (.int 9176) = some (.int ((c + 1) * 9176)) := fun S => gMulI (by omega) (by omega)
    generalize hm1 : s * 16807 + (c + 1) * 40692 + 7 = m1
    have e4 : ∀ S, mulG S (.int m1) (.int (m1 % 65521 + 3)) = some (.int (m1 * (m1 % 65521 + 3))) := fun S => gMulI (by omega) (by omega)
    have e5 : ∀ S (x : Int), mulG S (.int x) (.int 13) = some (.int (x * 13)) := fun S x => gMulI (by omega) (by omega)
    have e6 : ∀ S (x : Int), modG S (.int x) (.int 65521) = some (.int (x % 65521)) := fun S x => gModI (by omega)
    have e7 : ∀ S (x : Int), modG S (.int x) (.int 2147483629) = some (.int (x % 2147483629)) := fun S x => gModI (by omega)
    have e8 : ∀ S (x : Int), modG S (.int x) (.int 8191) = some (.int (x % 8191)) := fun S x => gModI (by omega)
    have e10 : ∀ S (x : Int), fdivG S (.int x) (.int 32) = some (.int (x / 32)) := fun S x => gFdivI (by omega) (by decide)
    simp only [seqM, setIM, asgM, retM, op2M, cM, vM, dr3, dr4, drL, gAddI, st3, st4, bindS_ok, bind_ok, RO_some, e1, e2, e3, e4, e5, e6, e7, e8, e9, e10, hm1, List.getElem?_cons_zero, List.getElem?_cons_succ, List.set_cons_zero, List.set_cons_succ, dfold]
  have rest : ∀ i w s c b, ∃ r w' s' c', 0 ≤ r ∧ r < m ∧ (seqM (ifSM (cmpB geG (op2M ixG (vM 0) (cM (.int 2))) (vM 1)) (seqM (asgM 3 (op2M modG (op2M ixG (vM 0) (cM (.int 2))) (vM 1)))
  (seqM (setIM (vM 0) (cM (.int 2)) (op2M fdivG (op2M ixG (vM 0) (cM (.int 2))) (vM 1)))
  (retM (vM 3)))) nxM)
  (seqM (setIM (vM 0) (cM (.int 4)) (op2M addG (op2M ixG (vM 0) (cM (.int 4))) (cM (.int 1))))
  (seqM (asgM 4 (op2M addG (op2M addG (op2M mulG (op2M ixG (vM 0) (cM (.int 3))) (cM (.int 16807))) (op2M mulG (op2M ixG (vM 0) (cM (.int 4))) (cM (.int 40692)))) (cM (.int 7))))
  (seqM (asgM 4 (op2M addG (op2M mulG (vM 4) (op2M addG (op2M modG (vM 4) (cM (.int 65521))) (cM (.int 3)))) (op2M mulG (op2M ixG (vM 0) (cM (.int 4))) (cM (.int 9176)))))
  (seqM (setIM (vM 0) (cM (.int 3)) (op2M modG (vM 4) (cM (.int 2147483629))))
  (retM (op2M modG (op2M addG (op2M fdivG (op2M ixG (vM 0) (cM (.int 3))) (cM (.int 32))) (op2M mulG (op2M modG (op2M ixG (vM 0) (cM (.int 3))) (cM (.int 8191))) (cM (.int 13)))) (vM 1)))))))) [some (.loc 0), some (.int m), b, none, none] (drawS ns i w s c :: T) = .rt (.int r) (drawS ns i w' s' c' :: T) := by
    intro i w s c b
    by_cases hw : m ≤ w
    · refine ⟨w % m, w / m, s, c, Int.emod_nonneg _ (by omega), Int.emod_lt_of_pos _ hm, ?_⟩
      simp only [seqM, ifSM, cmpB, setIM, asgM, retM, op2M, cM, vM, dr2, drL, st2, gGeI, asB, bindS_ok, bind_ok, RO_some, e9, e0, hw, decide_true, if_true, List.getElem?_cons_zero, List.getElem?_cons_succ, List.set_cons_zero, List.set_cons_succ, dfold]
    · obtain ⟨r, s', c', h1, h2, h3⟩ := tail i w s c b
      refine ⟨r, w, s', c', h1, h2, ?_⟩
      rw [seqM]
      have : (ifSM (cmpB geG (op2M ixG (vM 0) (cM (.int 2))) (vM 1)) (seqM (asgM 3 (op2M modG (op2M ixG (vM 0) (cM (.int 2))) (vM 1)))
  (seqM (setIM (vM 0) (cM (.int 2)) (op2M fdivG (op2M ixG (vM 0) (cM (.int 2))) (vM 1)))
  (retM (vM 3)))) nxM) [some (.loc 0), some (.int m), b, none, none] (drawS ns i w s c :: T) = .nx [some (.loc 0), some (.int m), b, none, none] (drawS ns i w s c :: T) := by
        simp only [ifSM, cmpB, op2M, cM, vM, dr2, gGeI, asB, bindS_ok, bind_ok, RO_some, hw, decide_false, Bool.false_eq_true, if_false, nxM, List.getElem?_cons_zero, List.getElem?_cons_succ]
      rw [this]
      exact h3
  have first : ∃ i1 w1 s1 b, 0 ≤ i1 ∧ (ifSM (andB (cmpB ltG (op2M ixG (vM 0) (cM (.int 2))) (vM 1)) (cmpB ltG (op2M ixG (vM 0) (cM (.int 1))) (callG lenG (consM (op2M ixG (vM 0) (cM (.int 0))) nilM)))) (seqM (asgM 2 (op2M ixG (op2M ixG (vM 0) (cM (.int 0))) (op2M ixG (vM 0) (cM (.int 1)))))
  (seqM (setIM (vM 0) (cM (.int 1)) (op2M addG (op2M ixG (vM 0) (cM (.int 1))) (cM (.int 1))))
  (seqM (setIM (vM 0) (cM (.int 2)) (ifM (cmpB geG (vM 2) (op2M powG (cM (.int 10)) (cM (.int 18)))) (vM 2) (cM (.int 0))))
  (setIM (vM 0) (cM (.int 3)) (op2M modG (op2M addG (op2M addG (op2M mulG (op2M ixG (vM 0) (cM (.int 3))) (cM (.int 69621))) (op2M modG (vM 2) (cM (.int 998244353)))) (cM (.int 1))) (cM (.int 2147483647))))))) nxM) [some (.loc 0), some (.int m), none, none, none] (drawS ns i w s c :: T) = .nx [some (.loc 0), some (.int m), b, none, none] (drawS ns i1 w1 s1 c :: T) := by
    have hlen : ∀ S : Store, lenG S [.lst (ns.map D.int)] = some (.int (ns.length : Nat)) := fun S => by
      show some (D.int ((ns.map D.int).length : Nat)) = _
      rw [List.length_map]
    by_cases h1 : w < m
    · by_cases h2 : i < ns.length
      · have hx : ∃ x, ns[i.toNat]? = some x := ⟨_, List.getElem?_eq_getElem (by omega)⟩
        obtain ⟨x, hx⟩ := hx
        have ex : ∀ S : Store, ixG S (.lst (ns.map D.int)) (.int i) = some (.int x) := fun S => by
          have hii : i = (i.toNat : Int) := by omega
          rw [hii]
          exact gIxL (by rw [List.getElem?_map, hx]; rfl)
        have e5 : ∀ S (y : Int), mulG S (.int y) (.int 69621) = some (.int (y * 69621)) := fun S y => gMulI (by omega) (by omega)
        have e6 : ∀ S (y : Int), modG S (.int y) (.int 998244353) = some (.int (y % 998244353)) := fun S y => gModI (by omega)
        have e7 : ∀ S (y : Int), modG S (.int y) (.int 2147483647) = some (.int (y % 2147483647)) := fun S y => gModI (by omega)
        have ep : ∀ S, powG S (.int 10) (.int 18) = some (.int (10 ^ 18)) := fun S => gPow (by decide)
        by_cases h3 : (10 ^ 18 : Int) ≤ x
        · refine ⟨i + 1, x, (s * 69621 + x % 998244353 + 1) % 2147483647, some (.int x), by omega, ?_⟩
          simp only [seqM, ifSM, ifM, andB, cmpB, setIM, asgM, callG, consM, nilM, op2M, cM, vM, dr0, dr1, dr2, dr3, drL, st1, st2, st3, gGeI, gLtI, gAddI, hlen, ex, e5, e6, e7, ep, asB, bindS_ok, bind_ok, RO_some, h1, h2, h3, decide_true, if_true, List.getElem?_cons_zero, List.getElem?_cons_succ, List.set_cons_zero, List.set_cons_succ, dfold]
        · refine ⟨i + 1, 0, (s * 69621 + x % 998244353 + 1) % 2147483647, some (.int x), by omega, ?_⟩
          simp only [seqM, ifSM, ifM, andB, cmpB, setIM, asgM, callG, consM, nilM, op2M, cM, vM, dr0, dr1, dr2, dr3, drL, st1, st2, st3, gGeI, gLtI, gAddI, hlen, ex, e5, e6, e7, ep, asB, bindS_ok, bind_ok, RO_some, h1, h2, h3, decide_true, decide_false, Bool.false_eq_true, if_false, if_true, List.getElem?_cons_zero, List.getElem?_cons_succ, List.set_cons_zero, List.set_cons_succ, dfold]
      · refine ⟨i, w, s, none, hi, ?_⟩
        simp only [ifSM, andB, cmpB, callG, consM, nilM, op2M, cM, vM, dr0, dr1, dr2, gLtI, hlen, asB, bindS_ok, bind_ok, RO_some, h1, h2, decide_true, decide_false, Bool.false_eq_true, if_false, if_true, nxM, List.getElem?_cons_zero, List.getElem?_cons_succ]
    · refine ⟨i, w, s, none, hi, ?_⟩
      simp only [ifSM, andB, cmpB, op2M, cM, vM, dr2, gLtI, asB, bindS_ok, bind_ok, RO_some, h1, decide_false, Bool.false_eq_true, if_false, nxM, List.getElem?_cons_zero, List.getElem?_cons_succ]
  obtain ⟨i1, w1, s1, b, hi1, ef⟩ := first
  obtain ⟨r, w', s', c', hr0, hr1, er⟩ := rest i1 w1 s1 c b
  refine ⟨r, i1, w', s', c', hi1, hr0, hr1, ?_⟩
  have hs : startD 5 [D.loc 0, .int m] = [some (.loc 0), some (.int m), none, none, none] := rfl
  unfold defM drawM
  rw [hs, seqM, ef]
  simp only
  rw [er]
  exact fin_int rfl
end
mutual
theorem okD_up : ∀ (d : D) (n : Nat), okD 0 d = true → okD n d = true
  | .loc m, n, h => by simp [okD] at h
  | .tup ds, n, h => by simp only [okD] at h ⊢; exact okL_up ds n h
  | .lst ds, n, h => by simp only [okD] at h ⊢; exact okL_up ds n h
  | .dct ks ds, n, h => by simp only [okD] at h ⊢; exact okL_up ds n h
  | .obj C ns ds, n, h => by simp only [okD] at h ⊢; exact okL_up ds n h
  | .exn a b ns ds, n, h => by simp only [okD] at h ⊢; exact okL_up ds n h
  | .non, n, h => rfl
  | .bl _, n, h => rfl
  | .int _, n, h => rfl
  | .str _, n, h => rfl
  | .raw _, n, h => rfl
theorem okL_up : ∀ (ds : List D) (n : Nat), okL 0 ds = true → okL n ds = true
  | [], n, h => rfl
  | d :: ds, n, h => by
    simp only [okL, Bool.and_eq_true] at h ⊢
    exact ⟨okD_up d n h.1, okL_up ds n h.2⟩
end
theorem fzN_ok {n f : Nat} {S : Store} {d : D} (h : okD n d = true) : fzN n S f d = some d := by
  cases f <;> simp only [fzN, if_pos h]
theorem fz_ok {n : Nat} {S : Store} {d : D} (h : okD n d = true) : fz n S d = some d := fzN_ok h
theorem fz_cl {n : Nat} {S : Store} {d : D} (h : okD 0 d = true) : fz n S d = some d := fz_ok (okD_up _ n h)
theorem allO_cl {n f : Nat} {S : Store} : ∀ {ds : List D}, okL n ds = true → allO (fzN n S f) ds = some ds
  | [], _ => rfl
  | d :: ds, h => by
    simp only [okL, Bool.and_eq_true] at h
    simp only [allO, fzN_ok h.1, allO_cl h.2]
theorem fin_cl {S S' : Store} {d : D} (h : okD 0 d = true) (hl : S'.length = S.length) : finV S d S' = .ok d S' := fin_same (fz_cl h) hl
theorem rt_fin {S : Store} {d : D} (h : okD 0 d = true) : finD S (.rt d S) = .ok d S := fin_cl h rfl
theorem okL_iff {n : Nat} : ∀ {ds : List D}, okL n ds = true ↔ ∀ d ∈ ds, okD n d = true
  | [] => by simp [okL]
  | d :: ds => by simp [okL, okL_iff]
theorem fin_cut {S S' t : Store} {d e : D} (h : fz S.length (S' ++ t) d = some e) (hl : S'.length = S.length) (hs : Settles S S') : finV S d (S' ++ t) = .ok e S' := by
  unfold finV
  rw [h]
  simp only
  have hs2 : Settles S (S' ++ t) := fun i c hi e => hs i c hi (by rwa [List.getElem?_append_left (by omega)] at e)
  rw [if_pos hs2, ← hl, List.take_left]
theorem finX_cut {S S' t : Store} {x : Ex} (h : okL 0 x.ds = true) (hl : S'.length = S.length) (hs : Settles S S') : finX S x (S' ++ t) = .exc x S' := by
  unfold finX
  have hs2 : Settles S (S' ++ t) := fun i c hi e => hs i c hi (by rwa [List.getElem?_append_left (by omega)] at e)
  rw [if_pos ⟨okL_up _ _ h, hs2⟩, ← hl, List.take_left]
theorem Settles.set {S : Store} {n : Nat} {c : Cell} (h : okC 0 c = true) : Settles S (S.set n c) := fun i d hi e => by
  by_cases hn : n = i
  · subst hn
    rw [List.getElem?_set_self hi] at e
    cases e
    right
    cases c with
    | lst ds => exact okL_up ds _ h
    | dct ks ds => exact okL_up ds _ h
    | obj C ns ds => exact okL_up ds _ h
    | tab P q => rfl
    | emp P q es => rfl
    | fn κ j l => rfl
  · rw [List.getElem?_set_ne hn] at e
    exact .inl e
def Dw (T S : Store) : Prop := ∃ ns i w s c, 0 ≤ i ∧ S = drawS ns i w s c :: T
theorem okC_draw {ns : List Int} {i w s c : Int} : okC 0 (drawS ns i w s c) = true := by
  have : okL 0 (ns.map D.int) = true := okL_iff.mpr fun d hd => by
    obtain ⟨x, _, rfl⟩ := List.mem_map.mp hd
    rfl
  show okL 0 [.lst (ns.map D.int), .int i, .int w, .int s, .int c] = true
  simp [okL, okD, this]
theorem Dw.len {T S : Store} (h : Dw T S) : S.length = T.length + 1 := by
  obtain ⟨ns, i, w, s, c, _, rfl⟩ := h
  rfl
theorem Dw.settles {T S S' : Store} (h : Dw T S) (h' : Dw T S') : Settles S S' := by
  obtain ⟨ns, i, w, s, c, _, rfl⟩ := h
  obtain ⟨ns', i', w', s', c', _, rfl⟩ := h'
  have := Settles.set (S := drawS ns i w s c :: T) (n := 0) (c := drawS ns' i' w' s' c') okC_draw
  simpa using this
theorem Dw.app {T S t : Store} (h : Dw T S) : Dw (T ++ t) (S ++ t) := by
  obtain ⟨ns, i, w, s, c, hi, rfl⟩ := h
  exact ⟨ns, i, w, s, c, hi, rfl⟩
theorem Dw.cut {T S t : Store} (h : Dw (T ++ t) S) : ∃ S', Dw T S' ∧ S = S' ++ t := by
  obtain ⟨ns, i, w, s, c, hi, rfl⟩ := h
  exact ⟨_, ⟨ns, i, w, s, c, hi, rfl⟩, rfl⟩
theorem draw_dw {T S : Store} {m : Int} (h : Dw T S) (hm : 0 < m) (hm2 : m < 2 ^ 64) : ∃ r S', Dw T S' ∧ 0 ≤ r ∧ r < m ∧ defM 5 drawM [.loc 0, .int m] S = .ok (.int r) S' := by
  obtain ⟨ns, i, w, s, c, hi, rfl⟩ := h
  obtain ⟨r, i', w', s', c', h1, h2, h3, h4⟩ := draw_run (ns := ns) (w := w) (s := s) (c := c) (T := T) hi hm hm2
  exact ⟨r, _, ⟨ns, i', w', s', c', h1, rfl⟩, h2, h3, h4⟩
noncomputable def ofM (φ : Fn) : MS := (retM (op2M ixG (vM 1) (appM 2 φ (consM (vM 0) (consM (callG lenG (consM (vM 1) nilM)) nilM)) [])))
theorem of_lst {T S : Store} {ds : List D} (h : Dw T S) (hn : ds ≠ []) (hl : ds.length < 2 ^ 64) (hc : okL 0 ds = true) : ∃ d S', Dw T S' ∧ d ∈ ds ∧ defM 2 (ofM (defM 5 drawM)) [.loc 0, .lst ds] S = .ok d S' := by
  have hpos : 0 < ds.length := List.length_pos_iff.mpr hn
  obtain ⟨r, S', h1, h2, h3, h4⟩ := draw_dw (m := (ds.length : Int)) h (by omega) (by omega)
  obtain ⟨k, rfl⟩ : ∃ k : Nat, r = k := ⟨r.toNat, by omega⟩
  have hr : k < ds.length := by omega
  refine ⟨ds[k], S', h1, List.getElem_mem hr, ?_⟩
  have e : ixG S' (.lst ds) (.int k) = some ds[k] := gIxL (List.getElem?_eq_getElem hr)
  have hs : startD 2 [D.loc 0, .lst ds] = [some (.loc 0), some (.lst ds)] := rfl
  have hlen : lenG S [.lst ds] = some (.int ds.length) := rfl
  show finD S (ofM (defM 5 drawM) (startD 2 _) S) = _
  unfold ofM
  rw [hs]
  simp only [finD, retM, op2M, appM, consM, nilM, callG, vM, hlen, h4, e, bindS_ok, bind_ok, RO_some, List.getElem?_cons_zero, List.getElem?_cons_succ, List.append_nil, List.length_cons, List.length_nil, if_true, Nat.zero_add, Nat.reduceAdd]
  exact fin_cl (okL_iff.mp hc _ (List.getElem_mem hr)) (h1.len.trans h.len.symm)
theorem src1_of {ma : ME} {δ : DEnv} {S S1 : Store} {n : Nat} (h : ma δ S = .ok (.int n) S1) (hn : n ≤ 1000000000) : src1 ma δ S = .ok (.rng 0 1 n) S1 := by
  unfold src1
  rw [h]
  show (if (n : Int).natAbs ≤ 1000000000 then Res.ok (Src.rng 0 1 (n : Int).toNat) S1 else .stuck) = _
  rw [if_pos (by simpa using hn)]
  rfl
theorem rng_at {n k : Nat} {d : D} (h : ((List.range n).map fun (i : Nat) => D.int (0 + (i : Int) * 1))[k]? = some d) : k < n ∧ d = .int k := by
  have hk : k < n := by
    have := (List.getElem?_eq_some_iff.mp h).1
    simpa using this
  rw [List.getElem?_map, List.getElem?_range hk] at h
  refine ⟨hk, ?_⟩
  have := Option.some.inj h
  rw [← this]
  simp
theorem comp_gen {mi : DEnv → Store → Res Src} {el : ME} {i : Nat} {δ : DEnv} {S S1 : Store} {src : Src} {ds : List D} {Inv : Store → Prop} {P : Nat → D → Prop}
    (hmi : mi δ S = .ok src S1) (h1 : Inv S1) (hlen : ∀ S0, Inv S0 → S0.length = S1.length) (hset : ∀ S0, Inv S0 → Settles S1 S0)
    (hit : ∀ S0 t, Inv S0 → items (S0 ++ t) src = some ds) (hn : ds.length ≤ 1000000)
    (hel : ∀ (k : Nat) (d : D), ds[k]? = some d → ∀ S0 acc, Inv S0 → ∃ x S2, Inv S2 ∧ P k x ∧ okD 0 x = true ∧ el ((δ.set i none).set i (some d)) (S0 ++ [.lst acc]) = .ok x (S2 ++ [.lst acc])) :
    ∃ xs S2, Inv S2 ∧ xs.length = ds.length ∧ (∀ k x, xs[k]? = some x → P k x) ∧ okL 0 xs = true ∧ compM mi (.nm i) yesB el [i] δ S = .ok (.lst xs) S2 := by
  have key : ∀ (r : List D) (k : Nat) (acc : List D) (S0 : Store), ds.drop k = r → Inv S0 → acc.length = k → ∃ xs S2, Inv S2 ∧ xs.length = r.length ∧ (∀ j x, xs[j]? = some x → P (k + j) x) ∧ okL 0 xs = true ∧
      compL src (.nm i) yesB el S1.length ds (δ.set i none) r (S0 ++ [.lst acc]) = some (S2 ++ [.lst (acc ++ xs)]) := by
    intro r
    induction r with
    | nil =>
      intro k acc S0 hr hI ha
      refine ⟨[], S0, hI, rfl, fun j x e => by simp at e, rfl, ?_⟩
      unfold compL
      rw [if_pos (hit S0 _ hI), List.append_nil]
    | cons d r ih =>
      intro k acc S0 hr hI ha
      have hk : ds[k]? = some d := by
        have := congrArg (fun l => l[0]?) hr
        simpa using this
      have hr' : ds.drop (k + 1) = r := by
        have := congrArg List.tail hr
        simpa using this
      have hkl := (List.getElem?_eq_some_iff.mp hk).1
      obtain ⟨x, S2, hI2, hP, hok, he⟩ := hel k d hk S0 acc hI
      obtain ⟨xs, S3, hI3, hl, hP3, hok3, hc⟩ := ih (k + 1) (acc ++ [x]) S2 hr' hI2 (by simp [ha])
      refine ⟨x :: xs, S3, hI3, by simp [hl], fun j y e => ?_, by simp [okL, hok, hok3], ?_⟩
      · cases j with
        | zero => simp at e; subst e; exact hP
        | succ j =>
          simp at e
          have := hP3 j y e
          rwa [show k + 1 + j = k + (j + 1) by omega] at this
      · unfold compL
        rw [if_pos (hit S0 _ hI)]
        have ha2 : appC S1.length (S2 ++ [.lst acc]) x = some (S2 ++ [.lst (acc ++ [x])]) := by
          unfold appC
          have e1 : (S2 ++ [Cell.lst acc])[S1.length]? = some (.lst acc) := by rw [← hlen S2 hI2]; simp
          rw [e1]
          simp only
          rw [if_pos (by omega)]
          congr 1
          rw [← hlen S2 hI2, List.set_append_right _ _ (Nat.le_refl _)]
          simp
        simp only [bindT, yesB, he, ha2]
        rw [hc]
        simp
  obtain ⟨xs, S2, hI2, hl, hP, hok, hc⟩ := key ds 0 [] S1 rfl h1 rfl
  refine ⟨xs, S2, hI2, hl, fun k x e => by simpa using hP k x e, hok, ?_⟩
  unfold compM
  rw [hmi]
  have e0 : items S1 src = some ds := by simpa using hit S1 [] h1
  simp only [bind_ok, e0]
  have hw : wipeD δ [i] = δ.set i none := rfl
  rw [hw, hc]
  simp only [List.nil_append]
  unfold endC
  have e1 : (S2 ++ [Cell.lst xs])[S1.length]? = some (.lst xs) := by rw [← hlen S2 hI2]; simp
  rw [e1]
  simp only
  have hs : Settles S1 (S2 ++ [Cell.lst xs]) := fun j c hj e => hset S2 hI2 j c hj (by rwa [List.getElem?_append_left (by rw [hlen S2 hI2]; exact hj)] at e)
  rw [if_pos ⟨by rw [List.length_append, hlen S2 hI2]; rfl, okL_up _ _ hok, hs⟩, ← hlen S2 hI2, List.take_left]
section
variable {m1 m2 b : MS} {δ δ1 δ2 : DEnv} {S S1 S2 : Store} {d x : D} {e : Ex} {src : Src} {tg : Tg} {ds r : List D} {mi : DEnv → Store → Res Src} {me : ME} {nc : MB} {i : Nat}
theorem seq_nx (h : m1 δ S = .nx δ1 S1) : seqM m1 m2 δ S = m2 δ1 S1 := by rw [seqM, h]
theorem seq_rt (h : m1 δ S = .rt d S1) : seqM m1 m2 δ S = .rt d S1 := by rw [seqM, h]
theorem if_t (h : nc δ S = .ok true S1) : ifSM nc m1 m2 δ S = m1 δ S1 := by rw [ifSM, h]; simp
theorem if_f (h : nc δ S = .ok false S1) : ifSM nc m1 m2 δ S = m2 δ S1 := by rw [ifSM, h]; simp
theorem if_fnx (h : nc δ S = .ok false S1) : ifSM nc m1 nxM δ S = .nx δ S1 := by rw [if_f h]; rfl
theorem asg_ok (h : me δ S = .ok d S1) : asgM i me δ S = .nx (δ.set i (some d)) S1 := by rw [asgM, h]; rfl
theorem ret_ok (h : me δ S = .ok d S1) : retM me δ S = .rt d S1 := by rw [retM, h]; rfl
end
noncomputable def sameM (φ : Fn) : MS := (seqM (ifSM (trM (callG isiA (consM (vM 1) (consM (callG tupG (consM (cM (.raw (.ty "list"))) (consM (cM (.raw (.ty "tuple"))) nilM))) nilM)))) (seqM (ifSM (orB (cmpB neG (callG isiA (consM (vM 1) (consM (cM (.raw (.ty "list"))) nilM))) (callG isiA (consM (vM 0) (consM (cM (.raw (.ty "list"))) nilM)))) (cmpB neG (callG isiA (consM (vM 1) (consM (cM (.raw (.ty "tuple"))) nilM))) (callG isiA (consM (vM 0) (consM (cM (.raw (.ty "tuple"))) nilM))))) (retM (cM (.bl false))) nxM)
  (retM (andM (op2M eqG (callG lenG (consM (vM 0) nilM)) (callG lenG (consM (vM 1) nilM))) (callG allG (consM (compM (src1 (callG lenG (consM (vM 1) nilM))) (.nm 2) yesB (appM 2 φ (consM (op2M ixG (vM 0) (vM 2)) (consM (op2M ixG (vM 1) (vM 2)) nilM)) []) [2]) nilM))))) nxM)
  (seqM (ifSM (orB (cmpB neG (callG isiA (consM (vM 0) (consM (cM (.raw (.ty "bool"))) nilM))) (callG isiA (consM (vM 1) (consM (cM (.raw (.ty "bool"))) nilM)))) (cmpB neG (callG isiA (consM (vM 0) (consM (cM (.raw (.ty "str"))) nilM))) (callG isiA (consM (vM 1) (consM (cM (.raw (.ty "str"))) nilM))))) (retM (cM (.bl false))) nxM)
  (retM (andM (op2M eqG (op2M isG (vM 0) (cM .non)) (op2M isG (vM 1) (cM .non))) (op2M eqG (vM 0) (vM 1))))))
noncomputable def sameN : Nat → Fn
  | 0 => stuckF
  | n + 1 => defM 3 (sameM (sameN n))
def pl : Nat → D → Prop
  | 0, _ => False
  | n + 1, .tup ds => ds.length ≤ 100000 ∧ ∀ d ∈ ds, pl n d
  | n + 1, .lst ds => ds.length ≤ 100000 ∧ ∀ d ∈ ds, pl n d
  | _ + 1, .non => True
  | _ + 1, .bl _ => True
  | _ + 1, .int _ => True
  | _ + 1, .str _ => True
  | _ + 1, _ => False
theorem gEqB {S : Store} {a b : Bool} : eqG S (.bl a) (.bl b) = some (.bl (decide (a = b))) := by cases a <;> cases b <;> rfl
theorem gNeB {S : Store} {a b : Bool} : neG S (.bl a) (.bl b) = some (.bl (!decide (a = b))) := by cases a <;> cases b <;> rfl
theorem bs_all {xs : List D} (h : ∀ (k : Nat) (x : D), xs[k]? = some x → x = D.bl true) : ∃ bs, asBs xs = some bs ∧ bs.all id = true := by
  induction xs with
  | nil => exact ⟨[], rfl, rfl⟩
  | cons x xs ih =>
    obtain ⟨bs, e1, e2⟩ := ih fun k y e => h (k + 1) y (by simpa using e)
    have := h 0 x rfl
    subst this
    exact ⟨true :: bs, by simp [asBs, e1], by simpa using e2⟩
theorem same_seq {n : Nat} {ds : List D} (ih : ∀ d ∈ ds, ∀ S, sameN n [d, d] S = .ok (.bl true) S) (hl : ds.length ≤ 100000) {x : D} (hx : x = .tup ds ∨ x = .lst ds) (S : Store) : sameN (n + 1) [x, x] S = .ok (.bl true) S := by
  have hix : ∀ (S : Store) (k : Nat) (d : D), ds[k]? = some d → ixG S x (.int k) = some d := fun S k d e => by
    rcases hx with rfl | rfl
    · exact gIxT e
    · exact gIxL e
  have hlen : ∀ S : Store, lenG S [x] = some (.int ds.length) := fun S => by rcases hx with rfl | rfl <;> rfl
  have hi1 : ∀ S : Store, isiA S [x, .tup [.raw (.ty "list"), .raw (.ty "tuple")]] = some (.bl true) := fun S => by rcases hx with rfl | rfl <;> rfl
  have hi2 : ∃ b, ∀ S : Store, isiA S [x, .raw (.ty "list")] = some (.bl b) := by rcases hx with rfl | rfl <;> exact ⟨_, fun S => rfl⟩
  have hi3 : ∃ b, ∀ S : Store, isiA S [x, .raw (.ty "tuple")] = some (.bl b) := by rcases hx with rfl | rfl <;> exact ⟨_, fun S => rfl⟩
  obtain ⟨b2, hi2⟩ := hi2
  obtain ⟨b3, hi3⟩ := hi3
  have hc : ∃ xs S2, S2 = S ∧ xs.length = ds.length ∧ (∀ (k : Nat) (y : D), xs[k]? = some y → y = D.bl true) ∧ okL 0 xs = true ∧
      compM (src1 (callG lenG (consM (vM 1) nilM))) (.nm 2) yesB (appM 2 (sameN n) (consM (op2M ixG (vM 0) (vM 2)) (consM (op2M ixG (vM 1) (vM 2)) nilM)) []) [2] [some x, some x, none] S = .ok (.lst xs) S2 := by
    have hsrc : src1 (callG lenG (consM (vM 1) nilM)) [some x, some x, none] S = .ok (.rng 0 1 ds.length) S := by
      refine src1_of ?_ (by omega)
      simp only [callG, consM, nilM, vM, hlen, bind_ok, RO_some, List.getElem?_cons_zero, List.getElem?_cons_succ]
    have := comp_gen (el := appM 2 (sameN n) (consM (op2M ixG (vM 0) (vM 2)) (consM (op2M ixG (vM 1) (vM 2)) nilM)) []) (i := 2) (ds := (List.range ds.length).map fun (i : Nat) => D.int (0 + (i : Int) * 1)) (Inv := fun S0 => S0 = S) (P := fun _ y => y = D.bl true) hsrc rfl (fun S0 h => by rw [h]) (fun S0 h => by rw [h]; exact Settles.same) (fun S0 t h => rfl) (by simp; omega) (fun k d hd S0 acc hI => ?_)
    · obtain ⟨xs, S2, e1, e2, e3, e4, e5⟩ := this
      exact ⟨xs, S2, e1, by simpa using e2, e3, e4, e5⟩
    · obtain ⟨hk, rfl⟩ := rng_at hd
      refine ⟨.bl true, S0, hI, rfl, rfl, ?_⟩
      have he := List.getElem?_eq_getElem hk
      have h1 := fun S => hix S k _ he
      have h2 := ih ds[k] (List.getElem_mem hk)
      simp only [appM, consM, nilM, op2M, vM, h1, bind_ok, RO_some, List.set_cons_succ, List.set_cons_zero, List.getElem?_cons_zero, List.getElem?_cons_succ, List.append_nil, List.length_cons, List.length_nil, Nat.reduceAdd, if_true, h2]
  obtain ⟨xs, S2, rfl, e2, e3, e4, e5⟩ := hc
  obtain ⟨bs, f1, f2⟩ := bs_all e3
  have hall : allG S2 [.lst xs] = some (.bl true) := by
    show (match asBs xs with | some bs => some (D.bl (bs.all id)) | none => none) = _
    rw [f1]
    simp [f2]
  show finD S2 (sameM (sameN n) (startD 3 [x, x]) S2) = _
  have hs : startD 3 [x, x] = [some x, some x, none] := rfl
  rw [hs]
  have htup : tupG S2 [.raw (.ty "list"), .raw (.ty "tuple")] = some (.tup [.raw (.ty "list"), .raw (.ty "tuple")]) := rfl
  have t1 : truthB S2 (.bl true) = some true := rfl
  unfold sameM
  simp only [seqM, ifSM, trM, orB, cmpB, andM, callG, consM, nilM, op2M, retM, nxM, vM, cM, htup, hi1, hi2, hi3, hlen, gNeB, gEqI, t1, asB, bindS_ok, bind_ok, RO_some, List.getElem?_cons_zero, List.getElem?_cons_succ, decide_true, Bool.not_true, Bool.false_eq_true, if_false, if_true]
  have e5' := e5
  rw [e5']
  simp only [bind_ok, hall, RO_some, bindS_ok, finD]
  exact fin_cl rfl rfl
theorem same_sc {n : Nat} {x : D} {S : Store} (h : sameM (sameN n) [some x, some x, none] S = .rt (.bl true) S) : sameN (n + 1) [x, x] S = .ok (.bl true) S := by
  show finD S (sameM (sameN n) [some x, some x, none] S) = _
  rw [h]
  exact fin_cl (d := .bl true) rfl rfl
theorem same_ok : ∀ (n : Nat) (x : D), pl n x → ∀ S, sameN n [x, x] S = .ok (.bl true) S
  | 0, _, h, _ => False.elim h
  | n + 1, .tup ds, h, S => same_seq (fun d hd S => same_ok n d (h.2 d hd) S) h.1 (.inl rfl) S
  | n + 1, .lst ds, h, S => same_seq (fun d hd S => same_ok n d (h.2 d hd) S) h.1 (.inr rfl) S
  | n + 1, .non, _, S => same_sc rfl
  | n + 1, .bl b, _, S => same_sc (by cases b <;> rfl)
  | n + 1, .int i, _, S => by
    have e : eqG S (.int i) (.int i) = some (.bl true) := by rw [gEqI]; simp
    refine same_sc ?_
    show bindS ((RO (eqG S (.int i) (.int i)) S : Res D)) [some (.int i), some (.int i), none] (fun d S1 => Flw.rt d S1) = _
    rw [e]; rfl
  | n + 1, .str l, _, S => by
    have e : eqG S (.str l) (.str l) = some (.bl true) := by rw [gEqS]; simp
    refine same_sc ?_
    show bindS ((RO (eqG S (.str l) (.str l)) S : Res D)) [some (.str l), some (.str l), none] (fun d S1 => Flw.rt d S1) = _
    rw [e]; rfl
  | _ + 1, .loc _, h, _ => False.elim h
  | _ + 1, .raw _, h, _ => False.elim h
  | _ + 1, .dct _ _, h, _ => False.elim h
  | _ + 1, .obj _ _ _, h, _ => False.elim h
  | _ + 1, .exn _ _ _ _, h, _ => False.elim h
section
variable {mo mv me : ME} {ms mk : MA} {δ : DEnv} {S S1 S2 S3 : Store} {r n j q : Nat} {C : Addr} {ns ns2 : List Str} {ds ds2 xs zs : List D} {d y z : D} {f m : Str} {φ : Fn} {g : Store → D → D → Option D} {x : Ex} {gD : List D → List D → List D}
theorem asO_loc (h : S[r]? = some (.obj C ns ds)) : asO S (.loc r) = some (C, ns, ds) := by
  show (match S[r]? with | some (.obj C ns ds) => some (C, ns, ds) | _ => none) = _
  rw [h]
end
end SL
namespace SL
open PySem PySem.Spec L2
section
variable {δ : DEnv} {S S1 S2 S3 : Store} {x y z w d : D} {xs zs : List D} {ma mb mc me mo : ME} {ms mk : MA} {na nb : MB} {i n : Nat} {φ : Fn} {b : Bool} {e : Ex}
theorem v_ok (h : δ[i]? = some (some d)) : vM i δ S = .ok d S := by unfold vM; rw [h]
theorem c_ok : cM d δ S = .ok d S := rfl
theorem op2_ok {g : Store → D → D → Option D} (ha : ma δ S = .ok x S1) (hb : mb δ S1 = .ok y S2) (hg : g S2 x y = some z) : op2M g ma mb δ S = .ok z S2 := by
  unfold op2M; rw [ha]; show (mb δ S1).bind _ = _; rw [hb]; show RO (g S2 x y) S2 = _; rw [hg]; rfl
theorem nil_ok : nilM δ S = .ok [] S := rfl
theorem cons_ok (ha : ma δ S = .ok x S1) (hr : ms δ S1 = .ok xs S2) : consM ma ms δ S = .ok (x :: xs) S2 := by
  unfold consM; rw [ha]; show (ms δ S1).bind _ = _; rw [hr]; rfl
theorem one_ok (ha : ma δ S = .ok x S1) : consM ma nilM δ S = .ok [x] S1 := cons_ok ha nil_ok
theorem two_ok (ha : ma δ S = .ok x S1) (hb : mb δ S1 = .ok y S2) : consM ma (consM mb nilM) δ S = .ok [x, y] S2 := cons_ok ha (one_ok hb)
theorem callG_ok {g : Store → List D → Option D} (hs : ms δ S = .ok xs S1) (hg : g S1 xs = some z) : callG g ms δ S = .ok z S1 := by
  unfold callG; rw [hs]; show RO (g S1 xs) S1 = _; rw [hg]; rfl
theorem callKG_ok {g : Store → List D → List D → Option D} (hs : ms δ S = .ok xs S1) (hk : mk δ S1 = .ok zs S2) (hg : g S2 xs zs = some z) : callKG g ms mk δ S = .ok z S2 := by
  unfold callKG; rw [hs]; show (mk δ S1).bind _ = _; rw [hk]; show RO (g S2 xs zs) S2 = _; rw [hg]; rfl
theorem app_is (hs : ms δ S = .ok xs S1) (hn : xs.length = n) : appM n φ ms [] δ S = φ xs S1 := by
  unfold appM; rw [hs]; show (if (xs ++ []).length = n then φ (xs ++ []) S1 else .stuck) = _
  rw [List.append_nil, if_pos hn]
theorem cmp_ok {g : Store → D → D → Option D} (ha : ma δ S = .ok x S1) (hb : mb δ S1 = .ok y S2) (hg : g S2 x y = some (.bl b)) : cmpB g ma mb δ S = .ok b S2 := by
  unfold cmpB; rw [ha]; show (mb δ S1).bind _ = _; rw [hb]; show RO (asB (g S2 x y)) S2 = _; rw [hg]; rfl
theorem andM_t (h : ma δ S = .ok (.bl true) S1) : andM ma mb δ S = mb δ S1 := by unfold andM; rw [h]; rfl
theorem andM_f (h : ma δ S = .ok (.bl false) S1) : andM ma mb δ S = .ok (.bl false) S1 := by unfold andM; rw [h]; rfl
theorem notM_ok (h : ma δ S = .ok (.bl b) S1) : notM ma δ S = .ok (.bl (!b)) S1 := by unfold notM; rw [h]; rfl
theorem andM_bl {a c : Bool} (h : ma δ S = .ok (.bl a) S) (h2 : a = true → mb δ S = .ok (.bl c) S) : andM ma mb δ S = .ok (.bl (a && c)) S := by
  cases a with
  | false => exact andM_f h
  | true => exact (andM_t h).trans (h2 rfl)
theorem ch_t {g g' : Store → D → D → Option D} (ha : ma δ S = .ok x S1) (hb : mb δ S1 = .ok y S2) (hg : g S2 x y = some (.bl true)) (hc : mc δ S2 = .ok z S3) (hg' : g' S3 y z = some w) : chM g g' ma mb mc δ S = .ok w S3 := by
  unfold chM; rw [ha]; show (mb δ S1).bind _ = _; rw [hb]
  show (match asB (g S2 x y) with | some true => (mc δ S2).bind fun z S3 => RO (g' S3 y z) S3 | some false => .ok (.bl false) S2 | none => .stuck) = _
  rw [hg]; show (mc δ S2).bind _ = _; rw [hc]; show RO (g' S3 y z) S3 = _; rw [hg']; rfl
end
theorem comp_flt {mi : DEnv → Store → Res Src} {tst : MB} {el : ME} {i : Nat} {δ : DEnv} {S : Store} {src : Src} {ds : List D} {ps : List (D × Option D)} (hds : ds = ps.map (·.1))
    (hmi : mi δ S = .ok src S) (hit : ∀ t, items (S ++ t) src = some ds) (hn : ds.length ≤ 1000000)
    (hel : ∀ d f, (d, f) ∈ ps → ∀ acc, tst ((δ.set i none).set i (some d)) (S ++ [.lst acc]) = .ok f.isSome (S ++ [.lst acc]) ∧ ∀ x, f = some x → okD 0 x = true ∧ el ((δ.set i none).set i (some d)) (S ++ [.lst acc]) = .ok x (S ++ [.lst acc])) :
    compM mi (.nm i) tst el [i] δ S = .ok (.lst (ps.filterMap (·.2))) S := by
  have key : ∀ (r : List (D × Option D)) (acc : List D), (∀ d, d ∈ r → d ∈ ps) → acc.length + r.length ≤ 1000000 → compL src (.nm i) tst el S.length ds (δ.set i none) (r.map (·.1)) (S ++ [.lst acc]) = some (S ++ [.lst (acc ++ r.filterMap (·.2))]) := by
    intro r
    induction r with
    | nil =>
      intro acc _ _
      rw [List.map_nil]
      unfold compL
      rw [if_pos (hit _)]
      simp
    | cons p r ih =>
      obtain ⟨d, f⟩ := p
      intro acc hm hl
      obtain ⟨h1, h2⟩ := hel d f (hm _ (by simp)) acc
      simp only [List.length_cons] at hl
      rw [List.map_cons]
      unfold compL
      rw [if_pos (hit _)]
      simp only [bindT, h1]
      cases f with
      | none =>
        simp only [Option.isSome_none]
        rw [ih acc (fun d hd => hm d (by simp [hd])) (by omega)]
        simp
      | some x =>
        obtain ⟨h3, h4⟩ := h2 x rfl
        have ha2 : appC S.length (S ++ [.lst acc]) x = some (S ++ [.lst (acc ++ [x])]) := by
          unfold appC
          have e1 : (S ++ [Cell.lst acc])[S.length]? = some (.lst acc) := by simp
          rw [e1]
          simp only
          rw [if_pos (by omega)]
          congr 1
          rw [List.set_append_right _ _ (Nat.le_refl _)]
          simp
        simp only [Option.isSome_some, h4, ha2]
        rw [ih (acc ++ [x]) (fun d hd => hm d (by simp [hd])) (by simp; omega)]
        simp
  have hok : okL 0 (ps.filterMap (·.2)) = true := by
    refine okL_iff.mpr fun x hx => ?_
    obtain ⟨⟨d, f⟩, hd, e⟩ := List.mem_filterMap.mp hx
    exact ((hel d f hd []).2 x e).1
  unfold compM
  rw [hmi]
  have e0 : items S src = some ds := by simpa using hit []
  simp only [bind_ok, e0]
  have hw : wipeD δ [i] = δ.set i none := rfl
  rw [hw, show compL src (.nm i) tst el S.length ds (δ.set i none) ds (S ++ [.lst []]) = _ from (congrArg (fun z => compL src (.nm i) tst el S.length ds (δ.set i none) z (S ++ [.lst []])) hds).trans (key ps [] (fun d h => h) (by rw [hds, List.length_map] at hn; simpa using hn))]
  simp only [List.nil_append]
  unfold endC
  have e1 : (S ++ [Cell.lst (ps.filterMap (·.2))])[S.length]? = some (.lst (ps.filterMap (·.2))) := by simp
  rw [e1]
  simp only
  have hs : Settles S (S ++ [Cell.lst (ps.filterMap (·.2))]) := Settles.app
  rw [if_pos ⟨by rw [List.length_append]; rfl, okL_up _ _ hok, hs⟩, List.take_left]
def wp {α : Type} (r : Res α) (Q : α → Store → Prop) (X : Ex → Store → Prop) : Prop := match r with
  | .ok a S => Q a S
  | .exc x S => X x S
  | .stuck => False
def wf (r : Flw) (N : DEnv → Store → Prop) (R : D → Store → Prop) (X : Ex → DEnv → Store → Prop) (B C : DEnv → Store → Prop) : Prop := match r with
  | .nx δ S => N δ S
  | .rt d S => R d S
  | .exc x δ S => X x δ S
  | .bk δ S => B δ S
  | .ct δ S => C δ S
  | .stuck => False
def GW {α : Type} (o : Option α) (P : α → Prop) : Prop := ∃ z, o = some z ∧ P z
abbrev noX : Ex → Store → Prop := fun _ _ => False
abbrev noXs : Ex → DEnv → Store → Prop := fun _ _ _ => False
abbrev noB : DEnv → Store → Prop := fun _ _ => False
section
variable {α β : Type} {r : Res α} {Q Q' : α → Store → Prop} {X X' : Ex → Store → Prop} {S S1 S2 : Store} {a : α}
theorem wp_ok (h : r = .ok a S) (k : Q a S) : wp r Q X := by rw [h]; exact k
theorem wp_exc {x : Ex} (h : r = .exc x S) (k : X x S) : wp r Q X := by rw [h]; exact k
theorem wp_mono (h : wp r Q X) (k : ∀ a S, Q a S → Q' a S) (kx : ∀ x S, X x S → X' x S) : wp r Q' X' := by
  cases r with
  | ok a S => exact k a S h
  | exc x S => exact kx x S h
  | stuck => exact h
theorem wp_q (h : wp r Q X) (k : ∀ a S, Q a S → Q' a S) : wp r Q' X := wp_mono h k fun _ _ h => h
theorem wp_get (h : wp r Q noX) : ∃ a S, r = .ok a S ∧ Q a S := by
  cases r with
  | ok a S => exact ⟨a, S, rfl, h⟩
  | exc x S => exact h.elim
  | stuck => exact h.elim
theorem wp_bind {f : α → Store → Res β} {Q : β → Store → Prop} (h : wp r (fun a S => wp (f a S) Q X) X) : wp (r.bind f) Q X := by
  cases r with
  | ok a S => exact h
  | exc x S => exact h
  | stuck => exact h
theorem wp_RO {o : Option α} (h : GW o fun z => Q z S) : wp (RO o S) Q X := by
  obtain ⟨z, rfl, h⟩ := h
  exact h
end
section
variable {r : Flw} {N N' B B' C C' : DEnv → Store → Prop} {R R' : D → Store → Prop} {X X' : Ex → DEnv → Store → Prop}
theorem wf_mono (h : wf r N R X B C) (n : ∀ δ S, N δ S → N' δ S) (rt : ∀ d S, R d S → R' d S) (x : ∀ e δ S, X e δ S → X' e δ S) (b : ∀ δ S, B δ S → B' δ S) (c : ∀ δ S, C δ S → C' δ S) : wf r N' R' X' B' C' := by
  cases r with
  | nx δ S => exact n δ S h
  | rt d S => exact rt d S h
  | exc e δ S => exact x e δ S h
  | bk δ S => exact b δ S h
  | ct δ S => exact c δ S h
  | stuck => exact h
theorem wf_rt (h : wf r noB R noXs noB noB) : ∃ d S, r = .rt d S ∧ R d S := by
  cases r with
  | rt d S => exact ⟨d, S, rfl, h⟩
  | _ => exact h.elim
end
section
variable {δ : DEnv} {S : Store} {x y z d : D} {ma mb mc mo mv : ME} {ms mk : MA} {na nb : MB} {i n : Nat} {φ : Fn} {b : Bool} {Q : D → Store → Prop} {QL : List D → Store → Prop} {QB : Bool → Store → Prop} {QO : Option Int → Store → Prop} {X : Ex → Store → Prop} {g g' : Store → D → D → Option D}
theorem wp_v (h : δ[i]? = some (some d)) (k : Q d S) : wp (vM i δ S) Q X := by unfold vM; rw [h]; exact k
theorem wp_c (k : Q d S) : wp (cM d δ S) Q X := k
theorem wp_nil (k : QL [] S) : wp (nilM δ S) QL X := k
theorem wp_cons (k : wp (ma δ S) (fun x S1 => wp (ms δ S1) (fun xs S2 => QL (x :: xs) S2) X) X) : wp (consM ma ms δ S) QL X := wp_bind (wp_q k fun _ _ h => wp_bind h)
theorem wp_op2 (k : wp (ma δ S) (fun x S1 => wp (mb δ S1) (fun y S2 => GW (g S2 x y) fun z => Q z S2) X) X) : wp (op2M g ma mb δ S) Q X := wp_bind (wp_q k fun _ _ h => wp_bind (wp_q h fun _ _ h => wp_RO h))
theorem wp_op1 {g : Store → D → Option D} (k : wp (ma δ S) (fun x S1 => GW (g S1 x) fun z => Q z S1) X) : wp (op1M g ma δ S) Q X := wp_bind (wp_q k fun _ _ h => wp_RO h)
theorem wp_callG {g : Store → List D → Option D} (k : wp (ms δ S) (fun xs S1 => GW (g S1 xs) fun z => Q z S1) X) : wp (callG g ms δ S) Q X := wp_bind (wp_q k fun _ _ h => wp_RO h)
theorem wp_callKG {g : Store → List D → List D → Option D} (k : wp (ms δ S) (fun xs S1 => wp (mk δ S1) (fun zs S2 => GW (g S2 xs zs) fun z => Q z S2) X) X) : wp (callKG g ms mk δ S) Q X := wp_bind (wp_q k fun _ _ h => wp_bind (wp_q h fun _ _ h => wp_RO h))
theorem wp_appA (k : wp (ms δ S) (fun xs S1 => xs.length = n ∧ wp (φ xs S1) Q X) X) : wp (appM n φ ms [] δ S) Q X := wp_bind (wp_q k fun xs S1 h => by rw [List.append_nil, if_pos h.1]; exact h.2)
theorem wp_appD {dD : List D} (k : wp (ms δ S) (fun xs S1 => (xs ++ dD).length = n ∧ wp (φ (xs ++ dD) S1) Q X) X) : wp (appM n φ ms dD δ S) Q X := wp_bind (wp_q k fun xs S1 h => by rw [if_pos h.1]; exact h.2)
theorem wp_appN {j q : Nat} {gD : List D → List D → List D} (k : wp (ms δ S) (fun xs S1 => wp (mk δ S1) (fun zs S2 => (xs.length = n ∧ zs.length = j) ∧ (gD xs zs).length = q ∧ wp (φ (gD xs zs) S2) Q X) X) X) : wp (appN n j q φ gD ms mk δ S) Q X :=
  wp_bind (wp_q k fun xs S1 h => wp_bind (wp_q h fun zs S2 h => by rw [if_pos h.1, if_pos h.2.1]; exact h.2.2))
theorem wp_cmpB (k : wp (ma δ S) (fun x S1 => wp (mb δ S1) (fun y S2 => GW (asB (g S2 x y)) fun z => QB z S2) X) X) : wp (cmpB g ma mb δ S) QB X := wp_bind (wp_q k fun _ _ h => wp_bind (wp_q h fun _ _ h => wp_RO h))
theorem wp_trM (k : wp (ma δ S) (fun x S1 => GW (truthB S1 x) fun z => QB z S1) X) : wp (trM ma δ S) QB X := wp_bind (wp_q k fun _ _ h => wp_RO h)
theorem wp_bM (k : wp (ma δ S) (fun x S1 => GW (asB (some x)) fun z => QB z S1) X) : wp (bM ma δ S) QB X := wp_bind (wp_q k fun _ _ h => wp_RO h)
theorem wp_notB (k : wp (na δ S) (fun c S1 => QB (!c) S1) X) : wp (notB na δ S) QB X := wp_bind (wp_q k fun _ _ h => h)
theorem wp_andB (k : wp (na δ S) (fun c S1 => (c = true → wp (nb δ S1) QB X) ∧ (c = false → QB false S1)) X) : wp (andB na nb δ S) QB X := wp_bind (wp_q k fun c _ h => by cases c with | true => exact h.1 rfl | false => exact h.2 rfl)
theorem wp_orB (k : wp (na δ S) (fun c S1 => (c = true → QB true S1) ∧ (c = false → wp (nb δ S1) QB X)) X) : wp (orB na nb δ S) QB X := wp_bind (wp_q k fun c _ h => by cases c with | true => exact h.1 rfl | false => exact h.2 rfl)
theorem wp_yes (k : QB true S) : wp (yesB δ S) QB X := k
theorem wp_andM (k : wp (ma δ S) (fun x S1 => GW (truthB S1 x) fun c => (c = true → wp (mb δ S1) Q X) ∧ (c = false → Q x S1)) X) : wp (andM ma mb δ S) Q X := wp_bind (wp_q k fun x S1 h => by
  obtain ⟨c, e, h⟩ := h
  simp only [e]
  cases c with
  | true => exact h.1 rfl
  | false => exact h.2 rfl)
theorem wp_orM (k : wp (ma δ S) (fun x S1 => GW (truthB S1 x) fun c => (c = true → Q x S1) ∧ (c = false → wp (mb δ S1) Q X)) X) : wp (orM ma mb δ S) Q X := wp_bind (wp_q k fun x S1 h => by
  obtain ⟨c, e, h⟩ := h
  simp only [e]
  cases c with
  | true => exact h.1 rfl
  | false => exact h.2 rfl)
theorem wp_notM (k : wp (ma δ S) (fun x S1 => GW (truthB S1 x) fun c => Q (.bl (!c)) S1) X) : wp (notM ma δ S) Q X := wp_bind (wp_q k fun x S1 h => by
  obtain ⟨c, e, h⟩ := h
  simp only [e]
  exact h)
theorem wp_ifM (k : wp (na δ S) (fun c S1 => (c = true → wp (ma δ S1) Q X) ∧ (c = false → wp (mb δ S1) Q X)) X) : wp (ifM na ma mb δ S) Q X := wp_bind (wp_q k fun c _ h => by cases c with | true => exact h.1 rfl | false => exact h.2 rfl)
theorem wp_ch (k : wp (ma δ S) (fun x S1 => wp (mb δ S1) (fun y S2 => GW (asB (g S2 x y)) fun c => (c = true → wp (mc δ S2) (fun z S3 => GW (g' S3 y z) fun w => Q w S3) X) ∧ (c = false → Q (.bl false) S2)) X) X) : wp (chM g g' ma mb mc δ S) Q X :=
  wp_bind (wp_q k fun x S1 h => wp_bind (wp_q h fun y S2 h => by
    obtain ⟨c, e, h⟩ := h
    simp only [e]
    cases c with
    | true => exact wp_bind (wp_q (h.1 rfl) fun _ _ h => wp_RO h)
    | false => exact h.2 rfl))
theorem wp_mtS {g : Store → D → List D → Option D} (k : wp (mo δ S) (fun x S1 => isS x = true ∧ wp (ms δ S1) (fun xs S2 => GW (g S2 x xs) fun z => Q z S2) X) X) : wp (mtS g mo ms δ S) Q X := wp_bind (wp_q k fun _ _ h => by
  rw [if_pos h.1]
  exact wp_bind (wp_q h.2 fun _ _ h => wp_RO h))
theorem wp_noO (k : QO none S) : wp (noO δ S) QO X := k
theorem wp_soO (k : wp (ma δ S) (fun x S1 => GW (asI x) fun j => QO (some j) S1) X) : wp (soO ma δ S) QO X := wp_bind (wp_q k fun x S1 h => by
  obtain ⟨j, e, h⟩ := h
  simp only [e]
  exact h)
theorem wp_sl {ml mh : MO} (k : wp (ma δ S) (fun x S1 => wp (ml δ S1) (fun lo S2 => wp (mh δ S2) (fun hi S3 => GW (slG S3 x lo hi) fun z => Q z S3) X) X) X) : wp (slM ma ml mh δ S) Q X :=
  wp_bind (wp_q k fun _ _ h => wp_bind (wp_q h fun _ _ h => wp_bind (wp_q h fun _ _ h => wp_RO h)))
theorem wp_lstLM (k : wp (ms δ S) (fun xs S1 => xs.length ≤ 100000 ∧ Q (.loc S1.length) (S1 ++ [.lst xs])) X) : wp (lstLM ms δ S) Q X := wp_bind (wp_q k fun xs S1 h => by rw [if_pos h.1]; exact h.2)
theorem wp_lm {g : List D → List D → Option (D × List D)} (k : wp (mo δ S) (fun x S1 => (locL S1 x).isSome = true ∧ wp (ms δ S1) (fun xs S2 => ∃ n ds d es, locL S2 x = some (n, ds) ∧ g ds xs = some (d, es) ∧ Q d (S2.set n (.lst es))) X) X) : wp (lmM g mo ms δ S) Q X := wp_bind (wp_q k fun x S1 h => by
  obtain ⟨q, e⟩ := Option.isSome_iff_exists.mp h.1
  simp only [e]
  refine wp_bind (wp_q h.2 fun xs S2 h => ?_)
  obtain ⟨n, ds, d, es, e1, e2, h⟩ := h
  simp only [e1, e2]
  exact h)
theorem locL_end {S : Store} {ds : List D} : locL (S ++ [.lst ds]) (.loc S.length) = some (S.length, ds) := by
  simp [locL]
theorem wp_lmEnd {g : List D → List D → Option (D × List D)} {ds : List D} {j : Nat} (hv : δ[j]? = some (some (.loc S.length))) (k : wp (ms δ (S ++ [.lst ds])) (fun xs S2 => ∃ S3 d es, S2 = S3 ++ [.lst ds] ∧ S3.length = S.length ∧ g ds xs = some (d, es) ∧ Q d (S3 ++ [.lst es])) X) : wp (lmM g (vM j) ms δ (S ++ [.lst ds])) Q X := by
  refine wp_lm (wp_v hv ⟨by rw [locL_end]; rfl, wp_q k fun xs S2 h => ?_⟩)
  obtain ⟨S3, d, es, rfl, hl, e, h⟩ := h
  refine ⟨S.length, ds, d, es, by rw [← hl]; exact locL_end, e, ?_⟩
  rw [List.set_append_right _ _ (by omega), hl]
  simpa using h
theorem wp_fld {C : Addr} {f : Str} {ns : List Str} {ds : List D} (k : wp (mo δ S) (fun x S1 => ∃ ns ds d, asO S1 x = some (C, ns, ds) ∧ lookS ns ds f = some d ∧ Q d S1) X) : wp (fldM C f mo δ S) Q X := wp_bind (wp_q k fun x S1 h => by
  obtain ⟨ns, ds, d, e1, e2, h⟩ := h
  simp only [e1, e2, if_true]
  exact h)
theorem wp_meth {C : Addr} {m : Str} {dD : List D} (k : wp (mo δ S) (fun x S1 => ∃ ns ds, asO S1 x = some (C, ns, ds) ∧ lookS ns ds m = none ∧ wp (ms δ S1) (fun xs S2 => (x :: (xs ++ dD)).length = n ∧ wp (φ (x :: (xs ++ dD)) S2) Q X) X) X) : wp (methM C m n φ mo ms dD δ S) Q X := by
  unfold methM selfM
  refine wp_bind (wp_q k fun x S1 h => ?_)
  obtain ⟨ns, ds, e1, e2, h⟩ := h
  simp only [e1, e2, and_self, if_true]
  exact wp_bind (wp_q h fun xs S2 h => by rw [if_pos h.1]; exact h.2)
theorem wp_fmt (k : wp (ma δ S) (fun x S1 => GW (fmtG x) fun z => Q z S1) X) : wp (fmtM ma δ S) Q X := wp_bind (wp_q k fun _ _ h => wp_RO h)
theorem wp_make {C : Addr} {dD : List D} (k : wp (ms δ S) (fun xs S1 => (D.loc S1.length :: (xs ++ dD)).length = n ∧ wp (φ (.loc S1.length :: (xs ++ dD)) (S1 ++ [.obj C [] []])) (fun r S2 => isNon r = true ∧ Q (.loc S1.length) S2) X) X) : wp (makeM C n φ ms dD δ S) Q X := wp_bind (wp_q k fun xs S1 h => by
  unfold mkM
  rw [if_pos h.1]
  exact wp_bind (wp_q h.2 fun r S2 h => by rw [if_pos h.1]; exact h.2))
theorem wp_freeze (k : wp (ma δ S) (fun d S2 => wp (finV S d S2) Q X) X) : wp (freezeM ma δ S) Q X := wp_bind (wp_q k fun _ _ h => h)
end
section
variable {δ : DEnv} {S : Store} {d : D} {me ma mo mi mv : ME} {m1 m2 : MS} {nc : MB} {i : Nat} {N B C : DEnv → Store → Prop} {R : D → Store → Prop} {X : Ex → DEnv → Store → Prop}
theorem wf_bind {α : Type} {r : Res α} {k : α → Store → Flw} (h : wp r (fun a S => wf (k a S) N R X B C) (fun x S => X x δ S)) : wf (bindS r δ k) N R X B C := by
  cases r with
  | ok a S => exact h
  | exc x S => exact h
  | stuck => exact h
theorem wf_seq (h : wf (m1 δ S) (fun δ S => wf (m2 δ S) N R X B C) R X B C) : wf (seqM m1 m2 δ S) N R X B C := by
  unfold seqM
  cases e : m1 δ S with
  | nx δ S => rw [e] at h; exact h
  | rt d S => rw [e] at h; exact h
  | exc e' δ S => rw [e] at h; exact h
  | bk δ S => rw [e] at h; exact h
  | ct δ S => rw [e] at h; exact h
  | stuck => rw [e] at h; exact h
theorem wf_asg (h : wp (me δ S) (fun d S1 => N (δ.set i (some d)) S1) (fun x S1 => X x δ S1)) : wf (asgM i me δ S) N R X B C := wf_bind (wp_q h fun _ _ h => h)
theorem wf_ret (h : wp (me δ S) R (fun x S1 => X x δ S1)) : wf (retM me δ S) N R X B C := wf_bind (wp_q h fun _ _ h => h)
theorem wf_retN (h : R .non S) : wf (retN δ S) N R X B C := h
theorem wf_expr (h : wp (me δ S) (fun _ S1 => N δ S1) (fun x S1 => X x δ S1)) : wf (exprM me δ S) N R X B C := wf_bind (wp_q h fun _ _ h => h)
theorem wf_if (h : wp (nc δ S) (fun c S1 => (c = true → wf (m1 δ S1) N R X B C) ∧ (c = false → wf (m2 δ S1) N R X B C)) (fun x S1 => X x δ S1)) : wf (ifSM nc m1 m2 δ S) N R X B C := wf_bind (wp_q h fun c _ h => by cases c with | true => exact h.1 rfl | false => exact h.2 rfl)
theorem wf_nxM (h : N δ S) : wf (nxM δ S) N R X B C := h
theorem wf_bkM (h : B δ S) : wf (bkM δ S) N R X B C := h
theorem wf_ctM (h : C δ S) : wf (ctM δ S) N R X B C := h
theorem wf_asgT {tg : Tg} (h : wp (me δ S) (fun d S1 => GW (bindT tg d δ) fun δ1 => N δ1 S1) (fun x S1 => X x δ S1)) : wf (asgT tg me δ S) N R X B C := wf_bind (wp_q h fun _ _ h => by
  obtain ⟨δ1, e, h⟩ := h
  simp only [e]
  exact h)
theorem wf_aug {g : Store → D → D → Option D} {x : D} (hx : δ[i]? = some (some x)) (h : wp (me δ S) (fun y S1 => GW (g S1 x y) fun z => N (δ.set i (some z)) S1) (fun x S1 => X x δ S1)) : wf (augM i g me δ S) N R X B C := by
  unfold augM
  simp only [hx]
  refine wf_bind (wp_q h fun _ _ h => ?_)
  obtain ⟨z, e, h⟩ := h
  simp only [e]
  exact h
theorem wf_setf {Cl : Addr} {f : Str} (h : wp (mv δ S) (fun d S1 => wp (mo δ S1) (fun x S2 => ∃ n ns ds, x = .loc n ∧ S2[n]? = some (.obj Cl ns ds) ∧ ns.length < 1000 ∧ N δ (S2.set n (.obj Cl (putS ns ds f d).1 (putS ns ds f d).2))) (fun x S1 => X x δ S1)) (fun x S1 => X x δ S1)) : wf (setfM Cl f mo mv δ S) N R X B C :=
  wf_bind (wp_q h fun _ _ h => wf_bind (wp_q h fun _ _ h => by
    obtain ⟨n, ns, ds, rfl, e, hl, h⟩ := h
    simp only [e]
    rw [if_pos ⟨trivial, hl⟩]
    exact h))
theorem wf_raise {mx : DEnv → Store → Res Ex} (h : wp (mx δ S) (fun x S1 => X x δ S1) (fun x S1 => X x δ S1)) : wf (raiseM mx δ S) N R X B C := by
  unfold raiseM
  cases e : mx δ S with
  | ok x S1 => rw [e] at h; exact h
  | exc x S1 => rw [e] at h; exact h
  | stuck => rw [e] at h; exact h
theorem wp_mkx {Cl : Addr} {n : Nat} {fs : List Str} {gd : List D → List D} {ms : MA} {Q : Ex → Store → Prop} {Y : Ex → Store → Prop} (h : wp (ms δ S) (fun xs S1 => (xs.length = n ∧ (gd xs).length = fs.length) ∧ Q ⟨Cl, fs, gd xs⟩ S1) Y) : wp (mkxM Cl n fs gd ms δ S) Q Y := wp_bind (wp_q h fun xs S1 h => by rw [if_pos h.1]; exact h.2)
theorem wf_for {mi : DEnv → Store → Res Src} {tg : Tg} {b : MS} (J : Nat → DEnv → Store → Prop) (h : wp (mi δ S) (fun src S1 => ∃ ds, (∀ k δ S, J k δ S → items S src = some ds) ∧ J 0 δ S1 ∧
      (∀ (k : Nat) (d : D), ds[k]? = some d → ∀ δ S, J k δ S → GW (bindT tg d δ) fun δ1 => wf (b δ1 S) (J (k + 1)) R X N (J (k + 1))) ∧ ∀ δ S, J ds.length δ S → N δ S) (fun x S1 => X x δ S1)) : wf (SL.forM mi tg b δ S) N R X B C := by
  refine wf_bind (wp_q h fun src S1 h => ?_)
  obtain ⟨ds, hit, h0, hb, hN⟩ := h
  simp only [hit 0 _ _ h0]
  have key : ∀ (r : List D) (k : Nat) (δ : DEnv) (S : Store), ds.drop k = r → k ≤ ds.length → J k δ S → wf (forL src tg b ds r δ S) N R X B C := by
    intro r
    induction r with
    | nil =>
      intro k δ S hr hkl hJ
      unfold forL
      rw [if_pos (hit k δ S hJ)]
      have hk : ds.length = k := by
        have := congrArg List.length hr
        rw [List.length_drop] at this
        simp only [List.length_nil] at this
        omega
      subst hk
      exact hN δ S hJ
    | cons d r ih =>
      intro k δ S hr hkl hJ
      have hk : ds[k]? = some d := by
        have := congrArg (fun l => l[0]?) hr
        simpa using this
      have hr' : ds.drop (k + 1) = r := by
        have := congrArg List.tail hr
        simpa using this
      obtain ⟨δ1, e1, hw⟩ := hb k d hk δ S hJ
      have hk1 : k + 1 ≤ ds.length := (List.getElem?_eq_some_iff.mp hk).1
      unfold forL
      rw [if_pos (hit k δ S hJ), e1]
      simp only
      cases e : b δ1 S with
      | nx δ2 S2 => rw [e] at hw; exact ih (k + 1) δ2 S2 hr' hk1 hw
      | ct δ2 S2 => rw [e] at hw; exact ih (k + 1) δ2 S2 hr' hk1 hw
      | bk δ2 S2 => rw [e] at hw; exact hw
      | rt d2 S2 => rw [e] at hw; exact hw
      | exc x δ2 S2 => rw [e] at hw; exact hw
      | stuck => rw [e] at hw; exact hw
  exact key ds 0 δ S1 rfl (Nat.zero_le _) h0
end
section
variable {δ : DEnv} {S : Store} {Q : D → Store → Prop} {X : Ex → Store → Prop} {mi : DEnv → Store → Res Src} {tg : Tg} {tst : MB} {el : ME} {vs : List Nat}
theorem comp_run {src : Src} {δ' : DEnv} {ds : List D} (J : Nat → List D → Store → Prop) {n : Nat} (hlen : ∀ k acc S0, J k acc S0 → S0.length = n ∧ acc.length ≤ k) (hn : ds.length ≤ 1000000)
    (hit : ∀ k acc S0 t, J k acc S0 → items (S0 ++ t) src = some ds)
    (hs : ∀ (k : Nat) (d : D), ds[k]? = some d → ∀ acc S0, J k acc S0 → GW (bindT tg d δ') fun δ1 => wp (tst δ1 (S0 ++ [.lst acc])) (fun c S2 => (c = true → wp (el δ1 S2) (fun x S3 => ∃ S4, S3 = S4 ++ [.lst acc] ∧ J (k + 1) (acc ++ [x]) S4) noX) ∧ (c = false → ∃ S4, S2 = S4 ++ [.lst acc] ∧ J (k + 1) acc S4)) noX) :
    ∀ (r : List D) (k : Nat) (acc : List D) (S0 : Store), ds.drop k = r → k ≤ ds.length → J k acc S0 → ∃ acc' S', J ds.length acc' S' ∧ compL src tg tst el n ds δ' r (S0 ++ [.lst acc]) = some (S' ++ [.lst acc']) := by
  intro r
  induction r with
  | nil =>
    intro k acc S0 hr hkl hJ
    have hk : ds.length = k := by
      have := congrArg List.length hr
      rw [List.length_drop] at this
      simp only [List.length_nil] at this
      omega
    subst hk
    refine ⟨acc, S0, hJ, ?_⟩
    unfold compL
    rw [if_pos (hit _ _ _ _ hJ)]
  | cons d r ih =>
    intro k acc S0 hr hkl hJ
    have hk : ds[k]? = some d := by
      have := congrArg (fun l => l[0]?) hr
      simpa using this
    have hr' : ds.drop (k + 1) = r := by
      have := congrArg List.tail hr
      simpa using this
    have hk1 : k + 1 ≤ ds.length := (List.getElem?_eq_some_iff.mp hk).1
    obtain ⟨δ1, e1, hw⟩ := hs k d hk acc S0 hJ
    obtain ⟨c, S2, e2, h1, h2⟩ := wp_get hw
    unfold compL
    rw [if_pos (hit _ _ _ _ hJ), e1]
    simp only [e2]
    cases c with
    | true =>
      obtain ⟨x, S3, e3, S4, rfl, hJ4⟩ := wp_get (h1 rfl)
      simp only [e3]
      have ha := hlen _ _ _ hJ4
      have ha0 := hlen _ _ _ hJ
      have e4 : appC n (S4 ++ [Cell.lst acc]) x = some (S4 ++ [.lst (acc ++ [x])]) := by
        unfold appC
        have e5 : (S4 ++ [Cell.lst acc])[n]? = some (.lst acc) := by rw [← ha.1]; simp
        rw [e5]
        simp only
        rw [if_pos (by omega)]
        congr 1
        rw [List.set_append_right _ _ (by omega), ha.1]
        simp
      simp only [e4]
      exact ih (k + 1) _ _ hr' hk1 hJ4
    | false =>
      obtain ⟨S4, rfl, hJ4⟩ := h2 rfl
      exact ih (k + 1) _ _ hr' hk1 hJ4
theorem wp_comp (J : Nat → List D → Store → Prop) (h : wp (mi δ S) (fun src S1 => ∃ ds, ds.length ≤ 1000000 ∧ (∀ k acc S0 t, J k acc S0 → items (S0 ++ t) src = some ds) ∧ (∀ k acc S0, J k acc S0 → S0.length = S1.length ∧ Settles S1 S0 ∧ okL 0 acc = true ∧ acc.length ≤ k) ∧ J 0 [] S1 ∧
      (∀ (k : Nat) (d : D), ds[k]? = some d → ∀ acc S0, J k acc S0 → GW (bindT tg d (wipeD δ vs)) fun δ1 => wp (tst δ1 (S0 ++ [.lst acc])) (fun c S2 => (c = true → wp (el δ1 S2) (fun x S3 => ∃ S4, S3 = S4 ++ [.lst acc] ∧ J (k + 1) (acc ++ [x]) S4) noX) ∧ (c = false → ∃ S4, S2 = S4 ++ [.lst acc] ∧ J (k + 1) acc S4)) noX) ∧
      ∀ acc S', J ds.length acc S' → Q (.lst acc) S') X) : wp (compM mi tg tst el vs δ S) Q X := by
  unfold compM
  refine wp_bind (wp_q h fun src S1 h => ?_)
  obtain ⟨ds, hn, hit, hlen, h0, hs, hQ⟩ := h
  have e0 : items S1 src = some ds := by simpa using hit 0 [] S1 [] h0
  obtain ⟨acc', S', hJ, e⟩ := comp_run (n := S1.length) J (fun k acc S0 hJ => ⟨(hlen _ _ _ hJ).1, (hlen _ _ _ hJ).2.2.2⟩) hn hit hs ds 0 [] S1 rfl (Nat.zero_le _) h0
  simp only [e0, e]
  obtain ⟨hl, hset, hok, _⟩ := hlen _ _ _ hJ
  unfold endC
  have e1 : (S' ++ [Cell.lst acc'])[S1.length]? = some (.lst acc') := by rw [← hl]; simp
  rw [e1]
  simp only
  have hst : Settles S1 (S' ++ [Cell.lst acc']) := fun j c hj e => hset j c hj (by rwa [List.getElem?_append_left (by omega)] at e)
  rw [if_pos ⟨by rw [List.length_append, hl]; rfl, okL_up _ _ hok, hst⟩, ← hl, List.take_left]
  exact hQ _ _ hJ
theorem wp_compF {α β : Type} (xs : List α) (en : α → D) (f : α → Option β) (en' : β → D) (h : wp (mi δ S) (fun src S1 => (∀ t, items (S1 ++ t) src = some (xs.map en)) ∧ xs.length ≤ 1000000 ∧
      (∀ x, x ∈ xs → ∀ acc, GW (bindT tg (en x) (wipeD δ vs)) fun δ1 => wp (tst δ1 (S1 ++ [.lst acc])) (fun c S2 => S2 = S1 ++ [.lst acc] ∧ (c = true → wp (el δ1 (S1 ++ [.lst acc])) (fun y S3 => S3 = S1 ++ [.lst acc] ∧ ∃ z, f x = some z ∧ y = en' z ∧ okD 0 y = true) noX) ∧ (c = false → f x = none)) noX) ∧
      Q (.lst ((xs.filterMap f).map en')) S1) X) : wp (compM mi tg tst el vs δ S) Q X := by
  unfold compM
  refine wp_bind (wp_q h fun src S1 h => ?_)
  obtain ⟨hit, hn, hs, hQ⟩ := h
  have hk := wp_comp (mi := fun _ S => .ok src S) (δ := δ) (S := S1) (tg := tg) (tst := tst) (el := el) (vs := vs) (X := X) (Q := Q) (fun k acc S0 => S0 = S1 ∧ acc = ((xs.take k).filterMap f).map en' ∧ okL 0 acc = true) ⟨xs.map en, by simpa using hn, fun k acc S0 t hJ => by rw [hJ.1]; exact hit t, fun k acc S0 hJ => by
    refine ⟨by rw [hJ.1], by rw [hJ.1]; exact Settles.same, hJ.2.2, ?_⟩
    rw [hJ.2.1, List.length_map]
    exact Nat.le_trans (List.length_filterMap_le _ _) (by rw [List.length_take]; omega), ⟨rfl, by simp, rfl⟩, fun k d hd acc S0 hJ => by
    obtain ⟨rfl, rfl, hok⟩ := hJ
    rw [List.getElem?_map] at hd
    cases hx : xs[k]? with
    | none => rw [hx] at hd; cases hd
    | some x =>
      rw [hx] at hd
      cases hd
      obtain ⟨δ1, e1, hw⟩ := hs x (List.mem_of_getElem? hx) (((xs.take k).filterMap f).map en')
      have htk : xs.take (k + 1) = xs.take k ++ [x] := by rw [List.take_succ, hx]; rfl
      refine ⟨δ1, e1, wp_q hw fun c S2 h => ⟨fun hc => ?_, fun hc => ?_⟩⟩
      · obtain ⟨rfl, h1, h2⟩ := h
        refine wp_q (h1 hc) fun y S3 h => ?_
        obtain ⟨rfl, z, ez, rfl, ho⟩ := h
        refine ⟨_, rfl, rfl, ?_, ?_⟩
        · rw [htk, List.filterMap_append, List.map_append]
          simp [ez]
        · exact okL_iff.mpr fun d hd => by
            rcases List.mem_append.mp hd with hd | hd
            · exact okL_iff.mp hok d hd
            · rw [List.mem_singleton.mp hd]; exact ho
      · obtain ⟨rfl, h1, h2⟩ := h
        refine ⟨_, rfl, rfl, ?_, hok⟩
        rw [htk, List.filterMap_append]
        simp [h2 hc], fun acc S' hJ => by
    obtain ⟨rfl, rfl, _⟩ := hJ
    rw [List.length_map, List.take_length]
    exact hQ⟩
  exact hk
theorem wp_compE {α β : Type} (xs : List α) (en : α → D) (f : α → β) (en' : β → D) (h : wp (mi δ S) (fun src S1 => (∀ t, items (S1 ++ t) src = some (xs.map en)) ∧ xs.length ≤ 1000000 ∧
      (∀ x, x ∈ xs → ∀ acc, GW (bindT tg (en x) (wipeD δ vs)) fun δ1 => wp (el δ1 (S1 ++ [.lst acc])) (fun y S3 => S3 = S1 ++ [.lst acc] ∧ y = en' (f x) ∧ okD 0 y = true) noX) ∧
      Q (.lst ((xs.map f).map en')) S1) X) : wp (compM mi tg yesB el vs δ S) Q X := by
  refine wp_compF xs en (fun x => some (f x)) en' (wp_q h fun src S1 h => ?_)
  obtain ⟨h1, h2, h3, h4⟩ := h
  refine ⟨h1, h2, fun x hx acc => ?_, ?_⟩
  · obtain ⟨δ1, e, hw⟩ := h3 x hx acc
    refine ⟨δ1, e, wp_yes ⟨rfl, fun _ => wp_q hw fun y S3 h => ?_, fun h => by cases h⟩⟩
    exact ⟨h.1, f x, rfl, h.2⟩
  · have : xs.filterMap (fun x => some (f x)) = xs.map f := by
      induction xs with
      | nil => rfl
      | cons x xs ih => simp [List.filterMap_cons]
    rw [this]
    exact h4
end
section
variable {S S' S2 t : Store} {d : D} {Q : D → Store → Prop} {X : Ex → Store → Prop} {n : Nat} {m : MS} {ds : List D}
theorem wp_def (h : wf (m (startD n ds) S) (fun _ S' => wp (finV S .non S') Q X) (fun d S' => wp (finV S d S') Q X) (fun x _ S' => wp (finX S x S') Q X) noB noB) : wp (defM n m ds S) Q X := by
  unfold defM
  cases e : m (startD n ds) S with
  | nx δ S' => rw [e] at h; exact h
  | rt d S' => rw [e] at h; exact h
  | exc x δ S' => rw [e] at h; exact h
  | bk δ S' => rw [e] at h; exact h.elim
  | ct δ S' => rw [e] at h; exact h.elim
  | stuck => rw [e] at h; exact h.elim
theorem wp_fin (h : okD 0 d = true) (hl : S'.length = S.length) (k : Q d S') : wp (finV S d S') Q X := wp_ok (fin_cl h hl) k
theorem wp_finG (h : okD 0 d = true) (hl : S'.length = S.length) (hs : Settles S S') (k : Q d S') : wp (finV S d (S' ++ t)) Q X := wp_ok (fin_cut (fz_cl h) hl hs) k
theorem wp_finS (h : okD 0 d = true) (k : Q d S) : wp (finV S d S) Q X := wp_fin h rfl k
theorem wp_finT (h : okD 0 d = true) (k : Q d S) : wp (finV S d (S ++ t)) Q X := wp_finG h rfl Settles.same k
theorem wp_finX {x : Ex} (h : okL 0 x.ds = true) (hl : S'.length = S.length) (hs : Settles S S') (k : X x S') : wp (finX S x (S' ++ t)) Q X := wp_exc (finX_cut h hl hs) k
end
section
variable {δ : DEnv} {S : Store} {ma mb : ME} {Q : Src → Store → Prop} {X : Ex → Store → Prop}
theorem wp_srcV (h : wp (ma δ S) (fun d S1 => (iterD S1 d).isSome = true ∧ Q (.vals d) S1) X) : wp (srcV ma δ S) Q X := wp_bind (wp_q h fun d S1 h => by
  obtain ⟨q, e⟩ := Option.isSome_iff_exists.mp h.1
  simp only [e]
  exact h.2)
theorem wp_src1 (h : wp (ma δ S) (fun d S1 => ∃ i : Int, d = .int i ∧ i.natAbs ≤ 1000000000 ∧ Q (.rng 0 1 i.toNat) S1) X) : wp (src1 ma δ S) Q X := wp_bind (wp_q h fun d S1 h => by
  obtain ⟨i, rfl, hi, h⟩ := h
  simp only
  rw [if_pos hi]
  exact h)
end
section
variable {S : Store} {P : D → Prop} {PB : Bool → Prop} {x y : Int} {a b : List Nat} {ds es : List D} {d : D} {i n c : Nat}
theorem gw_addI (k : P (.int (x + y))) : GW (addG S (.int x) (.int y)) P := ⟨_, rfl, k⟩
theorem gw_addS (k : P (.str (a ++ b))) (h : a.length + b.length ≤ 1000000 := by first | assumption | ((try simp only [List.length_append, List.length_cons, List.length_nil, List.length_take, List.length_drop]); omega)) : GW (addG S (.str a) (.str b)) P := ⟨_, gAddS h, k⟩
theorem gw_addL (k : P (.lst (ds ++ es))) (h : ds.length + es.length ≤ 1000000 := by first | assumption | ((try simp only [List.length_append, List.length_cons, List.length_nil, List.length_map, List.length_take, List.length_drop]); omega)) : GW (addG S (.lst ds) (.lst es)) P := ⟨_, if_pos h, k⟩
theorem gw_addT (k : P (.tup (ds ++ es))) (h : ds.length + es.length ≤ 1000000 := by first | assumption | ((try simp only [List.length_append, List.length_cons, List.length_nil, List.length_map, List.length_take, List.length_drop]); omega)) : GW (addG S (.tup ds) (.tup es)) P := ⟨_, if_pos h, k⟩
theorem gw_subI (k : P (.int (x - y))) : GW (subG S (.int x) (.int y)) P := ⟨_, rfl, k⟩
theorem gw_mulR (k : P (.int (x * y))) (h1 : -(2 ^ 64) < y := by omega) (h2 : y < 2 ^ 64 := by omega) : GW (mulG S (.int x) (.int y)) P := ⟨_, gMulI h1 h2, k⟩
theorem gw_mulL (k : P (.int (x * y))) (h1 : -(2 ^ 64) < x := by omega) (h2 : x < 2 ^ 64 := by omega) : GW (mulG S (.int x) (.int y)) P := ⟨_, if_pos (.inl (.inl ⟨h1, h2⟩)), k⟩
theorem gw_mulS (k : P (.str (List.replicate n a).flatten)) (h : n ≤ 1000000 := by omega) (h2 : a.length * n ≤ 1000000 := by first | assumption | omega | (simp only [List.length_cons, List.length_nil]; omega)) : GW (mulG S (.str a) (.int (n : Int))) P :=
  ⟨_, (show (if 0 ≤ (n : Int) ∧ (n : Int) ≤ 1000000 ∧ a.length * (n : Int).toNat ≤ 1000000 then some (D.str (List.replicate (n : Int).toNat a).flatten) else none) = some (D.str (List.replicate n a).flatten) by
    rw [Int.toNat_natCast, if_pos ⟨by omega, by omega, h2⟩]), k⟩
theorem gw_mulLs (k : P (.lst (List.replicate n ds).flatten)) (h : n ≤ 1000000 := by omega) (h2 : ds.length * n ≤ 1000000 := by first | assumption | omega | (simp only [List.length_cons, List.length_nil]; omega)) : GW (mulG S (.lst ds) (.int (n : Int))) P :=
  ⟨_, (show (if 0 ≤ (n : Int) ∧ (n : Int) ≤ 1000000 ∧ ds.length * (n : Int).toNat ≤ 1000000 then some (D.lst (List.replicate (n : Int).toNat ds).flatten) else none) = some (D.lst (List.replicate n ds).flatten) by
    rw [Int.toNat_natCast, if_pos ⟨by omega, by omega, h2⟩]), k⟩
theorem gw_modI (k : P (.int (x % y))) (h : 0 < y := by first | assumption | omega | decide) : GW (modG S (.int x) (.int y)) P := ⟨_, if_pos h, k⟩
theorem log_small {y : Int} (h : y.natAbs < 2 ^ 64) : y.natAbs.log2 < 9000 := by
  rcases Nat.eq_zero_or_pos y.natAbs with e | hp
  · rw [e]; decide
  · have := (Nat.log2_lt (by omega)).mpr h
    omega
theorem gw_fdivI (k : P (.int (x / y))) (h : 0 < y := by first | assumption | omega | decide) (h2 : y.natAbs < 2 ^ 64 := by first | assumption | omega | decide) : GW (fdivG S (.int x) (.int y)) P := ⟨_, if_pos ⟨h, log_small h2⟩, k⟩
theorem gw_pow (k : P (.int (x ^ y.toNat))) (h : 0 ≤ y ∧ y ≤ 1000000 ∧ x.natAbs < 2 ^ 64 := by decide) : GW (powG S (.int x) (.int y)) P := ⟨_, if_pos h, k⟩
theorem gw_ltI (k : P (.bl (decide (x < y)))) : GW (ltG S (.int x) (.int y)) P := ⟨_, rfl, k⟩
theorem gw_leI (k : P (.bl (decide (x ≤ y)))) : GW (leG S (.int x) (.int y)) P := ⟨_, rfl, k⟩
theorem gw_gtI (k : P (.bl (decide (y < x)))) : GW (gtG S (.int x) (.int y)) P := ⟨_, rfl, k⟩
theorem gw_geI (k : P (.bl (decide (y ≤ x)))) : GW (geG S (.int x) (.int y)) P := ⟨_, rfl, k⟩
theorem gw_ltS (k : P (.bl (decide (a < b)))) : GW (ltG S (.str a) (.str b)) P := ⟨_, rfl, k⟩
theorem gw_eqI (k : P (.bl (decide (x = y)))) : GW (eqG S (.int x) (.int y)) P := ⟨_, rfl, k⟩
theorem gw_neI (k : P (.bl (!decide (x = y)))) : GW (neG S (.int x) (.int y)) P := ⟨_, rfl, k⟩
theorem gw_eqS (k : P (.bl (decide (a = b)))) : GW (eqG S (.str a) (.str b)) P := ⟨_, rfl, k⟩
theorem gw_neS (k : P (.bl (!decide (a = b)))) : GW (neG S (.str a) (.str b)) P := ⟨_, rfl, k⟩
theorem gw_eqB {p q : Bool} (k : P (.bl (decide (p = q)))) : GW (eqG S (.bl p) (.bl q)) P := ⟨_, gEqB, k⟩
theorem gw_neB {p q : Bool} (k : P (.bl (!decide (p = q)))) : GW (neG S (.bl p) (.bl q)) P := ⟨_, gNeB, k⟩
theorem gw_inC (k : P (.bl (decide (c ∈ b)))) : GW (inG S (.str [c]) (.str b)) P := ⟨_, rfl, k⟩
theorem gw_ninC (k : P (.bl (!decide (c ∈ b)))) : GW (ninG S (.str [c]) (.str b)) P := ⟨_, rfl, k⟩
theorem gb_ltI (k : PB (decide (x < y))) : GW (asB (ltG S (.int x) (.int y))) PB := ⟨_, rfl, k⟩
theorem gb_leI (k : PB (decide (x ≤ y))) : GW (asB (leG S (.int x) (.int y))) PB := ⟨_, rfl, k⟩
theorem gb_gtI (k : PB (decide (y < x))) : GW (asB (gtG S (.int x) (.int y))) PB := ⟨_, rfl, k⟩
theorem gb_geI (k : PB (decide (y ≤ x))) : GW (asB (geG S (.int x) (.int y))) PB := ⟨_, rfl, k⟩
theorem gb_eqI (k : PB (decide (x = y))) : GW (asB (eqG S (.int x) (.int y))) PB := ⟨_, rfl, k⟩
theorem gb_neI (k : PB (!decide (x = y))) : GW (asB (neG S (.int x) (.int y))) PB := ⟨_, rfl, k⟩
theorem gb_eqS (k : PB (decide (a = b))) : GW (asB (eqG S (.str a) (.str b))) PB := ⟨_, rfl, k⟩
theorem gb_neS (k : PB (!decide (a = b))) : GW (asB (neG S (.str a) (.str b))) PB := ⟨_, rfl, k⟩
theorem gb_inC (k : PB (decide (c ∈ b))) : GW (asB (inG S (.str [c]) (.str b))) PB := ⟨_, rfl, k⟩
theorem gb_ninC (k : PB (!decide (c ∈ b))) : GW (asB (ninG S (.str [c]) (.str b))) PB := ⟨_, rfl, k⟩
theorem gb_bl {p : Bool} (k : PB p) : GW (asB (some (.bl p))) PB := ⟨_, rfl, k⟩
theorem gt_bl {p : Bool} (k : PB p) : GW (truthB S (.bl p)) PB := ⟨_, rfl, k⟩
theorem gt_int (k : PB (x != 0)) : GW (truthB S (.int x)) PB := ⟨_, rfl, k⟩
theorem gt_lst (k : PB (!ds.isEmpty)) : GW (truthB S (.lst ds)) PB := ⟨_, rfl, k⟩
theorem gt_tup (k : PB (!ds.isEmpty)) : GW (truthB S (.tup ds)) PB := ⟨_, rfl, k⟩
theorem gw_tup (k : P (.tup ds)) (h : ds.length ≤ 100000 := by first | assumption | ((try simp only [List.length_cons, List.length_nil]); omega)) : GW (tupG S ds) P := ⟨_, if_pos h, k⟩
theorem gw_lst (k : P (.lst ds)) (h : ds.length ≤ 100000 := by first | assumption | ((try simp only [List.length_cons, List.length_nil]); omega)) : GW (lstG S ds) P := ⟨_, if_pos h, k⟩
theorem gw_lenS (k : P (.int (a.length : Nat))) (h : a.length ≤ 1000000 := by first | assumption | omega | ((try simp only [List.length_append, List.length_cons, List.length_nil, List.length_map, List.length_take, List.length_drop]); omega)) : GW (lenG S [.str a]) P := ⟨_, gLenS h, k⟩
theorem gw_lenL (k : P (.int (ds.length : Nat))) : GW (lenG S [.lst ds]) P := ⟨_, rfl, k⟩
theorem gw_lenT (k : P (.int (ds.length : Nat))) : GW (lenG S [.tup ds]) P := ⟨_, rfl, k⟩
theorem gw_lenEnd (k : P (.int (ds.length : Nat))) : GW (lenG (S ++ [.lst ds]) [.loc S.length]) P := ⟨_, by
  show (match lenN (S ++ [Cell.lst ds]) (.loc S.length) with | some n => some (D.int n) | none => none) = some (D.int (ds.length : Nat))
  have : asL (S ++ [Cell.lst ds]) (.loc S.length) = some ds := by simp [asL]
  simp only [lenN, this], k⟩
theorem gw_tuple (k : P (.tup ds)) : GW (tupleG S [.lst ds]) P := ⟨_, rfl, k⟩
theorem gw_tupleT (k : P (.tup ds)) : GW (tupleG S [.tup ds]) P := ⟨_, rfl, k⟩
theorem gw_tupleEnd (k : P (.tup ds)) : GW (tupleG (S ++ [.lst ds]) [.loc S.length]) P := ⟨_, by
  have : asL (S ++ [Cell.lst ds]) (.loc S.length) = some ds := by simp [asL]
  show (match asL (S ++ [Cell.lst ds]) (.loc S.length) with | some ds => some (D.tup ds) | none => none) = _
  rw [this], k⟩
theorem gw_all {bs : List Bool} (k : P (.bl (bs.all id))) : GW (allG S [.lst (bs.map D.bl)]) P := ⟨_, by
  show (match asBs (bs.map D.bl) with | some bs => some (D.bl (bs.all id)) | none => none) = some (D.bl (bs.all id))
  rw [asBs_map], k⟩
theorem gw_any {bs : List Bool} (k : P (.bl (bs.any id))) : GW (anyG S [.lst (bs.map D.bl)]) P := ⟨_, by
  show (match asBs (bs.map D.bl) with | some bs => some (D.bl (bs.any id)) | none => none) = some (D.bl (bs.any id))
  rw [asBs_map], k⟩
theorem asIsMap : ∀ ls : List Int, asIs (ls.map D.int) = some ls
  | [] => rfl
  | x :: xs => by simp [asIs, asIsMap xs]
theorem asSsMap : ∀ xs : List (List Nat), asSs (xs.map D.str) = some xs
  | [] => rfl
  | x :: xs => by simp [asSs, asSsMap xs]
theorem gw_sum {ls : List Int} (k : P (.int ls.sum)) : GW (sumG S [.lst (ls.map D.int)]) P := ⟨_, by
  show (match asIs (ls.map D.int) with | some bs => some (D.int bs.sum) | none => none) = some (D.int ls.sum)
  rw [asIsMap], k⟩
theorem gw_upper (k : P (.str (a.map upL))) (h : asc a = true := by first | assumption | rfl) (h2 : a.length ≤ 1000000 := by first | assumption | omega | ((try simp only [List.length_append, List.length_cons, List.length_nil, List.length_map, List.length_take, List.length_drop]); omega)) : GW (upperG S (.str a) []) P := ⟨_, if_pos ⟨h, h2⟩, k⟩
theorem gw_lower (k : P (.str (a.map loL))) (h : asc a = true := by first | assumption | rfl) (h2 : a.length ≤ 1000000 := by first | assumption | omega | ((try simp only [List.length_append, List.length_cons, List.length_nil, List.length_map, List.length_take, List.length_drop]); omega)) : GW (lowerG S (.str a) []) P := ⟨_, if_pos ⟨h, h2⟩, k⟩
theorem gw_str (k : P (.str (strI x))) (h : x.natAbs.log2 < 1920 := by first | assumption | decide) : GW (strG S [.int x]) P := ⟨_, if_pos h, k⟩
theorem gw_intI (k : P (.int x)) : GW (intG S [.int x]) P := ⟨_, rfl, k⟩
theorem gw_intB {p : Bool} (k : P (.int (if p then 1 else 0))) : GW (intG S [.bl p]) P := ⟨_, rfl, k⟩
theorem gw_isi {nm t : String} {p : Bool} (k : P (.bl p)) (h : tyN S d = some t := by rfl) (h2 : isTy nm t = some p := by rfl) : GW (isiA S [d, .raw (.ty nm)]) P := ⟨_, by
  show (match tyN S d with | some t => (match isTy nm t with | some b => some (D.bl b) | none => none) | none => none) = _
  rw [h]
  simp only [h2], k⟩
theorem gw_ixL (h : ds[i]? = some d) (k : P d) : GW (ixG S (.lst ds) (.int (i : Int))) P := ⟨_, gIxL h, k⟩
theorem gw_ixT (h : ds[i]? = some d) (k : P d) : GW (ixG S (.tup ds) (.int (i : Int))) P := ⟨_, gIxT h, k⟩
theorem gw_ixS (h : a[i]? = some c) (k : P (.str [c])) (hl : a.length ≤ 1000000 := by first | assumption | omega | ((try simp only [List.length_append, List.length_cons, List.length_nil, List.length_map, List.length_take, List.length_drop]); omega)) : GW (ixG S (.str a) (.int (i : Int))) P := ⟨_, gIxS hl h, k⟩
theorem gw_ix0L (k : P d) : GW (ixG S (.lst (d :: ds)) (.int 0)) P := gw_ixL (i := 0) rfl k
theorem gw_ix0T (k : P d) : GW (ixG S (.tup (d :: ds)) (.int 0)) P := gw_ixT (i := 0) rfl k
theorem gw_ix1L {e : D} (k : P d) : GW (ixG S (.lst (e :: d :: ds)) (.int 1)) P := gw_ixL (i := 1) rfl k
theorem gw_ix1T {e : D} (k : P d) : GW (ixG S (.tup (e :: d :: ds)) (.int 1)) P := gw_ixT (i := 1) rfl k
theorem gw_ix2L {e f : D} (k : P d) : GW (ixG S (.lst (e :: f :: d :: ds)) (.int 2)) P := gw_ixL (i := 2) rfl k
theorem gw_ix2T {e f : D} (k : P d) : GW (ixG S (.tup (e :: f :: d :: ds)) (.int 2)) P := gw_ixT (i := 2) rfl k
theorem gw_slS {lo hi : Option Int} (k : P (.str (cutL a lo hi))) (h : a.length ≤ 1000000 := by first | assumption | omega | ((try simp only [List.length_append, List.length_cons, List.length_nil, List.length_map, List.length_take, List.length_drop]); omega)) : GW (slG S (.str a) lo hi) P := ⟨_, if_pos h, k⟩
theorem gw_slT {lo hi : Option Int} (k : P (.tup (cutL ds lo hi))) : GW (slG S (.tup ds) lo hi) P := ⟨_, rfl, k⟩
theorem gw_slL {lo hi : Option Int} (k : P (.lst (cutL ds lo hi))) : GW (slG S (.lst ds) lo hi) P := ⟨_, rfl, k⟩
theorem gw_slTo {q : Nat} (k : P (.str (a.take q))) (h : a.length ≤ 1000000 := by first | assumption | omega | ((try simp only [List.length_append, List.length_cons, List.length_nil, List.length_map, List.length_take, List.length_drop]); omega)) : GW (slG S (.str a) none (some (q : Int))) P := gw_slS (by rw [cut_to]; exact k) h
theorem gw_slFrom {q : Nat} (k : P (.str (a.drop q))) (h : a.length ≤ 1000000 := by first | assumption | omega | ((try simp only [List.length_append, List.length_cons, List.length_nil, List.length_map, List.length_take, List.length_drop]); omega)) : GW (slG S (.str a) (some (q : Int)) none) P := gw_slS (by rw [cut_from]; exact k) h
theorem gw_slFT {p q : Nat} (k : P (.str ((a.drop p).take (q - p)))) (h : a.length ≤ 1000000 := by first | assumption | omega | ((try simp only [List.length_append, List.length_cons, List.length_nil, List.length_map, List.length_take, List.length_drop]); omega)) : GW (slG S (.str a) (some (p : Int)) (some (q : Int))) P := gw_slS (by rw [cut_nat]; exact k) h
theorem gw_asI {PI : Int → Prop} (k : PI x) : GW (asI (.int x)) PI := ⟨_, rfl, k⟩
theorem gw_bind {δ δ1 : DEnv} {tg : Tg} {PE : DEnv → Prop} (k : PE δ1) (h : bindT tg d δ = some δ1 := by rfl) : GW (bindT tg d δ) PE := ⟨_, h, k⟩
theorem append_ok {x : D} (h : ds.length < 1000000) : appendG ds [x] = some (.non, ds ++ [x]) := if_pos h
theorem wp_append {δ : DEnv} {j : Nat} {ms : MA} {Q : D → Store → Prop} {X : Ex → Store → Prop} (hv : δ[j]? = some (some (.loc S.length))) (k : wp (ms δ (S ++ [.lst ds])) (fun xs S2 => ∃ S3 x, S2 = S3 ++ [.lst ds] ∧ S3.length = S.length ∧ xs = [x] ∧ ds.length < 1000000 ∧ Q .non (S3 ++ [.lst (ds ++ [x])])) X) : wp (lmM appendG (vM j) ms δ (S ++ [.lst ds])) Q X :=
  wp_lmEnd hv (wp_q k fun xs S2 h => by
    obtain ⟨S3, x, e1, e2, rfl, hl, h⟩ := h
    exact ⟨S3, .non, ds ++ [x], e1, e2, append_ok hl, h⟩)
theorem okC_up {c : Cell} (h : okC 0 c = true) (n : Nat) : okC n c = true := by
  cases c with
  | lst ds => exact okL_up ds n h
  | dct ks ds => exact okL_up ds n h
  | obj C ns ds => exact okL_up ds n h
  | tab P q => rfl
  | emp P q es => rfl
  | fn κ j l => rfl
theorem wd_draw {T : Store} {m : Int} {Q : D → Store → Prop} {X : Ex → Store → Prop} (h : Dw T S) (hm : 0 < m) (hm2 : m < 2 ^ 64) (k : ∀ (r : Nat) S', Dw T S' → (r : Int) < m → Q (.int (r : Int)) S') : wp (defM 5 drawM [.loc 0, .int m] S) Q X := by
  obtain ⟨r, S', h1, h2, h3, h4⟩ := draw_dw h hm hm2
  obtain ⟨j, rfl⟩ : ∃ j : Nat, r = j := ⟨r.toNat, by omega⟩
  exact wp_ok h4 (k j S' h1 h3)
theorem wd_of {T : Store} {Q : D → Store → Prop} {X : Ex → Store → Prop} (h : Dw T S) (hc : okL 0 ds = true) (k : ∀ d S', Dw T S' → d ∈ ds → Q d S') (hn : ds ≠ [] := by simp) (hl : ds.length < 2 ^ 64 := by first | assumption | (simp only [List.length_cons, List.length_nil]; omega)) : wp (defM 2 (ofM (defM 5 drawM)) [.loc 0, .lst ds] S) Q X := by
  obtain ⟨d, S', h1, h2, h3⟩ := of_lst h hn hl hc
  exact wp_ok h3 (k d S' h1 h2)
end
section
variable {δ : DEnv} {S : Store} {d : D} {me ma mb mo mi mv : ME} {ms : MA} {i j : Nat} {N B C : DEnv → Store → Prop} {R : D → Store → Prop} {X : Ex → DEnv → Store → Prop} {Y : Ex → Store → Prop} {Q : D → Store → Prop}
theorem wf_asgU {tgs : List Tg} (h : wp (me δ S) (fun d S1 => GW (asL S1 d) fun ds => GW (bindTs tgs ds δ) fun δ1 => N δ1 S1) (fun x S1 => X x δ S1)) : wf (asgU tgs me δ S) N R X B C := wf_bind (wp_q h fun _ _ h => by
  obtain ⟨ds, e, δ1, e1, h⟩ := h
  simp only [e, e1]
  exact h)
theorem wf_par (h : wp (ms δ S) (fun xs S1 => ∃ v w, xs = [v, w] ∧ N ((δ.set i (some v)).set j (some w)) S1) (fun x S1 => X x δ S1)) : wf (parM i j ms δ S) N R X B C := wf_bind (wp_q h fun _ _ h => by
  obtain ⟨v, w, rfl, h⟩ := h
  exact h)
theorem wf_setD (h : wp (mv δ S) (fun d S1 => wp (mo δ S1) (fun x S2 => wp (mi δ S2) (fun y S3 => ∃ n ks ds k, x = .loc n ∧ S3[n]? = some (.dct ks ds) ∧ keyD y = some k ∧ ks.length < 1000000 ∧ N δ (S3.set n (.dct (putD ks ds k d).1 (putD ks ds k d).2))) (fun x S1 => X x δ S1)) (fun x S1 => X x δ S1)) (fun x S1 => X x δ S1)) : wf (setXM mo mi mv δ S) N R X B C :=
  wf_bind (wp_q h fun _ _ h => wf_bind (wp_q h fun _ _ h => wf_bind (wp_q h fun _ _ h => by
    obtain ⟨n, ks, ds, k, rfl, e, ek, hl, h⟩ := h
    simp only [locL, locD, e, ek, if_pos hl]
    exact h)))
end
section
variable {δ : DEnv} {S : Store} {Q : D → Store → Prop} {X : Ex → Store → Prop} {mi : DEnv → Store → Res Src} {tg : Tg} {ke ve : ME} {vs : List Nat}
end
section
variable {δ : DEnv} {S : Store} {Q : D → Store → Prop} {X : Ex → Store → Prop} {mi mi1 : DEnv → Store → Res Src} {tg tg1 : Tg} {tst tst1 : MB} {el : ME} {vs vs1 : List Nat}
end
section
variable {S : Store} {P : D → Prop} {PB : Bool → Prop} {a b : List Nat} {ds es : List D} {d : D} {c n : Nat} {xs : List (List Nat)}
theorem gw_upper1 (k : P (.str [upL c])) (h : c < 128 := by first | assumption | omega) : GW (upperG S (.str [c]) []) P := gw_upper (a := [c]) k (by simp [asc, h]) (by simp)
theorem gw_lower1 (k : P (.str [loL c])) (h : c < 128 := by first | assumption | omega) : GW (lowerG S (.str [c]) []) P := gw_lower (a := [c]) k (by simp [asc, h]) (by simp)
theorem gw_swap (k : P (.str [swL c])) (h : c < 128 := by first | assumption | omega) : GW (swapG S (.str [c]) []) P := ⟨_, if_pos h, k⟩
theorem gw_isup (k : P (.bl (decide (65 ≤ c) && decide (c ≤ 90)))) (h : c < 128 := by first | assumption | omega) : GW (isupG S (.str [c]) []) P := ⟨_, if_pos h, k⟩
theorem gw_sorted (k : P (.lst ((sortT xs).map D.str))) : GW (sortedG S [.lst (xs.map D.str)]) P := ⟨_, by
  show (match asSs (xs.map D.str) with | some ls => some (D.lst ((sortT ls).map D.str)) | none => none) = _
  rw [asSsMap], k⟩
theorem gw_sortedT (k : P (.lst ((sortT xs).map D.str))) : GW (sortedG S [.tup (xs.map D.str)]) P := ⟨_, by
  show (match asSs (xs.map D.str) with | some ls => some (D.lst ((sortT ls).map D.str)) | none => none) = _
  rw [asSsMap], k⟩
theorem gw_keys {ks : List Key} (k : P (.lst (ks.map kD))) : GW (list3G S [.dct ks ds]) P := ⟨_, rfl, k⟩
def kS (c : Nat) : Key := .inr (sOf [c])
theorem kS_inj {c e : Nat} (h : kS c = kS e) : c = e := by
  unfold kS at h
  injection h with h
  have := congrArg (fun s : Str => s.cps.toList) h
  simpa [sOf] using this
theorem memK_map {l : List Nat} : memK (l.map kS) (kS c) = decide (c ∈ l) := by
  induction l with
  | nil => rfl
  | cons x l ih =>
    have e : memK ((x :: l).map kS) (kS c) = (decide (kS x = kS c) || memK (l.map kS) (kS c)) := rfl
    rw [e, ih]
    by_cases h : x = c
    · subst h; simp
    · have : kS x ≠ kS c := fun z => h (kS_inj z)
      have h' : c ≠ x := fun z => h z.symm
      simp [this, h, h']
theorem flVsMap : ∀ xs : List (List Nat), flVs (xs.map D.str) = some (xs.map fun l => V.str ⟨l.toArray⟩)
  | [] => rfl
  | x :: xs => by simp [flVs, flV, flVsMap xs]
theorem inV_strs : ∀ xs : List (List Nat), inV (V.str ⟨a.toArray⟩) (xs.map fun l => V.str ⟨l.toArray⟩) = decide (a ∈ xs)
  | [] => rfl
  | x :: xs => by
    have e : inV (V.str ⟨a.toArray⟩) ((x :: xs).map fun l => V.str ⟨l.toArray⟩) = (eqV (V.str ⟨x.toArray⟩) (V.str ⟨a.toArray⟩) || inV (V.str ⟨a.toArray⟩) (xs.map fun l => V.str ⟨l.toArray⟩)) := rfl
    rw [e, inV_strs xs]
    have e2 : eqV (V.str ⟨x.toArray⟩) (V.str ⟨a.toArray⟩) = decide (x = a) := by
      show decide ((⟨x.toArray⟩ : Str) = ⟨a.toArray⟩) = decide (x = a)
      by_cases h : x = a
      · subst h; simp
      · have : (⟨x.toArray⟩ : Str) ≠ ⟨a.toArray⟩ := fun z => h (by
          have := congrArg (fun s : Str => s.cps.toList) z
          simpa using this)
        simp [h, this]
    rw [e2]
    by_cases h : x = a
    · subst h; simp
    · have h' : ¬ a = x := fun z => h z.symm
      simp [h, h']
theorem inB_strs (h : asQ S d = some (xs.map D.str)) (hd : ∀ l, d ≠ .str l) : inB S (.str a) d = some (decide (a ∈ xs)) := by
  unfold inB
  split
  · exact absurd rfl (hd _)
  · rw [h]
    simp only [flV, flVsMap, inV_strs]
theorem gw_inL (k : P (.bl (decide (a ∈ xs)))) : GW (inG S (.str a) (.lst (xs.map D.str))) P := ⟨_, by unfold inG; rw [inB_strs (xs := xs) rfl (fun l h => by cases h)], k⟩
theorem gw_ninL (k : P (.bl (!decide (a ∈ xs)))) : GW (ninG S (.str a) (.lst (xs.map D.str))) P := ⟨_, by unfold ninG; rw [inB_strs (xs := xs) rfl (fun l h => by cases h)], k⟩
theorem gb_inL (k : PB (decide (a ∈ xs))) : GW (asB (inG S (.str a) (.lst (xs.map D.str)))) PB := ⟨_, by unfold inG; rw [inB_strs (xs := xs) rfl (fun l h => by cases h)]; rfl, k⟩
theorem gb_ninL (k : PB (!decide (a ∈ xs))) : GW (asB (ninG S (.str a) (.lst (xs.map D.str)))) PB := ⟨_, by unfold ninG; rw [inB_strs (xs := xs) rfl (fun l h => by cases h)]; rfl, k⟩
end
section
variable {δ : DEnv} {S : Store} {N B C : DEnv → Store → Prop} {R : D → Store → Prop} {X : Ex → DEnv → Store → Prop} {tg : Tg} {b : MS} {mi : DEnv → Store → Res Src}
end
section
variable {δ : DEnv} {S : Store} {Q : D → Store → Prop} {X : Ex → Store → Prop} {mi mi1 : DEnv → Store → Res Src} {tg tg1 : Tg} {tst tst1 : MB} {el : ME} {vs vs1 : List Nat}
end
section
variable {δ : DEnv} {S : Store} {Q : D → Store → Prop} {X : Ex → Store → Prop} {i n : Nat} {φ : Fn} {ms : MA} {C : Addr} {ns : List Str} {ds : List D} {d : D} {f m : Str}
theorem wp_fO (hv : δ[i]? = some (some (.obj C ns ds))) (hl : lookS ns ds f = some d) (k : Q d S) : wp (fldM C f (vM i) δ S) Q X := wp_fld (ns := []) (ds := []) (wp_v hv ⟨ns, ds, d, rfl, hl, k⟩)
theorem wp_mO (hv : δ[i]? = some (some (.obj C ns ds))) (hm : lookS ns ds m = none) (k : wp (ms δ S) (fun xs S2 => (D.obj C ns ds :: (xs ++ [])).length = n ∧ wp (φ (.obj C ns ds :: (xs ++ [])) S2) Q X) X) : wp (methM C m n φ (vM i) ms [] δ S) Q X := wp_meth (wp_v hv ⟨ns, ds, rfl, hm, k⟩)
end
section
variable {δ : DEnv} {S : Store} {N B C : DEnv → Store → Prop} {R : D → Store → Prop} {X : Ex → DEnv → Store → Prop}
end
section
variable {δ : DEnv} {S : Store} {Q : D → Store → Prop} {X : Ex → Store → Prop} {i n : Nat} {ns : List Str} {ds : List D} {d : D} {f : Str}
end
theorem toPys_strs : ∀ xs : List (List Nat), toPys (xs.map D.str) = some (xs.map fun l => PyData.str ⟨l.toArray⟩)
  | [] => rfl
  | x :: xs => by simp [toPys, toPy, toPys_strs xs]
theorem canLay_strs : ∀ {xs : List (List Nat)}, (∀ l ∈ xs, ∀ c ∈ l, c < 128) → PyData.canLayAll0 (xs.map fun l => PyData.str ⟨l.toArray⟩) = true
  | [], _ => rfl
  | x :: xs, h => by
    have ih := canLay_strs (xs := xs) fun l hl => h l (List.mem_cons_of_mem _ hl)
    have hx := h x (by simp)
    rw [List.map_cons, PyData.canLayAll0, ih, Bool.and_true]
    show (x.toArray).all (· < 0x110000) = true
    rw [List.all_toArray]
    exact List.all_eq_true.mpr fun c hc => decide_eq_true (by have := hx c hc; omega)
def LsS (S : Store) (d : D) (xs : List (List Nat)) : Prop := toPyS S d = some (.list (xs.map fun l => PyData.str ⟨l.toArray⟩)) ∧ (∀ l, d ≠ .str l) ∧ ∀ i, d ≠ .int i
theorem LsS.lst {S : Store} (xs : List (List Nat)) : LsS S (.lst (xs.map D.str)) xs := ⟨by show toPy _ = _; rw [toPy, toPys_strs], (fun _ h => by cases h), fun _ h => by cases h⟩
theorem LsS.loc {S : Store} {n : Nat} {xs : List (List Nat)} (h : S[n]? = some (.lst (xs.map D.str))) : LsS S (.loc n) xs := ⟨by simp only [toPyS, asL, h, toPys_strs], (fun _ h => by cases h), fun _ h => by cases h⟩
theorem LsS.nil {S : Store} : LsS S (.lst []) [] := LsS.lst []
end SL
namespace SL
open PySem PySem.Spec L2
open PyProof.Rows hiding St
section
variable {X : Cx} {W : WX} {e o : Expr} {es : List Expr} {ms : MA} {mo mk md : ME} {x : Str} {p pos : Pos}
variable {f : Expr} {apos cpos : Pos}
end
section
variable {X : Cx} {W : WX} {G : Ends} {H H' : Hp} {ρ ρ' : List Addr} {σ σ' : St} {δ δ' : DEnv} {S S' : Store} {m : MS}
end
theorem PS.or {X : Cx} {st : Stmt} {t t' : TS} (h : PS X st t) (h' : PS X st t') : PS X st (fun G σ H => t G σ H ∨ t' G σ H) := ⟨fun pins s σ H D I q => q.elim (h.run pins s σ H D I) (h'.run pins s σ H D I)⟩
section
variable {X : Cx} {W : WX} {tge : Expr} {body : List Stmt} {t : Tg} {m : MS} {pos p : Pos} {x : Str} {i : Nat}
end
section
variable {P : Program} {w : World} {K : PySem.W.Frag} {mg : Str → Option Value} {base : Heap} {k : Nat} {f : Addr} {fd : FuncData} {x qual : Str} {params : Arguments} {body : List Stmt} {scope : Scope} {dvs : List V} {kws : List (Str × V)} {N ps : List Str} {m : MS}
end
section
variable {S : Store} {Q : D → Store → Prop} {X : Ex → Store → Prop}
end
section
variable {δ : DEnv} {S : Store} {m : MS} {i : Nat} {N B C : DEnv → Store → Prop} {R : D → Store → Prop} {X : Ex → DEnv → Store → Prop}
end
end SL
namespace ZX
open PySem PySem.Spec PyProof.Rows L2
section
variable {prog : Program} {w : World} {A : Around} {E : Value → Shared → Prop} {s : Shared} {z TI TO i1 i2 T : Addr} {fp1 fp2 : List Addr} {n1 n2 i : Nat} {P1 P2 : Nat → Value → Prop} {St1 St2 : Nat → Heap → Prop} {a1 a2 : Value} {f : Bool} {oT : Obj}
structure ZL (z TI TO i1 i2 L : Addr) (St1 St2 : Nat → Heap → Prop) (i : Nat) (h : Heap) : Prop where
  ti : IsTupOf2 h TI (.ref i1) (.ref i2)
  s1 : St1 i h
  s2 : St2 i h
  to : ∃ o, h.get? TO = some o
  zz : (IsZip h z TI TO .none ∧ ∃ a b, IsTupOf2 h TO a b) ∨ ∃ T f oT, IsZipHeld h z TI TO T f ∧ h.get? T = some oT ∧ T ≠ z ∧ T ≠ i1 ∧ T ≠ i2 ∧ T ≠ L
structure AccZ (z TO i1 i2 L : Addr) (P1 P2 : Nat → Value → Prop) (h : Heap) (acc : Array Value) (i : Nat) : Prop where
  sz : acc.size = i
  it : ∀ j v, acc[j]? = some v → ∃ T x1 x2, v = .ref T ∧ P1 j x1 ∧ P2 j x2 ∧ IsTupOf2 h T x1 x2 ∧ T ≠ z ∧ T ≠ TO ∧ T ≠ i1 ∧ T ≠ i2 ∧ T ≠ L
structure OffZ (z TI TO i1 i2 L : Addr) (fp1 fp2 : List Addr) : Prop where
  z : L ≠ z
  TI : L ≠ TI
  TO : L ≠ TO
  i1 : L ≠ i1
  i2 : L ≠ i2
  f1 : L ∉ fp1
  f2 : L ∉ fp2
theorem AccZ.keep {L : Addr} {h h' : Heap} {acc : Array Value} {i : Nat} (a : AccZ z TO i1 i2 L P1 P2 h acc i) (k : ∀ c o, c ≠ z → c ≠ TO → c ≠ i1 → c ≠ i2 → c ≠ L → h.get? c = some o → h'.get? c = some o) : AccZ z TO i1 i2 L P1 P2 h' acc i :=
  ⟨a.sz, fun j v e => let ⟨T, x1, x2, e1, p1, p2, t, t1, t2, t3, t4, t5⟩ := a.it j v e; ⟨T, x1, x2, e1, p1, p2, k _ _ t1 t2 t3 t4 t5 t, t1, t2, t3, t4, t5⟩⟩
theorem AccZ.push {L : Addr} {h : Heap} {acc : Array Value} {i : Nat} {x1 x2 : Value} (a : AccZ z TO i1 i2 L P1 P2 h acc i) (p1 : P1 i x1) (p2 : P2 i x2) (t : IsTupOf2 h T x1 x2) (t1 : T ≠ z) (t2 : T ≠ TO) (t3 : T ≠ i1) (t4 : T ≠ i2) (t5 : T ≠ L) : AccZ z TO i1 i2 L P1 P2 h (acc.push (.ref T)) (i + 1) := by
  refine ⟨by rw [Array.size_push, a.sz], fun j v e => ?_⟩
  rw [Array.getElem?_push] at e
  split at e
  · rename_i hj
    have hj : j = i := by rw [hj, a.sz]
    subst hj
    cases e
    exact ⟨T, x1, x2, rfl, p1, p2, t, t1, t2, t3, t4, t5⟩
  · exact a.it j v e
end
end ZX
namespace SL
open PySem PySem.Spec L2 ZX
open PyProof.Rows hiding St
section
variable {X : Cx} {W : WX} {a b : Expr} {ma mb : ME} {p1 p2 p3 pos1 pos2 pos3 : Pos}
end
end SL
namespace NC
open PySem PySem.Spec L2 SL
end NC
namespace SL
open PySem PySem.Spec L2
open PyProof.Rows hiding St
section
variable {X : Cx}
end
end SL
namespace SL
open PySem PySem.Spec L2
def Pi : Nat → D → Prop
  | _, .non => True
  | _, .int _ => True
  | _, .str l => ∀ c ∈ l, c < 128
  | n + 1, .tup xs => ∀ x ∈ xs, Pi n x
  | n + 1, .lst xs => ∀ x ∈ xs, Pi n x
  | _, _ => False
noncomputable def cB (p : Prop) : Bool := @decide p (Classical.propDecidable p)
theorem cB_iff {p : Prop} : cB p = true ↔ p := by
  unfold cB
  rw [@decide_eq_true_eq p (Classical.propDecidable p)]
theorem cB_eq {p : Prop} [Decidable p] : cB p = decide p := by
  rw [Bool.eq_iff_iff, cB_iff, decide_eq_true_eq]
theorem cB_t {p : Prop} (h : p) : cB p = true := cB_iff.mpr h
theorem cB_congr {p q : Prop} (h : p ↔ q) : cB p = cB q := by
  rw [Bool.eq_iff_iff, cB_iff, cB_iff, h]
theorem strOk_of {l : List Nat} (h : ∀ c ∈ l, c < 128) : PyData.canLay0 (.str ⟨l.toArray⟩) = true := by
  have := canLay_strs (xs := [l]) fun x hx => by rw [List.mem_singleton.mp hx]; exact h
  rw [List.map_cons, List.map_nil, PyData.canLayAll0, PyData.canLayAll0, Bool.and_true] at this
  exact this
mutual
theorem Pi.py : ∀ (n : Nat) (d : D), Pi n d → ∃ p, toPy d = some p ∧ PyData.canLay0 p = true ∧ p.depth ≤ n
  | n, .non, h => ⟨_, rfl, rfl, Nat.zero_le _⟩
  | n, .int i, h => ⟨_, rfl, rfl, Nat.zero_le _⟩
  | n, .str l, h => ⟨_, rfl, strOk_of (by cases n <;> exact h), Nat.zero_le _⟩
  | n + 1, .tup xs, h => by
    obtain ⟨ps, e, c, dp⟩ := Pi.pys n xs h
    exact ⟨.tuple ps, by rw [toPy, e], by rw [PyData.canLay0]; exact c, by rw [PyData.depth]; omega⟩
  | n + 1, .lst xs, h => by
    obtain ⟨ps, e, c, dp⟩ := Pi.pys n xs h
    exact ⟨.list ps, by rw [toPy, e], by rw [PyData.canLay0]; exact c, by rw [PyData.depth]; omega⟩
  | 0, .tup _, h => h.elim
  | 0, .lst _, h => h.elim
  | 0, .bl _, h => h.elim
  | 0, .dct _ _, h => h.elim
  | 0, .obj _ _ _, h => h.elim
  | 0, .loc _, h => h.elim
  | 0, .raw _, h => h.elim
  | 0, .exn _ _ _ _, h => h.elim
  | _ + 1, .bl _, h => h.elim
  | _ + 1, .dct _ _, h => h.elim
  | _ + 1, .obj _ _ _, h => h.elim
  | _ + 1, .loc _, h => h.elim
  | _ + 1, .raw _, h => h.elim
  | _ + 1, .exn _ _ _ _, h => h.elim
theorem Pi.pys : ∀ (n : Nat) (xs : List D), (∀ x ∈ xs, Pi n x) → ∃ ps, toPys xs = some ps ∧ PyData.canLayAll0 ps = true ∧ PyData.depthAll ps ≤ n
  | n, [], h => ⟨[], rfl, rfl, Nat.zero_le _⟩
  | n, x :: xs, h => by
    obtain ⟨p, e1, c1, d1⟩ := Pi.py n x (h x (List.mem_cons_self ..))
    obtain ⟨ps, e2, c2, d2⟩ := Pi.pys n xs fun y hy => h y (List.mem_cons_of_mem _ hy)
    exact ⟨p :: ps, by simp only [toPys, e1, e2], by rw [PyData.canLayAll0, c1, c2]; rfl, by rw [PyData.depthAll]; omega⟩
end
theorem strEq_iff {x y : List Nat} : (⟨x.toArray⟩ : Str) = ⟨y.toArray⟩ ↔ x = y := ⟨fun z => by
  have := congrArg (fun s : Str => s.cps.toList) z
  simpa using this, fun h => by rw [h]⟩
mutual
theorem Pi.eqv : ∀ (n m : Nat) (d e : D) (p q : PyData), Pi n d → Pi m e → toPy d = some p → toPy e = some q → (PyData.eqv p q = true ↔ d = e)
  | n, m, d, e, p, q, hd, he, h1, h2 => by
    cases d with
    | non =>
      cases h1
      cases e with
      | non => cases h2; simp [PyData.eqv]
      | int j => cases h2; simp [PyData.eqv]
      | str l => cases h2; simp [PyData.eqv]
      | tup ys =>
        cases m with
        | zero => exact he.elim
        | succ m =>
          obtain ⟨qs, e2, _, _⟩ := Pi.pys m ys he
          rw [toPy, e2] at h2
          cases h2
          simp [PyData.eqv]
      | lst ys =>
        cases m with
        | zero => exact he.elim
        | succ m =>
          obtain ⟨qs, e2, _, _⟩ := Pi.pys m ys he
          rw [toPy, e2] at h2
          cases h2
          simp [PyData.eqv]
      | _ => cases m <;> exact he.elim
    | int i =>
      cases h1
      cases e with
      | non => cases h2; simp [PyData.eqv]
      | int j => cases h2; simp [PyData.eqv]
      | str l => cases h2; simp [PyData.eqv]
      | tup ys =>
        cases m with
        | zero => exact he.elim
        | succ m =>
          obtain ⟨qs, e2, _, _⟩ := Pi.pys m ys he
          rw [toPy, e2] at h2
          cases h2
          simp [PyData.eqv]
      | lst ys =>
        cases m with
        | zero => exact he.elim
        | succ m =>
          obtain ⟨qs, e2, _, _⟩ := Pi.pys m ys he
          rw [toPy, e2] at h2
          cases h2
          simp [PyData.eqv]
      | _ => cases m <;> exact he.elim
    | str k =>
      cases h1
      cases e with
      | non => cases h2; simp [PyData.eqv]
      | int j => cases h2; simp [PyData.eqv]
      | str l =>
        cases h2
        rw [PyData.eqv, beq_iff_eq, strEq_iff]
        exact ⟨fun h => by rw [h], fun h => by cases h; rfl⟩
      | tup ys =>
        cases m with
        | zero => exact he.elim
        | succ m =>
          obtain ⟨qs, e2, _, _⟩ := Pi.pys m ys he
          rw [toPy, e2] at h2
          cases h2
          simp [PyData.eqv]
      | lst ys =>
        cases m with
        | zero => exact he.elim
        | succ m =>
          obtain ⟨qs, e2, _, _⟩ := Pi.pys m ys he
          rw [toPy, e2] at h2
          cases h2
          simp [PyData.eqv]
      | _ => cases m <;> exact he.elim
    | tup xs =>
      cases n with
      | zero => exact hd.elim
      | succ n =>
        obtain ⟨ps, e1, _, _⟩ := Pi.pys n xs hd
        rw [toPy, e1] at h1
        cases h1
        cases e with
        | non => cases h2; simp [PyData.eqv]
        | int j => cases h2; simp [PyData.eqv]
        | str l => cases h2; simp [PyData.eqv]
        | tup ys =>
          cases m with
          | zero => exact he.elim
          | succ m =>
            obtain ⟨qs, e2, _, _⟩ := Pi.pys m ys he
            rw [toPy, e2] at h2
            cases h2
            rw [PyData.eqv, Pi.eqvs n m xs ys ps qs hd he e1 e2]
            exact ⟨fun h => by rw [h], fun h => by cases h; rfl⟩
        | lst ys =>
          cases m with
          | zero => exact he.elim
          | succ m =>
            obtain ⟨qs, e2, _, _⟩ := Pi.pys m ys he
            rw [toPy, e2] at h2
            cases h2
            simp [PyData.eqv]
        | _ => cases m <;> exact he.elim
    | lst xs =>
      cases n with
      | zero => exact hd.elim
      | succ n =>
        obtain ⟨ps, e1, _, _⟩ := Pi.pys n xs hd
        rw [toPy, e1] at h1
        cases h1
        cases e with
        | non => cases h2; simp [PyData.eqv]
        | int j => cases h2; simp [PyData.eqv]
        | str l => cases h2; simp [PyData.eqv]
        | tup ys =>
          cases m with
          | zero => exact he.elim
          | succ m =>
            obtain ⟨qs, e2, _, _⟩ := Pi.pys m ys he
            rw [toPy, e2] at h2
            cases h2
            simp [PyData.eqv]
        | lst ys =>
          cases m with
          | zero => exact he.elim
          | succ m =>
            obtain ⟨qs, e2, _, _⟩ := Pi.pys m ys he
            rw [toPy, e2] at h2
            cases h2
            rw [PyData.eqv, Pi.eqvs n m xs ys ps qs hd he e1 e2]
            exact ⟨fun h => by rw [h], fun h => by cases h; rfl⟩
        | _ => cases m <;> exact he.elim
    | _ => cases n <;> exact hd.elim
theorem Pi.eqvs : ∀ (n m : Nat) (xs ys : List D) (ps qs : List PyData), (∀ x ∈ xs, Pi n x) → (∀ x ∈ ys, Pi m x) → toPys xs = some ps → toPys ys = some qs → (PyData.eqvAll ps qs = true ↔ xs = ys)
  | n, m, [], [], ps, qs, _, _, h1, h2 => by cases h1; cases h2; simp [PyData.eqvAll]
  | n, m, [], y :: ys, ps, qs, _, he, h1, h2 => by
    cases h1
    obtain ⟨qs', e2, _, _⟩ := Pi.pys m _ he
    rw [e2] at h2
    cases h2
    obtain ⟨p, e3, _, _⟩ := Pi.py m y (he y (List.mem_cons_self ..))
    obtain ⟨ps, e4, _, _⟩ := Pi.pys m ys fun y hy => he y (List.mem_cons_of_mem _ hy)
    simp only [toPys, e3, e4] at e2
    cases e2
    simp [PyData.eqvAll]
  | n, m, x :: xs, [], ps, qs, hd, _, h1, h2 => by
    cases h2
    obtain ⟨p, e3, _, _⟩ := Pi.py n x (hd x (List.mem_cons_self ..))
    obtain ⟨ps', e4, _, _⟩ := Pi.pys n xs fun y hy => hd y (List.mem_cons_of_mem _ hy)
    simp only [toPys, e3, e4] at h1
    cases h1
    simp [PyData.eqvAll]
  | n, m, x :: xs, y :: ys, ps, qs, hd, he, h1, h2 => by
    obtain ⟨p, e3, _, _⟩ := Pi.py n x (hd x (List.mem_cons_self ..))
    obtain ⟨ps', e4, _, _⟩ := Pi.pys n xs fun y hy => hd y (List.mem_cons_of_mem _ hy)
    obtain ⟨q, e5, _, _⟩ := Pi.py m y (he y (List.mem_cons_self ..))
    obtain ⟨qs', e6, _, _⟩ := Pi.pys m ys fun y hy => he y (List.mem_cons_of_mem _ hy)
    simp only [toPys, e3, e4] at h1
    simp only [toPys, e5, e6] at h2
    cases h1
    cases h2
    rw [PyData.eqvAll, Bool.and_eq_true, Pi.eqv n m x y p q (hd x (List.mem_cons_self ..)) (he y (List.mem_cons_self ..)) e3 e5, Pi.eqvs n m xs ys ps' qs' (fun y hy => hd y (List.mem_cons_of_mem _ hy)) (fun y hy => he y (List.mem_cons_of_mem _ hy)) e4 e6]
    simp
end
def At (S : Store) (x d : D) : Prop := x = d ∨ ∃ m xs, x = .loc m ∧ S[m]? = some (.lst xs) ∧ d = .lst xs
theorem At.rf {S : Store} {d : D} : At S d d := .inl rfl
theorem At.loc {S : Store} {m : Nat} {xs : List D} (h : S[m]? = some (.lst xs)) : At S (.loc m) (.lst xs) := .inr ⟨m, xs, rfl, h, rfl⟩
theorem At.py {S : Store} {x d : D} {n : Nat} (h : At S x d) (p : Pi n d) : toPyS S x = toPy d := by
  rcases h with rfl | ⟨m, xs, rfl, h, rfl⟩
  · cases x <;> first | rfl | (cases n <;> exact p.elim)
  · simp only [toPyS, asL, h]
    rfl
theorem eqB_data {S : Store} {x y d e : D} {n m : Nat} (hx : At S x d) (hy : At S y e) (h1 : Pi n d) (h2 : Pi m e) (hn : n ≤ 60 := by omega) (hm : m ≤ 60 := by omega) : eqB S x y = some (cB (d = e)) := by
  obtain ⟨p, e1, c1, d1⟩ := Pi.py n d h1
  obtain ⟨q, e2, c2, d2⟩ := Pi.py m e h2
  have key : (match toPyS S x, toPyS S y with
    | some p, some q => if SeqAt.shaped p = true ∧ SeqAt.shaped q = true then some (PyData.eqv p q) else none
    | _, _ => none) = some (cB (d = e)) := by
    rw [hx.py h1, hy.py h2, e1, e2]
    simp only
    have s1 : SeqAt.shaped p = true := by
      unfold SeqAt.shaped
      rw [c1, Bool.true_and]
      exact decide_eq_true (by omega)
    have s2 : SeqAt.shaped q = true := by
      unfold SeqAt.shaped
      rw [c2, Bool.true_and]
      exact decide_eq_true (by omega)
    rw [if_pos ⟨s1, s2⟩]
    congr 1
    rw [Bool.eq_iff_iff, cB_iff]
    exact Pi.eqv n m d e p q h1 h2 e1 e2
  unfold eqB
  split
  · rename_i a b
    obtain rfl : d = .str a := by
      rcases hx with h | ⟨_, _, h, _⟩
      · exact h.symm
      · cases h
    obtain rfl : e = .str b := by
      rcases hy with h | ⟨_, _, h, _⟩
      · exact h.symm
      · cases h
    rw [← cB_eq]
    exact congrArg some (cB_congr ⟨fun h => by rw [h], fun h => by cases h; rfl⟩)
  · rename_i a b
    obtain rfl : d = .int a := by
      rcases hx with h | ⟨_, _, h, _⟩
      · exact h.symm
      · cases h
    obtain rfl : e = .int b := by
      rcases hy with h | ⟨_, _, h, _⟩
      · exact h.symm
      · cases h
    rw [← cB_eq]
    exact congrArg some (cB_congr ⟨fun h => by rw [h], fun h => by cases h; rfl⟩)
  · exact key
section
variable {S : Store} {x y d e : D} {n m : Nat} {P : D → Prop} {PB : Bool → Prop}
theorem gw_eqD (n m : Nat) (hx : At S x d) (hy : At S y e) (h1 : Pi n d) (h2 : Pi m e) (k : P (.bl (cB (d = e)))) (hn : n ≤ 60 := by omega) (hm : m ≤ 60 := by omega) : GW (eqG S x y) P := ⟨_, by unfold eqG; rw [eqB_data hx hy h1 h2], k⟩
theorem gb_neD (n m : Nat) (hx : At S x d) (hy : At S y e) (h1 : Pi n d) (h2 : Pi m e) (k : PB (!cB (d = e))) (hn : n ≤ 60 := by omega) (hm : m ≤ 60 := by omega) : GW (asB (neG S x y)) PB := ⟨_, by unfold neG; rw [eqB_data hx hy h1 h2]; rfl, k⟩
theorem Pi.up : ∀ {n : Nat} {d : D}, Pi n d → Pi (n + 1) d
  | n, .non, _ => trivial
  | n, .int _, _ => trivial
  | 0, .str _, h => h
  | n + 1, .str _, h => h
  | n + 1, .tup xs, h => fun x hx => Pi.up (h x hx)
  | n + 1, .lst xs, h => fun x hx => Pi.up (h x hx)
  | 0, .tup _, h => h.elim
  | 0, .lst _, h => h.elim
  | 0, .bl _, h => h.elim
  | 0, .dct _ _, h => h.elim
  | 0, .obj _ _ _, h => h.elim
  | 0, .loc _, h => h.elim
  | 0, .raw _, h => h.elim
  | 0, .exn _ _ _ _, h => h.elim
  | _ + 1, .bl _, h => h.elim
  | _ + 1, .dct _ _, h => h.elim
  | _ + 1, .obj _ _ _, h => h.elim
  | _ + 1, .loc _, h => h.elim
  | _ + 1, .raw _, h => h.elim
  | _ + 1, .exn _ _ _ _, h => h.elim
theorem Pi.map {α : Type} {f : α → D} {xs : List α} (h : ∀ x ∈ xs, Pi n (f x)) : Pi (n + 1) (.lst (xs.map f)) := fun d hd => by
  obtain ⟨x, hx, rfl⟩ := List.mem_map.mp hd
  exact h x hx
theorem Pi.s {l : List Nat} (h : ∀ c ∈ l, c < 128) : Pi n (.str l) := by cases n <;> exact h
theorem Pi.i {j : Int} : Pi n (.int j) := by cases n <;> exact trivial
theorem Pi.nil : Pi (n + 1) (.lst []) := fun _ h => by cases h
theorem Pi.cons {xs : List D} (h : Pi n d) (k : Pi (n + 1) (.lst xs)) : Pi (n + 1) (.lst (d :: xs)) := fun x hx => by
  rcases List.mem_cons.mp hx with rfl | hx
  · exact h
  · exact k x hx
end
section
variable {S : Store} {x y d : D} {es : List D} {n m : Nat} {P : D → Prop} {PB : Bool → Prop}
end
end SL
namespace NC
open PySem PySem.Spec L2 SL
end NC
namespace SL
open PySem PySem.Spec L2
open PyProof.Rows hiding St
end SL
namespace NC
open PySem PySem.Spec L2 SL
end NC
namespace SL
open PySem PySem.Spec L2
open PyProof.Rows hiding St
def TestAs (X : Cx) (te : Expr) (any : Value → Option Bool) : Prop := ∀ (a : Addr) (oe : Obj) (pn : List (Addr × Obj)) (σ : L2.St) (H : Hp) (s : Shared) (cls : Value) (b : Bool), Inv (X.suite a ((a, oe) :: pn)) [] σ H s →
  s.heap.get? a = some oe → oe.cls = cls → any cls = some b → ∀ {Q : Bool → Shared → Prop} {E : Value → Shared → Prop}, (∀ h', (∀ c o, s.heap.get? c = some o → h'.get? c = some o) → Q b { s with heap := h' }) →
  wpAny (model X.prog X.w) (X.A.mark (some (.ref a))) (eval te X.env) (fun v s1 => wpAny (model X.prog X.w) (X.A.mark (some (.ref a))) (excMatches (.ref a) v) Q E s1) E s
theorem flz_keeps {base h h' : Heap} {l : List Env} {e : Addr} {Z : Obj → Prop} (x : HandSPX.FlyingZ base l e Z h) (k : ∀ b o, h.get? b = some o → h'.get? b = some o) : HandSPX.FlyingZ base l e Z h' := by
  obtain ⟨y1, y2, y3, oz, ws, T, oT, tz, z1, z2, z3, z4, z5, z6, z7, z8, z9⟩ := x
  exact ⟨fun b o q => k b o (y1 b o q), y2, y3.of_keeps fun b o q _ => ⟨o, k b o q, rfl⟩, oz, ws, T, oT, tz, k _ _ z1, z2, z3, z4, z5, z6, k _ _ z7, z8, z9⟩
theorem looks_cls {X : Cx} {h : Heap} {a : Addr} {oe : Obj} {cls : Value} (he : h.get? a = some oe) (hc : oe.cls = cls) : PySem.W.Looks (model X.prog X.w) h (typeOf (.ref a)) cls := fun A Q E s k q => wpAny_typeOf_ref (k _ _ he) (by rw [hc]; exact q)
section
variable {X : Cx} {te : Expr} {any : Value → Option Bool} {n : Str} {i : Nat} {body suite : List Stmt} {b₀ : Stmt} {pos pos' : Pos} {tb : WX → TS} {ts : Addr → Value → Option Addr → TS} {Wout : WX} {D : Ends} {pins : List (Addr × Obj)}
def endsT (i : Nat) (D : Ends) : Ends := { nx := fun σ' H' => D.nx (σ'.set i none) H', rt := D.rt, bk := fun σ' H' => D.bk (σ'.set i none) H', ct := fun σ' H' => D.ct (σ'.set i none) H' }
def wAsT (any : Value → Option Bool) (i : Nat) (ts : Addr → Value → Option Addr → TS) (Wout : WX) (D : Ends) : WX := fun cls d σ H =>
  ∃ b, any cls = some b ∧ (b = true → ∀ a, H a = none → ts a cls d (endsT i D) (σ.set i (some (.ref a))) H) ∧ (b = false → Wout cls d σ H)
theorem catchT (test : TestAs X te any) (hs : X.stack = X.env :: X.outer) (hf : X.env.frame = some X.env.locals) (hN : X.N.Nodup) (hi : X.N[i]? = some n) (hln : X.env.kindOf n = some .local) (tk : Takes X Wout) (ok : X.Ok) (hfr : X.A.frames = some (X.env :: X.outer))
    (hsu : ∀ (a : Addr) (oe : Obj) (cls : Value) (d : Option Addr) (pn : List (Addr × Obj)), Zc cls d oe → (∃ vs, oe.data = .fields vs) → PSs (X.suite a ((a, oe) :: pn)) (b₀ :: suite) (ts a cls d)) {xe : Value → Shared → Prop} :
    Takes (X.tr (X.pn ++ pins) fun e s₁ => wpAny (model X.prog X.w) X.A (noteFrame e X.env) (fun _ s₂ => wpAny (model X.prog X.w) X.A (setFlight e none) (fun _ s₃ =>
      wpAny (model X.prog X.w) X.A (handleBy e X.env [.ExceptHandler (some te) (some n) (b₀ :: suite) pos']) (SP X pins D) X.xe s₃) X.xe s₂) X.xe s₁) (wAsT any i ts Wout D) := by
  rintro u sE ⟨a, B, sI, pinsE, σE, HE, cls, d, rfl, IE, nbE, upE, skyE, naE, osE, agE, b, hb1, hyes, hno⟩
  have IX : Inv X pins σE HE sI := IE.ofTry ok
  have skyX : Sky B (X.env :: X.outer) a (Zc cls d) X.env.locals sE.heap := hs ▸ skyE
  have landE : ∀ {h : Heap}, B.StaysIn h → sE.heap.UpToSlots h → Inv X pins σE HE { sE with heap := h } := fun {h} st up => IX.landed nbE st (upE.trans up) osE agE
  have far : ∀ {h : Heap} {o : Obj} {vs : Array Value}, h.FunFrames B (X.env :: X.outer) → h.get? a = some o → o.data = .fields vs → a ≠ X.env.locals ∧ a ∉ X.fs := fun {h o vs} ff ha ho => by
    have out : a ∉ frs (X.env :: X.outer) := fun hm => by
      obtain ⟨_, o2, ho2, hno2⟩ := ff.mem hm
      rw [ha] at ho2
      cases ho2
      exact hno2 _ ho
    refine ⟨fun z => out (List.mem_filterMap.mpr ⟨X.env, List.mem_cons_self, z ▸ hf⟩), fun hm => ?_⟩
    obtain ⟨en, hen, q⟩ := List.mem_filterMap.mp hm
    exact out (List.mem_filterMap.mpr ⟨en, List.mem_cons_of_mem _ hen, q⟩)
  show wpAny (model X.prog X.w) X.A (noteFrame (.ref a) X.env) _ _ _
  refine Sky.land Zc.steady hfr hf skyX fun hA flA upA => ?_
  obtain ⟨oA, vA, atA, zA, dA⟩ := flA.there
  have farA := far flA.2.2.1 atA dA
  have IA := (landE flA.1 upA).suite atA dA naE farA.1 farA.2
  refine wpAny_handleBy_cons (codeAny_handlers_test ?_) (by intro q; cases q)
  refine test a oA (X.pn ++ pins) σE HE _ cls b IA atA zA.1 hb1 fun hB kB => ?_
  have flB := flz_keeps flA kB
  have upB : sE.heap.UpToSlots hB := upA.trans (Heap.UpToSlots.of_keeps kB)
  cases b with
  | true =>
    refine codeAny_handlers_suite_as ?_
    refine HandSPX.lands_againZ flB fun hC flC upC => ?_
    obtain ⟨oC, vC, atC, zC, dC⟩ := flC.there
    have IC := (landE flC.1 (upB.trans upC)).suite atC dC naE farA.1 farA.2
    refine store_ok (X := X.suite a ((a, oC) :: (X.pn ++ pins))) (v := .ref a) IC hN hi (.inl hln) rfl (fun sS IS => ?_) (.inr hln)
    have gone : ∀ {σ6 : L2.St} {H6 : Hp} {s6 : Shared} {Q : Shared → Prop}, Inv (X.suite a ((a, oC) :: (X.pn ++ pins))) [] σ6 H6 s6 → (∀ s7, Inv X pins (σ6.set i none) H6 s7 → Q s7) →
        wpAny (model X.prog X.w) X.A (do bindName X.env n .none; unbindBehindTheSuite X.env n pos') (fun _ s7 => Q s7) X.xe s6 := fun I6 q => gone_ok (I6.unsuite ok) hN hi hln q
    refine wpAny_mono ((hsu a oC cls d (X.pn ++ pins) zC ⟨_, dC⟩).run [] sS _ HE _ IS (hyes rfl a naE)) (fun f s6 hsp => ?_) (fun _ _ z => False.elim z)
    cases f with
    | ret u =>
      obtain ⟨v6, σ6, H6, I6, r6, q6⟩ := hsp
      exact gone I6 fun s7 I7 => ⟨_, _, _, I7, r6, q6⟩
    | next =>
      obtain ⟨σ6, H6, I6, q6⟩ := hsp
      exact gone I6 fun s7 I7 => ⟨_, _, I7, q6⟩
    | brk =>
      obtain ⟨σ6, H6, I6, q6⟩ := hsp
      exact gone I6 fun s7 I7 => ⟨_, _, I7, q6⟩
    | cont =>
      obtain ⟨σ6, H6, I6, q6⟩ := hsp
      exact gone I6 fun s7 I7 => ⟨_, _, I7, q6⟩
  | false =>
    show wpAny _ X.A (handleBy (.ref a) X.env []) _ _ _
    refine wpAny_handleBy_nil ?_
    obtain ⟨_, _, _, oB, vB, T, _, _, atB, _, dB, trB, _⟩ := id flB
    unfold PySem.passOn
    refine wpAny_bind (wpAny_field atB dB trB ?_)
    rw [if_neg (show ¬ ((Value.ref T == Value.none) = true) by simp)]
    have onward : wpAny (model X.prog X.w) X.A (setFlight (.ref a) X.env.frame) (fun _ sD => wpAny (model X.prog X.w) X.A (throw (.ref a) : Sem Flow) (SP X pins D) X.xe sD) X.xe { sE with heap := hB } := by
      rw [hf]
      refine HandSPX.setFlight_upZ flB fun hD heldD upD => wpAny_throw (tk _ _ ?_)
      refine ⟨a, B, sI, pins, σE, HE, cls, d, rfl, IX, nbE, (upE.trans upB).trans upD, .inr (.inr ?_), naE, osE, agE, hno rfl⟩
      rw [hs]
      exact heldD
    first
      | exact wpAny_bind (wpAny_pure (wpAny_bind onward))
      | exact wpAny_bind onward
theorem ps_asT (test : TestAs X te any) (hs : X.stack = X.env :: X.outer) (hf : X.env.frame = some X.env.locals) (hN : X.N.Nodup) (hi : X.N[i]? = some n) (hln : X.env.kindOf n = some .local) (tk : Takes X Wout)
    (hb : ∀ (W : WX) (pn : List (Addr × Obj)) (xe : Value → Shared → Prop), Takes (X.tr pn xe) W → PassesOwn (model X.prog X.w) X.A X.env xe → PSs (X.tr pn xe) body (tb W))
    (hsu : ∀ (a : Addr) (oe : Obj) (cls : Value) (d : Option Addr) (pn : List (Addr × Obj)), Zc cls d oe → (∃ vs, oe.data = .fields vs) → PSs (X.suite a ((a, oe) :: pn)) (b₀ :: suite) (ts a cls d)) :
    PS X (.Try body [.ExceptHandler (some te) (some n) (b₀ :: suite) pos'] [] [] pos) (fun D σ H => tb (wAsT any i ts Wout D) D σ H) := by
  refine ⟨fun pins s σ H D I h => ?_⟩
  have ok := I.ok
  have hfr : X.A.frames = some (X.env :: X.outer) := by rw [ok.frames, hs]
  refine wpAny_Try_except ?_
  refine wpAny_mono ((hb (wAsT any i ts Wout D) (X.pn ++ pins) _ (catchT (xe := X.xe) test hs hf hN hi hln tk ok hfr hsu) PassesOwn.looking).run [] s σ H D (I.toTry _) h) (fun f s1 hsp => ?_) (fun _ _ z => z)
  cases f with
  | ret u =>
    obtain ⟨v, σ1, H1, I1, r, q⟩ := hsp
    exact ⟨v, σ1, H1, I1.ofTry ok, r, q⟩
  | next =>
    obtain ⟨σ1, H1, I1, q⟩ := hsp
    exact wpAny_execs_nil ⟨σ1, H1, I1.ofTry ok, q⟩
  | brk =>
    obtain ⟨σ1, H1, I1, q⟩ := hsp
    exact ⟨σ1, H1, I1.ofTry ok, q⟩
  | cont =>
    obtain ⟨σ1, H1, I1, q⟩ := hsp
    exact ⟨σ1, H1, I1.ofTry ok, q⟩
end
section
variable {X : Cx} {W : WX} {pos : Pos}
end
end SL
namespace KL
open PySem PySem.Spec PyProof.Rows L2 LamX
def tLamG (P : Addr) (q : Str) (TT : (XK → Hp → VK → Prop) → Hp → VK → Prop) (t : XK → TE) : TE := fun σ H Q => TabS H P q ∧ ∀ H1, Grown P q H H1 → TT (fun E H' Q' => t E σ H' Q') H1 Q
section
variable {X : Cx}
theorem pe_lamG {TT : (XK → Hp → VK → Prop) → Hp → VK → Prop} {x a : Str} {g c P : Addr} {k : Nat} {pg : Arguments} {bg : List Stmt} {sg : Scope} {dV kV doc pm cdv ct oc : Value} {an od : Option Addr} {osl : Array (Option Value)} {Ng : List Str}
    {params : Arguments} {body : Expr} {scope : Scope} {t : XK → TE} {p lpos pos : Pos} (hg : Gl X x) (hm : X.mg x = some (.ref g)) (hk : PySem.W.keepIn X.K (.ref g) = true)
    (lk : X.K.lookup g = some ⟨oc, od, .func (PySem.W.fnOf x x pg bg sg dV kV doc pm an cdv ct), osl⟩) (hcg : PySem.W.codeIn X.K cdv x = true) (hb : L2.Binds X.K (PySem.W.fnOf x x pg bg sg dV kV doc pm an cdv ct) [a] []) (Sg : FnScope Ng [a] sg) (hNg : Ng[0]? = some a) (hva : Vis sg a)
    (hG : GivesTo X Ng x sg g cdv bg a (X.env.qual ++ "<lambda>") TT)
    (TB : TabB X.base X.mg c P) (hcode : X.env.code = .ref c) (hr : Room (k + 2) X.A) (L : LamS X.env.scope scope) (hdef : defaultsOf params X.env = ([], []))
    (hbind : ∀ (q : Str) (cl : List (Str × Addr)) (pm cv ctv : Value), bindArgs (PySem.W.kla_fn "<lambda>" q params body scope cl pm cv ctv) ⟨[], []⟩ = pure [])
    (hbody : ∀ (A : Around) (outer : List Env) (s : Shared) (H : Hp) (E : XK) (f c' : Addr), Room k (A.deeper (lamEnv X scope s.heap.objs.size f c')) → PE (lamCx X A outer s H E scope f c') body (t E))
    (hdb : (x == ("__debug__" : Str)) = false := by decide) (hd : (a == ("__debug__" : Str)) = false := by decide) (hcd : (a == ("__classdict__" : Str)) = false := by decide) :
    PE X (.Call (.Name x p) [.Lambda params body scope lpos] [] pos) (tLamG P (X.env.qual ++ "<lambda>") TT t) := by
  refine ⟨fun pins s σ H Q I hh => ?_⟩
  refine wpAny_Call_Name_kw (ld_glob I hg hm ?_ hdb)
  refine PySem.W.callWith_K (h₀ := X.base) I.ok.mod.kin hk ?_ (by rfl) (by rfl)
  show wpAny _ _ (spliced ((false, eval (.Lambda params body scope lpos) X.env) :: backTo pos (starEach [] X.env))) _ _ s
  refine Calls.spliced_cons (lam_make3 I TB hcode hh.1 hdef (L.has I.ok) fun f c' pmv ctv HL sL IL gr atF noF frF coF => Calls.spliced_nil ⟨IL.kIn, ?_⟩)
  have ran : codeAny (model X.prog X.w) X.A (.call (.ref g) ⟨[.ref f], []⟩) (CR C8.CX0 X.stack X.prog X.w HL sL Q C8.E0) sL :=
    run_ofS (N := Ng) (ps := [a]) (us := [.ref f]) (vs := [.ref f]) lk hcg Sg hr IL.env0 (hb sL [.ref f] IL.kIn rfl) (.cons rfl .nil) rfl fun room => by
      obtain ⟨u, hu, q⟩ := hG f c' sL HL Q (fun E H' Q' => t E σ H' Q') (fun W pn xe E p1 p2 tk hW => pe_act (i := 0) IL L atF noF frF (hbind _ _ _ _ _) tk hW room (fun A outer s H r2 => hbody A outer s H E f c' r2) hNg hva hd hcd) coF (hh.2 HL gr)
      exact ⟨u, hu.nox, q⟩
  refine wpAny_call (codeAny_mono ran fun r s2 hq => ?_)
  match r, hq with
  | .error e, hq => exact (show False from hq).elim
  | .ok (.ret u), hq => exact IL.after hq
  | .ok .next, hq => exact hq.elim
  | .ok .brk, hq => exact hq.elim
  | .ok .cont, hq => exact hq.elim
theorem takes_len {Z : Cx} {W : WX} (tk : Takes Z W) : Takes Z (fun cls d σ' H' => σ'.length = Z.N.length → W cls d σ' H') := fun u s' ⟨a, B, sI, pz, σz, Hz, cls, d, e, I, nb, up, sky, na, os, ag, hw⟩ => tk u s' ⟨a, B, sI, pz, σz, Hz, cls, d, e, I, nb, up, sky, na, os, ag, hw I.len⟩
end
end KL
namespace SL
open PySem PySem.Spec PyProof.Rows L2 LamX
section
variable {X : Cx} {W : WX}
end
theorem takes_lam {X : Cx} {A : Around} {outer : List Env} {s : Shared} {H : Hp} {E : XK} {scope : Scope} {f c' : Addr} : Takes (lamCx X A outer s H E scope f c') (fun cls d _ H => E cls d H) := takes_of rfl rfl rfl rfl
section
variable {X : Cx} {W : WX}
theorem start1 {Ng : List Str} (h : 1 ≤ Ng.length) (f : Addr) : (L2.start Ng [V.ref f]).length = Ng.length := by
  unfold L2.start
  simp
  omega
end
end SL
namespace KL
open PySem PySem.Spec PyProof.Rows L2 LamX
section
variable {X : Cx} {pins : List (Addr × Obj)} {σ : L2.St} {H HZ H8 H9 : Hp} {s s1 s8 s9 : Shared}
def Kept (X : Cx) (s s1 : Shared) (H1 : Hp) : Prop := ∀ (y : Str) (c : Addr) (v : Option Value), X.env.cells.lookup y = some c → s.heap.IsCell c v → s1.heap.IsCell c v ∧ H1 c = none
theorem Kept.refl (I : Inv X pins σ H s) : Kept X s s H := fun y c v e h => ⟨h, I.freeC y c e⟩
theorem Kept.un {fs ex : List Addr} (k : Kept X s s8 H8) (u : Un fs ex H8 H9 s8.heap s9.heap) (hx : ∀ y c, X.env.cells.lookup y = some c → c ∉ ex) : Kept X s s9 H9 := fun y c v e h => by
  obtain ⟨⟨o, ho, hd⟩, h2⟩ := k y c v e h
  obtain ⟨sl, q⟩ := u.any ho h2 (hx y c e)
  exact ⟨⟨_, q, hd⟩, u.free c o ho h2 (hx y c e)⟩
structure LamOk (X : Cx) (k : Nat) (l : SL.LamT) (t : XK → TE) : Prop where
  q : l.q = X.env.qual ++ "<lambda>"
  L : LamS X.env.scope l.scope
  bind : ∀ (q : Str) (cl : List (Str × Addr)) (pm cv ctv : Value), bindArgs (PySem.W.kla_fn "<lambda>" q l.params l.body l.scope cl pm cv ctv) ⟨[], []⟩ = pure []
  body : ∀ (A : Around) (outer : List Env) (s : Shared) (H : Hp) (E : XK) (f c' : Addr), Room k (A.deeper (lamEnv X l.scope s.heap.objs.size f c')) → PE (lamCx X A outer s H E l.scope f c') l.body (t E)
end
section
variable {X : Cx} {pins : List (Addr × Obj)} {σ : L2.St} {H H9 : Hp} {s s9 : Shared}
end
end KL
namespace KL
open PySem PySem.Spec L2 LamX
open PyProof.Rows hiding St
section
variable {X : Cx}
end
end KL
namespace SL
open PySem PySem.Spec L2 LamX
open PyProof.Rows hiding St
section
variable {X : Cx} {W : WX}
end
end SL
namespace SL
open PySem PySem.Spec L2
open PyProof.Rows hiding St
section
variable {P : Program} {w : World} {K : PySem.W.Frag} {mg : Str → Option Value} {base : Heap} {k : Nat} {at_ : Str × Option Str} {fd : FuncData} {x qual s0 : Str} {params : Arguments} {body : List Stmt} {scope : Scope} {kws : List (Str × V)} {N : List Str} {m : MS}
theorem law_okT (F : FunD K x qual params body scope [] kws (He.fAd K at_) fd) (S : FnScope N [s0] scope) {st : Stmt} {rest : List Stmt} {n : Nat} {Ts : List (Addr × Str)} (hbody : body = st :: rest) (hN : N.length = n + 2)
    (hb1 : ∀ (cdv : Value) (A : Around) (outer : List Env) (s : Shared) (H : Hp) (E : XK), Room k (A.deeper (envOfC qual scope s.heap.objs.size (He.fAd K at_) cdv)) →
      PS (cxOf (L2.CX P w) P w K mg base N qual scope (He.fAd K at_) cdv A outer s H E) st (tAsg (tCallS (spStart K) E00 (tCons (tVar 0) L2.tNil)) (gName 1)))
    (hb : ∀ (cdv : Value) (A : Around) (outer : List Env) (s : Shared) (H : Hp) (E : XK), cdv = .ref (He.cT K at_).1 → Room k (A.deeper (envOfC qual scope s.heap.objs.size (He.fAd K at_) cdv)) →
      PSs (cxOf (L2.CX P w) P w K mg base N qual scope (He.fAd K at_) cdv A outer s H E) rest (tS (fun c dd _ H' => E c dd H') m)) : FnOk P w K mg base (L2.CX P w) (k + 1) (He.fAd K at_) fd [s0] (spLaw K Ts n m) := by
  subst hbody
  refine FunD.okT F S (fun vs H Q E h => ?_) (fun cdv A outer s H vs Q E hcd hr h => ⟨_, pss_cons (hb1 cdv A outer s H E hr) (hb cdv A outer s H E hcd hr), ?_⟩)
  · obtain ⟨a, ns, rfl, _⟩ := h
    rfl
  · obtain ⟨a, ns, rfl, hs, hl, ⟨S', hm⟩, hnd, hT, q⟩ := h
    have hst : L2.start N [V.ref a] = some (.ref a) :: List.replicate (n + 1) none := by
      unfold L2.start
      rw [hN]
      rfl
    rw [hst]
    refine ⟨_, rfl, a, ns, rfl, hs, hl, fun p H' nx keep st => ?_⟩
    have hpn : H p = none := nx.new p (by simp) (by simp)
    have isT : ∀ t ∈ Ts, ∃ ps, H t.1 = some (.tbl ps) := fun t ht => by
      obtain ⟨ps, h1, _⟩ := hT t ht
      exact ⟨ps, h1⟩
    refine ⟨none :: some (.loc 0) :: List.replicate n none, drawS ns 0 0 (seedOf ns) 0 :: tabsS Ts, p :: Ts.map (·.1), ⟨⟨?_, ?_, ?_⟩, ?_⟩, ?_⟩
    · simp [tabsS]
    · refine List.nodup_cons.mpr ⟨fun z => ?_, hnd⟩
      obtain ⟨t, ht, e⟩ := List.mem_map.mp z
      obtain ⟨ps, e2⟩ := isT t ht
      rw [e, hpn] at e2
      cases e2
    · intro i b c e1 e2
      cases i with
      | zero =>
        cases e1
        cases e2
        have hc := st.cells 0 p _ rfl rfl
        obtain ⟨vs, h1, h2⟩ := hc
        refine ⟨vs, h1, ?_⟩
        exact Reps.more (t := Ts.map (·.1)) (fun b hb => by
          obtain ⟨t, ht, rfl⟩ := List.mem_map.mp hb
          obtain ⟨ps, e⟩ := isT t ht
          exact ⟨ps, keep _ _ e⟩) _ _ h2
      | succ i =>
        simp only [List.getElem?_cons_succ, tabsS, List.getElem?_map] at e1 e2
        cases et : Ts[i]? with
        | none => rw [et] at e1; cases e1
        | some t =>
          rw [et] at e1 e2
          cases e1
          cases e2
          have ht : t ∈ Ts := List.mem_of_getElem? et
          obtain ⟨ps, h1, h2, h3⟩ := hT t ht
          refine ⟨rfl, ps, keep _ _ h1, h2, fun pos cv hc => ?_⟩
          obtain ⟨c, e1, e2⟩ := h3 pos cv hc
          refine ⟨c, e1, keep _ _ e2, fun z => ?_⟩
          rcases List.mem_cons.mp z with z | z
          · rw [z, hpn] at e2
            cases e2
          · obtain ⟨t', ht', e⟩ := List.mem_map.mp z
            obtain ⟨ps', e3⟩ := isT t' ht'
            rw [e, e2] at e3
            exact LamX.codeO_ne _ (Option.some.inj e3)
    · refine ⟨by simp [List.replicate_succ], ?_⟩
      intro i d e
      match i with
      | 0 => cases e
      | 1 =>
        cases e
        exact ⟨.ref p, by simp [List.replicate_succ], p, rfl, rfl⟩
      | i + 2 =>
        have e' : (List.replicate n (none : Option SL.D))[i]? = some (some d) := e
        rw [List.getElem?_replicate] at e'
        split at e' <;> cases e'
    · rw [hm]
      intro v H2 ρ2 n2 st2 r
      cases r
      exact q H2
end
end SL
namespace SL
open PySem PySem.Spec L2
end SL
namespace SL
open PySem PySem.Spec L2
open PyProof.Rows hiding St
section
variable {P : Program} {w : World} {K : PySem.W.Frag} {mg : Str → Option Value} {base : Heap} {k : Nat} {at_ : Str × Option Str} {fd : FuncData} {x qual s0 : Str} {params : Arguments} {body : List Stmt} {scope : Scope} {kws : List (Str × V)} {N : List Str} {mK : List (Str × Addr) → MS}
end
section
open LamX
variable {X : Cx} {W : WX}
def LsOk (X : Cx) (k : Nat) (Ls : List (LamT × ME)) : Prop := ∀ (j : Nat) (l : LamT) (me : ME), Ls[j]? = some (l, me) → KL.LamOk X k l fun E => tE (fun cls d _ H => E cls d H) me
theorem LsOk.nil {k : Nat} : LsOk X k [] := fun j l me h => by simp at h
theorem LsOk.cons {k : Nat} {l : LamT} {me : ME} {Ls : List (LamT × ME)} (h : KL.LamOk X k l fun E => tE (fun cls d _ H => E cls d H) me) (hs : LsOk X k Ls) : LsOk X k ((l, me) :: Ls) := fun j l' me' e => match j with
  | 0 => by cases e; exact h
  | j + 1 => hs j l' me' e
end
section
variable {δ : DEnv} {S : Store} {Q : D → Store → Prop} {X : Ex → Store → Prop} {mi : DEnv → Store → Res Src} {mo : ME}
end
section
variable {δ : DEnv} {S : Store} {Q : D → Store → Prop} {X : Ex → Store → Prop} {κ : List (Str × Addr)} {l0 l : LamT} {ls : List LamT} {P : Addr} {q : Str} {i v : Nat}
end
section
open LamX
variable {X : Cx} {W : WX}
end
end SL
namespace NC
open PySem PySem.Spec L2 SL
end NC
namespace SL
open PySem PySem.Spec L2
open PyProof.Rows hiding St
section
variable {X : Cx} {W : WX} {a b : Expr} {ma mb : ME} {pos : Pos} {k : Nat} {f C : Addr} {fd : FuncData} {ps : List Str} {φ : Fn}
end
end SL
namespace HO
open PySem PySem.Spec PyProof.Rows PySem.SeqAt
section
variable {prog : Program} {w : World} {A : Around} {E : Value → Shared → Prop} {s : Shared} {K : PySem.W.Frag} {x C f : Addr} {b : Value} {ox : Obj} {od : Option Obj}
end
end HO
namespace SL
open PySem PySem.Spec L2
open PyProof.Rows hiding St
section
variable {X : Cx} {W : WX} {a b : Expr} {ma mb : ME} {pos : Pos} {k : Nat} {f C : Addr} {fd : FuncData} {ps : List Str} {φ : Fn}
end
structure IsoF (K : PySem.W.Frag) (C : Addr) : Prop where
  cl : Cls K C
  ha : PySem.W.findIn K (.ref C) "__class__" = some (some (.builtin "object.__class__"))
  hn : PySem.W.specialIn K (.builtin "object.__class__") "__get__" = some (some (.builtin "getset_descriptor.__get__"))
  htk : PySem.W.takesIn K (.builtin "object.__class__") = some true
  hm : PySem.W.mroIn K C (.type "object") = some true
structure OeqF (K : PySem.W.Frag) (C f : Addr) : Prop where
  eq : PySem.W.findIn K (.ref C) "__eq__" = some (some (.ref f))
  fn : PySem.W.isFn K (.ref f) = true
  ne : PySem.W.findIn K (.ref C) "__ne__" = some (some (.builtin "object.__ne__"))
  ob : PySem.W.mroIn K C (.type "object") = some true
section
variable {X : Cx} {W : WX} {a b : Expr} {ma mb : ME} {pos : Pos} {k : Nat} {f C : Addr} {fd : FuncData} {ps : List Str} {φ : Fn}
end
end SL
namespace NC
open PySem PySem.Spec L2 SL
noncomputable def m_law_number (A : Ad) (φlaw_draw : Fn) (φlaw_of : Fn) : MS := (retM (appM 2 φlaw_of (consM (vM 0) (consM (callG lstG (consM (cM (.int 0)) (consM (cM (.int 1)) (consM (cM (.int 2)) (consM (cM (.int 3)) (consM (appM 2 φlaw_draw (consM (vM 0) (consM (cM (.int 40)) nilM)) []) (consM (op2M addG (op2M powG (cM (.int 10)) (cM (.int 9))) (appM 2 φlaw_draw (consM (vM 0) (consM (op2M powG (cM (.int 10)) (cM (.int 6))) nilM)) [])) (consM (op2M subG (op2M powG (cM (.int 10)) (cM (.int 30))) (appM 2 φlaw_draw (consM (vM 0) (consM (cM (.int 1000)) nilM)) [])) nilM)))))))) nilM)) []))
noncomputable def φlaw_number (A : Ad) : Fn := defM 1 (m_law_number A (φlaw_draw A) (φlaw_of A))
end NC
namespace SL
open PySem PySem.Spec L2
open PyProof.Rows hiding St
end SL
namespace NC
open PySem PySem.Spec L2 SL
end NC
namespace SL
open PySem PySem.Spec L2
open PyProof.Rows hiding St
section
variable {X : Cx} {W : WX} {e : Expr} {es : List Expr} {ms : MA} {x : Str} {p pos : Pos}
end
end SL
namespace NC
open PySem PySem.Spec L2 SL
end NC
namespace KL
open PySem PySem.Spec PySem.W PySem.Calls PyProof.Rows
section
variable {prog : Program} {w : World} {A : Around} {s : Shared}
end
end KL
namespace KL
open PySem PySem.Spec PyProof.Rows L2 LamX
section
variable {X : Cx} {pins : List (Addr × Obj)} {σ : L2.St} {H : Hp} {s : Shared}
end
end KL
namespace SL
open PySem PySem.Spec L2
section
variable {X : Cx} {W : WX} {H H' : Hp} {ρ : List Addr} {S : Store} {P : Addr} {q : Str}
end
end SL
namespace NC
open PySem PySem.Spec L2 SL
end NC
namespace SL
open PySem PySem.Spec L2
open PyProof.Rows hiding St
section
variable {X : Cx} {W : WX} {ma mb : ME} {a b : Expr}
def addLM (ma mb : ME) : ME := fun δ S => (ma δ S).bind fun x S1 => (mb δ S1).bind fun y S2 => match asL S2 x, asL S2 y with
  | some a, some b => if a.length + b.length ≤ 1000000 then .ok (.loc S2.length) (S2 ++ [.lst (a ++ b)]) else .stuck
  | _, _ => .stuck
theorem pd_addL (ha : PE X a (tE W ma)) (hb : PE X b (tE W mb)) : PE X (.BinOp a .Add b pos) (tE W (addLM ma mb)) :=
  PE.weak (pe_op op_cat ha hb) fun σ H Q h => by
    obtain ⟨δ, S, ρ, I, h⟩ := h
    refine bindG I h fun x v S1 H1 ρ1 n1 I1 r1 h1 => ?_
    refine bindG I1 h1 fun y u S2 H2 ρ2 n2 I2 r2 h2 => ?_
    have r1' := Rep.mono n2 _ _ r1
    split at h2
    · rename_i a b ea eb
      split at h2
      · rename_i hl
        obtain ⟨p, vs, rfl, e1, q1⟩ := asL_rep I2.st r1' ea
        obtain ⟨q, us, rfl, e2, q2⟩ := asL_rep I2.st r2 eb
        refine ⟨p, q, vs, us, rfl, rfl, e1, e2, by rw [← q1.len, ← q2.len]; exact sz6 hl, fun c hc => ?_⟩
        have nx := Nx.push (ρ := ρ2) (o := HO.lst (vs ++ us)) hc
        exact RunG.okN h2 nx (I2.st.push hc ⟨_, upd_same, Reps.mono nx _ _ (q1.append q2)⟩) ⟨c, by rw [← I2.st.len]; simp, rfl⟩
      · exact h2.elim
    · exact h2.elim
theorem wp_addL {δ : DEnv} {S : Store} {Q : D → Store → Prop} {Y : Ex → Store → Prop} (h : wp (ma δ S) (fun x S1 => wp (mb δ S1) (fun y S2 => ∃ a b, asL S2 x = some a ∧ asL S2 y = some b ∧ a.length + b.length ≤ 1000000 ∧ Q (.loc S2.length) (S2 ++ [.lst (a ++ b)])) Y) Y) : wp (addLM ma mb δ S) Q Y := by
  refine wp_bind (wp_q h fun x S1 h => wp_bind (wp_q h fun y S2 h => ?_))
  obtain ⟨a, b, e1, e2, hl, h⟩ := h
  simp only [e1, e2]
  rw [if_pos hl]
  exact h
end
end SL
namespace NC
open PySem PySem.Spec L2 SL
noncomputable def m_law_names (A : Ad) (φlaw_letters : Fn) (φlaw_draw : Fn) : MS := (seqM (asgM 2 (op2M mulG (op2M ixG (appM 0 φlaw_letters nilM []) (appM 2 φlaw_draw (consM (vM 0) (consM (cM (.int 26)) nilM)) [])) (appM 2 φlaw_draw (consM (vM 0) (consM (cM (.int 7)) nilM)) [])))
  (seqM (asgM 3 (appM 2 φlaw_draw (consM (vM 0) (consM (op2M addG (callG lenG (consM (vM 2) nilM)) (cM (.int 1))) nilM)) []))
  (seqM (asgM 4 (appM 2 φlaw_draw (consM (vM 0) (consM (cM (.int 26)) nilM)) []))
  (retM (compM (src1 (vM 1)) (.nm 5) yesB (op2M addG (op2M addG (slM (vM 2) noO (soO (vM 3))) (op2M ixG (appM 0 φlaw_letters nilM []) (op2M modG (op2M addG (vM 4) (op2M mulG (cM (.int 7)) (vM 5))) (cM (.int 26))))) (slM (vM 2) (soO (vM 3)) noO)) [5])))))
noncomputable def φlaw_names (A : Ad) : Fn := defM 6 (m_law_names A (φlaw_letters A) (φlaw_draw A))
noncomputable def m_law_flat_tree (A : Ad)  : MS := (retM (callG tupG (consM (cM (.str [115, 116, 101, 112, 115])) (consM (callG tupleG (consM (vM 0) nilM)) nilM))))
noncomputable def φlaw_flat_tree (A : Ad) : Fn := defM 1 (m_law_flat_tree A )
noncomputable def m_law_tower (A : Ad) (φlaw_draw : Fn) (φlaw_of : Fn) (φlaw_flat_tree : Fn) (φlaw_number : Fn) : MS := (seqM (asgM 3 (lstLM nilM))
  (seqM (forM (src1 (appM 2 φlaw_draw (consM (vM 0) (consM (cM (.int 4)) nilM)) [])) (.nm 4) (seqM (asgM 5 (appM 2 φlaw_draw (consM (vM 0) (consM (cM (.int 4)) nilM)) []))
  (ifSM (orB (cmpB eqG (vM 5) (cM (.int 0))) (cmpB eqG (vM 2) (cM (.int 0)))) (exprM (lmM appendG (vM 3) (consM (callG tupG (consM (cM (.str [99, 97, 108, 108])) (consM (appM 2 φlaw_of (consM (vM 0) (consM (callG lstG (consM (cM (.str [])) (consM (cM (.str [97])) nilM))) nilM)) []) nilM))) nilM))) (ifSM (cmpB eqG (vM 5) (cM (.int 1))) (exprM (lmM appendG (vM 3) (consM (callG tupG (consM (cM (.str [116, 105, 109, 101, 115])) (consM (appM 1 φlaw_number (consM (vM 0) nilM) []) (consM (appM 1 φlaw_flat_tree (consM (callG lstG (consM (callG tupG (consM (cM (.str [114, 111, 119])) (consM (op2M ixG (vM 1) (op2M subG (vM 2) (cM (.int 1)))) nilM))) (consM (callG tupG (consM (cM (.str [116, 117, 114, 110])) (consM (cM (.str [97])) nilM))) nilM))) nilM) []) nilM)))) nilM))) (exprM (lmM appendG (vM 3) (consM (callG tupG (consM (cM (.str [114, 111, 119])) (consM (appM 2 φlaw_of (consM (vM 0) (consM (slM (vM 1) noO (soO (vM 2))) nilM)) []) nilM))) nilM)))))))
  (seqM (ifSM (andB (cmpB gtG (vM 2) (cM (.int 0))) (cmpB eqG (appM 2 φlaw_draw (consM (vM 0) (consM (cM (.int 3)) nilM)) []) (cM (.int 0)))) (seqM (asgM 6 (appM 1 φlaw_flat_tree (consM (op2M mulG (callG lstG (consM (callG tupG (consM (cM (.str [99, 97, 108, 108])) (consM (cM (.str [])) nilM))) nilM)) (appM 2 φlaw_draw (consM (vM 0) (consM (cM (.int 3)) nilM)) [])) nilM) []))
  (seqM (forM (src1 (op2M addG (cM (.int 1)) (appM 2 φlaw_draw (consM (vM 0) (consM (cM (.int 3)) nilM)) []))) (.nm 4) (asgM 6 (appM 1 φlaw_flat_tree (consM (callG lstG (consM (callG tupG (consM (cM (.str [116, 105, 109, 101, 115])) (consM (appM 2 φlaw_of (consM (vM 0) (consM (callG lstG (consM (op2M powG (cM (.int 10)) (cM (.int 30))) (consM (op2M powG (cM (.int 10)) (cM (.int 20))) (consM (cM (.int 3)) nilM)))) nilM)) []) (consM (vM 6) nilM)))) nilM)) nilM) [])))
  (asgM 3 (op2M addG (vM 3) (callG list3G (consM (op2M ixG (vM 6) (cM (.int 1))) nilM)))))) nxM)
  (retM (appM 1 φlaw_flat_tree (consM (vM 3) nilM) [])))))
noncomputable def φlaw_tower (A : Ad) : Fn := defM 7 (m_law_tower A (φlaw_draw A) (φlaw_of A) (φlaw_flat_tree A) (φlaw_number A))
noncomputable def m_law_count (A : Ad) (φlaw_count : Fn) : MS := (seqM (asgM 3 (cM (.int 0)))
  (seqM (forM (srcV (op2M ixG (vM 2) (cM (.int 1)))) (.nm 4) (seqM (asgM 5 (cM (.int 1)))
  (seqM (ifSM (cmpB eqG (op2M ixG (vM 4) (cM (.int 0))) (cM (.str [114, 111, 119]))) (seqM (ifSM (cmpB ninG (op2M ixG (vM 4) (cM (.int 1))) (vM 1)) (setXM (vM 1) (op2M ixG (vM 4) (cM (.int 1))) (appM 3 φlaw_count (consM (vM 0) (consM (vM 1) (consM (op2M ixG (vM 0) (op2M ixG (vM 4) (cM (.int 1)))) nilM))) [])) nxM)
  (asgM 5 (op2M ixG (vM 1) (op2M ixG (vM 4) (cM (.int 1)))))) nxM)
  (seqM (ifSM (cmpB eqG (op2M ixG (vM 4) (cM (.int 0))) (cM (.str [116, 105, 109, 101, 115]))) (seqM (asgM 5 (appM 3 φlaw_count (consM (vM 0) (consM (vM 1) (consM (op2M ixG (vM 4) (cM (.int 2))) nilM))) []))
  (asgM 5 (ifM (cmpB isG (vM 5) (cM .non)) (cM .non) (op2M mulG (vM 5) (op2M ixG (vM 4) (cM (.int 1))))))) nxM)
  (seqM (ifSM (orB (cmpB isG (vM 5) (cM .non)) (cmpB gtG (op2M addG (vM 3) (vM 5)) (op2M powG (cM (.int 10)) (cM (.int 60))))) (retM (cM .non)) nxM)
  (asgM 3 (op2M addG (vM 3) (vM 5))))))))
  (retM (vM 3))))
noncomputable def grp_law_count (A : Ad) : Nat → Fn
  | 0 => (stuckF)
  | n + 1 => (defM 6 (m_law_count A ((grp_law_count A n))))
noncomputable def φn_law_count (A : Ad) (n : Nat) : Fn := (grp_law_count A n)
noncomputable def φlaw_count (A : Ad) : Fn := φn_law_count A 30
noncomputable def m_are_letters (A : Ad)  : MS := (retM (andM (callG isiA (consM (vM 0) (consM (cM (.raw (.ty "str"))) nilM))) (andM (chM leG leG (vM 1) (callG lenG (consM (vM 0) nilM)) (cM (.int 12))) (callG allG (consM (compM (srcV (vM 0)) (.nm 2) yesB (op2M inG (vM 2) (cM (.str s_LETTERS))) [2]) nilM)))))
noncomputable def φare_letters (A : Ad) : Fn := defM 3 (m_are_letters A )
noncomputable def m_is_name (A : Ad)  : MS := (retM (andM (chM leG leG (cM (.int 1)) (callG lenG (consM (vM 0) nilM)) (cM (.int 8))) (callG allG (consM (compM (srcV (vM 0)) (.nm 1) yesB (op2M inG (vM 1) (cM (.str s_SMALL))) [1]) nilM))))
noncomputable def φis_name (A : Ad) : Fn := defM 2 (m_is_name A )
noncomputable def m_is_times (A : Ad)  : MS := (retM (andM (callG isiA (consM (vM 0) (consM (cM (.raw (.ty "int"))) nilM))) (andM (notM (callG isiA (consM (vM 0) (consM (cM (.raw (.ty "bool"))) nilM)))) (chM leG leG (cM (.int 0)) (vM 0) (cM (.int 1000000000000000000000000000000))))))
noncomputable def φis_times (A : Ad) : Fn := defM 1 (m_is_times A )
noncomputable def m_is_built (A : Ad) (φis_step : Fn) : MS := (seqM (ifSM (orB (notB (trM (callG isiA (consM (vM 0) (consM (cM (.raw (.ty "tuple"))) nilM))))) (orB (cmpB neG (callG lenG (consM (vM 0) nilM)) (cM (.int 2))) (orB (cmpB neG (op2M ixG (vM 0) (cM (.int 0))) (cM (.str [115, 116, 101, 112, 115]))) (notB (trM (callG isiA (consM (op2M ixG (vM 0) (cM (.int 1))) (consM (cM (.raw (.ty "tuple"))) nilM)))))))) (retM (cM (.bl false))) nxM)
  (retM (callG allG (consM (compM (srcV (op2M ixG (vM 0) (cM (.int 1)))) (.nm 1) yesB (appM 1 φis_step (consM (vM 1) nilM) []) [1]) nilM))))
noncomputable def m_is_step (A : Ad) (φare_letters : Fn) (φis_name : Fn) (φis_times : Fn) (φis_built : Fn) : MS := (seqM (ifSM (orB (notB (trM (callG isiA (consM (vM 0) (consM (cM (.raw (.ty "tuple"))) nilM))))) (orB (cmpB ltG (callG lenG (consM (vM 0) nilM)) (cM (.int 2))) (notB (trM (callG isiA (consM (op2M ixG (vM 0) (cM (.int 0))) (consM (cM (.raw (.ty "str"))) nilM))))))) (retM (cM (.bl false))) nxM)
  (seqM (ifSM (cmpB eqG (op2M ixG (vM 0) (cM (.int 0))) (cM (.str [99, 97, 108, 108]))) (retM (andM (op2M eqG (callG lenG (consM (vM 0) nilM)) (cM (.int 2))) (appM 2 φare_letters (consM (op2M ixG (vM 0) (cM (.int 1))) (consM (cM (.int 0)) nilM)) []))) nxM)
  (seqM (ifSM (cmpB eqG (op2M ixG (vM 0) (cM (.int 0))) (cM (.str [116, 117, 114, 110]))) (retM (andM (op2M eqG (callG lenG (consM (vM 0) nilM)) (cM (.int 2))) (appM 2 φare_letters (consM (op2M ixG (vM 0) (cM (.int 1))) (consM (cM (.int 1)) nilM)) []))) nxM)
  (seqM (ifSM (cmpB eqG (op2M ixG (vM 0) (cM (.int 0))) (cM (.str [114, 111, 119]))) (retM (andM (op2M eqG (callG lenG (consM (vM 0) nilM)) (cM (.int 2))) (andM (callG isiA (consM (op2M ixG (vM 0) (cM (.int 1))) (consM (cM (.raw (.ty "str"))) nilM))) (appM 1 φis_name (consM (op2M ixG (vM 0) (cM (.int 1))) nilM) [])))) nxM)
  (retM (andM (op2M eqG (op2M ixG (vM 0) (cM (.int 0))) (cM (.str [116, 105, 109, 101, 115]))) (andM (op2M eqG (callG lenG (consM (vM 0) nilM)) (cM (.int 3))) (andM (appM 1 φis_times (consM (op2M ixG (vM 0) (cM (.int 1))) nilM) []) (appM 1 φis_built (consM (op2M ixG (vM 0) (cM (.int 2))) nilM) [])))))))))
noncomputable def grp_is_built_is_step (A : Ad) : Nat → Fn × Fn
  | 0 => (stuckF, stuckF)
  | n + 1 => (defM 2 (m_is_built A ((grp_is_built_is_step A n).2)),
    defM 1 (m_is_step A (φare_letters A) (φis_name A) (φis_times A) ((grp_is_built_is_step A n).1)))
noncomputable def φn_is_built (A : Ad) (n : Nat) : Fn := (grp_is_built_is_step A n).1
noncomputable def φis_built (A : Ad) : Fn := φn_is_built A 40
noncomputable def φn_is_step (A : Ad) (n : Nat) : Fn := (grp_is_built_is_step A n).2
noncomputable def φis_step (A : Ad) : Fn := φn_is_step A 40
noncomputable def m_many_steps (A : Ad) (φmany_steps : Fn) : MS := (seqM (asgM 1 (compM (srcV (op2M ixG (vM 0) (cM (.int 1)))) (.nm 2) (cmpB eqG (op2M ixG (vM 2) (cM (.int 0))) (cM (.str [116, 105, 109, 101, 115]))) (appM 1 φmany_steps (consM (op2M ixG (vM 2) (cM (.int 2))) nilM) []) [2]))
  (retM (op2M addG (callG lenG (consM (op2M ixG (vM 0) (cM (.int 1))) nilM)) (callG sumG (consM (vM 1) nilM)))))
noncomputable def grp_many_steps (A : Ad) : Nat → Fn
  | 0 => (stuckF)
  | n + 1 => (defM 3 (m_many_steps A ((grp_many_steps A n))))
noncomputable def φn_many_steps (A : Ad) (n : Nat) : Fn := (grp_many_steps A n)
noncomputable def φmany_steps (A : Ad) : Fn := φn_many_steps A 40
noncomputable def m_deep_of (A : Ad) (φdeep_of : Fn) : MS := (retM (callKG maxDfG (consM (compM (srcV (op2M ixG (vM 0) (cM (.int 1)))) (.nm 1) (cmpB eqG (op2M ixG (vM 1) (cM (.int 0))) (cM (.str [116, 105, 109, 101, 115]))) (op2M addG (cM (.int 1)) (appM 1 φdeep_of (consM (op2M ixG (vM 1) (cM (.int 2))) nilM) [])) [1]) nilM) (consM (cM (.int 0)) nilM)))
noncomputable def grp_deep_of (A : Ad) : Nat → Fn
  | 0 => (stuckF)
  | n + 1 => (defM 2 (m_deep_of A ((grp_deep_of A n))))
noncomputable def φn_deep_of (A : Ad) (n : Nat) : Fn := (grp_deep_of A n)
noncomputable def φdeep_of (A : Ad) : Fn := φn_deep_of A 40
noncomputable def m_is_row (A : Ad) (φis_built : Fn) (φmany_steps : Fn) (φdeep_of : Fn) : MS := (retM (andM (appM 1 φis_built (consM (vM 0) nilM) []) (andM (op2M leG (appM 1 φmany_steps (consM (vM 0) nilM) []) (cM (.int 60))) (op2M leG (appM 1 φdeep_of (consM (vM 0) nilM) []) (cM (.int 12))))))
noncomputable def φis_row (A : Ad) : Fn := defM 1 (m_is_row A (φis_built A) (φmany_steps A) (φdeep_of A))
noncomputable def m_look_row (A : Ad) (φis_row : Fn) : MS := (ifSM (notB (trM (appM 1 φis_row (consM (vM 0) nilM) []))) (raiseM (mkxM A.BadTree 0 ["word"] gx_BadTree nilM)) nxM)
noncomputable def φlook_row (A : Ad) : Fn := defM 1 (m_look_row A (φis_row A))
noncomputable def m_Counter_init (A : Ad)  : MS := (seqM (setfM A.Counter "book" (vM 0) (vM 1))
  (seqM (setfM A.Counter "known" (vM 0) dnewM)
  (setfM A.Counter "open_names" (vM 0) (lstLM nilM))))
noncomputable def φCounter_init (A : Ad) : Fn := defK 2 (m_Counter_init A )
noncomputable def m_row_of (A : Ad)  : MS := (seqM (ifSM (cmpB ninG (vM 1) (vM 0)) (raiseM (mkxM A.NoRow 1 ["name", "word"] gx_NoRow (consM (vM 1) nilM))) nxM)
  (retM (op2M ixG (vM 0) (vM 1))))
noncomputable def φrow_of (A : Ad) : Fn := defM 2 (m_row_of A )
noncomputable def m_Counter_of_name (A : Ad) (φrow_of : Fn) (φCounter_of_row : Fn) : MS := (seqM (ifSM (cmpB inG (vM 1) (fldM A.Counter "known" (vM 0))) (retM (op2M ixG (fldM A.Counter "known" (vM 0)) (vM 1))) nxM)
  (seqM (asgM 2 (appM 2 φrow_of (consM (fldM A.Counter "book" (vM 0)) (consM (vM 1) nilM)) []))
  (seqM (ifSM (cmpB inG (vM 1) (fldM A.Counter "open_names" (vM 0))) (raiseM (mkxM A.Ring 1 ["name", "word"] gx_Ring (consM (vM 1) nilM))) nxM)
  (seqM (exprM (lmM appendG (fldM A.Counter "open_names" (vM 0)) (consM (vM 1) nilM)))
  (seqM (setXM (fldM A.Counter "known" (vM 0)) (vM 1) (methM A.Counter "of_row" 2 φCounter_of_row (vM 0) (consM (vM 2) nilM) []))
  (seqM (exprM (lmM popG (fldM A.Counter "open_names" (vM 0)) nilM))
  (retM (op2M ixG (fldM A.Counter "known" (vM 0)) (vM 1)))))))))
noncomputable def m_Counter_of_row (A : Ad) (φCounter_of_step : Fn) : MS := (seqM (asgM 2 (cM (.int 0)))
  (seqM (forM (srcV (op2M ixG (vM 1) (cM (.int 1)))) (.nm 3) (seqM (augM 2 addI (methM A.Counter "of_step" 2 φCounter_of_step (vM 0) (consM (vM 3) nilM) []))
  (ifSM (cmpB gtG (vM 2) (cM (.int 1000000000000000000000000000000000000000000000000000000000000))) (raiseM (mkxM A.TooMany 1 ["most", "word"] gx_TooMany (consM (cM (.int 1000000000000000000000000000000000000000000000000000000000000)) nilM))) nxM)))
  (retM (vM 2))))
noncomputable def m_Counter_of_step (A : Ad) (φCounter_of_name : Fn) (φCounter_of_row : Fn) : MS := (seqM (ifSM (cmpB eqG (op2M ixG (vM 1) (cM (.int 0))) (cM (.str [114, 111, 119]))) (retM (methM A.Counter "of_name" 2 φCounter_of_name (vM 0) (consM (op2M ixG (vM 1) (cM (.int 1))) nilM) [])) nxM)
  (retM (ifM (cmpB eqG (op2M ixG (vM 1) (cM (.int 0))) (cM (.str [116, 105, 109, 101, 115]))) (op2M mulG (op2M ixG (vM 1) (cM (.int 1))) (methM A.Counter "of_row" 2 φCounter_of_row (vM 0) (consM (op2M ixG (vM 1) (cM (.int 2))) nilM) [])) (cM (.int 1)))))
noncomputable def grp_Counter_of_name_Counter_of_row_Counter_of_step (A : Ad) : Nat → Fn × Fn × Fn
  | 0 => (stuckF, stuckF, stuckF)
  | n + 1 => (defM 3 (m_Counter_of_name A (φrow_of A) ((grp_Counter_of_name_Counter_of_row_Counter_of_step A n).2.1)),
    defM 4 (m_Counter_of_row A ((grp_Counter_of_name_Counter_of_row_Counter_of_step A n).2.2)),
    defM 2 (m_Counter_of_step A ((grp_Counter_of_name_Counter_of_row_Counter_of_step A n).1) ((grp_Counter_of_name_Counter_of_row_Counter_of_step A n).2.1)))
noncomputable def φn_Counter_of_name (A : Ad) (n : Nat) : Fn := (grp_Counter_of_name_Counter_of_row_Counter_of_step A n).1
noncomputable def φCounter_of_name (A : Ad) : Fn := φn_Counter_of_name A 40
noncomputable def φn_Counter_of_row (A : Ad) (n : Nat) : Fn := (grp_Counter_of_name_Counter_of_row_Counter_of_step A n).2.1
noncomputable def φCounter_of_row (A : Ad) : Fn := φn_Counter_of_row A 40
noncomputable def φn_Counter_of_step (A : Ad) (n : Nat) : Fn := (grp_Counter_of_name_Counter_of_row_Counter_of_step A n).2.2
noncomputable def φCounter_of_step (A : Ad) : Fn := φn_Counter_of_step A 40
noncomputable def m_many_done (A : Ad) (φlook_row : Fn) (φCounter_init : Fn) (φCounter_of_row : Fn) : MS := (seqM (exprM (appM 1 φlook_row (consM (vM 0) nilM) []))
  (retM (methM A.Counter "of_row" 2 φCounter_of_row (makeM A.Counter 2 φCounter_init (consM (ifM (cmpB isG (vM 1) (cM .non)) (freezeM dnewM) (vM 1)) nilM) []) (consM (vM 0) nilM) [])))
noncomputable def φmany_done (A : Ad) : Fn := defM 2 (m_many_done A (φlook_row A) (φCounter_init A) (φCounter_of_row A))
noncomputable def m_Counter_set_out (A : Ad) (φCounter_of_step : Fn) (φCounter_set_out : Fn) : MS := (seqM (asgM 2 (lstLM nilM))
  (seqM (forM (srcV (op2M ixG (vM 1) (cM (.int 1)))) (.nm 3) (seqM (ifSM (cmpB eqG (methM A.Counter "of_step" 2 φCounter_of_step (vM 0) (consM (vM 3) nilM) []) (cM (.int 0))) ctM nxM)
  (ifSM (cmpB eqG (op2M ixG (vM 3) (cM (.int 0))) (cM (.str [114, 111, 119]))) (asgM 2 (addLM (vM 2) (methM A.Counter "set_out" 2 φCounter_set_out (vM 0) (consM (op2M ixG (fldM A.Counter "book" (vM 0)) (op2M ixG (vM 3) (cM (.int 1)))) nilM) []))) (ifSM (cmpB eqG (op2M ixG (vM 3) (cM (.int 0))) (cM (.str [116, 105, 109, 101, 115]))) (asgM 2 (addLM (vM 2) (op2M mulG (methM A.Counter "set_out" 2 φCounter_set_out (vM 0) (consM (op2M ixG (vM 3) (cM (.int 2))) nilM) []) (op2M ixG (vM 3) (cM (.int 1)))))) (exprM (lmM appendG (vM 2) (consM (vM 3) nilM)))))))
  (retM (vM 2))))
noncomputable def grp_Counter_set_out (A : Ad) : Nat → Fn
  | 0 => (stuckF)
  | n + 1 => (defO 4 (m_Counter_set_out A (φCounter_of_step A) ((grp_Counter_set_out A n))))
noncomputable def φn_Counter_set_out (A : Ad) (n : Nat) : Fn := (grp_Counter_set_out A n)
noncomputable def φCounter_set_out (A : Ad) : Fn := φn_Counter_set_out A 40
noncomputable def m_spelled (A : Ad) (φlook_row : Fn) (φCounter_init : Fn) (φCounter_of_row : Fn) (φCounter_set_out : Fn) : MS := (seqM (exprM (appM 1 φlook_row (consM (vM 0) nilM) []))
  (seqM (asgM 3 (makeM A.Counter 2 φCounter_init (consM (ifM (cmpB isG (vM 1) (cM .non)) (freezeM dnewM) (vM 1)) nilM) []))
  (seqM (ifSM (cmpB gtG (methM A.Counter "of_row" 2 φCounter_of_row (vM 3) (consM (vM 0) nilM) []) (vM 2)) (raiseM (mkxM A.TooMany 1 ["most", "word"] gx_TooMany (consM (vM 2) nilM))) nxM)
  (retM (methM A.Counter "set_out" 2 φCounter_set_out (vM 3) (consM (vM 0) nilM) [])))))
noncomputable def φspelled (A : Ad) : Fn := defO 4 (m_spelled A (φlook_row A) (φCounter_init A) (φCounter_of_row A) (φCounter_set_out A))
end NC
namespace KL
open PySem PySem.Spec PyProof.Rows L2 LamX
section
variable {X : Cx}
def TTmost (ct : Addr → Option Bool) (z w : Str) : (XK → Hp → VK → Prop) → Hp → VK → Prop := fun tl H Q => ∀ Q' : VK, (∀ v H', Q v H' → Q' v H') →
  tl (fun cls d H' => ∃ C dd fs v, cls = .ref C ∧ ct C = some true ∧ d = some dd ∧ H' dd = some (.xd fs) ∧ fs.lookup w = some v ∧ ∀ p, H' p = none → Q (.ref p) (upd H' p (.tup [.str z, v]))) H Q'
theorem most_gives {Ng : List Str} {x a e y w z q : Str} {sg : Scope} {g : Addr} {cdg : Value} {te : Expr} {any : Value → Option Bool} {ct : Addr → Option Bool} {i j k3 k4 : Nat} {p1 p2 p3 p6 p7 p8 p9 pa pb pc pd pe pf ph : Pos}
    (hN : Ng.Nodup) (hi : Ng[i]? = some e) (hj : Ng[j]? = some y) (hij : i ≠ j) (hle : sg.names.lookup e = some .local) (hly : sg.names.lookup y = some .local)
    (test : ∀ s H, SL.TestAs (cxOf C8.CX0 X.prog X.w X.K X.mg X.base Ng x sg g cdg X.A X.stack s H C8.E0).nox te any) (hct : ∀ C, ct C = some true → any (.ref C) = some true) (hT : ∀ C, ct C = some true → XfC X.K C ∧ PySem.W.findIn X.K (.ref C) w = some none)
    (h0 : ∀ f : Addr, (L2.start Ng [V.ref f])[0]? = some (some (V.ref f))) (Sn : ∀ f : Addr, (L2.start Ng [V.ref f]).length = Ng.length)
    (de : (e == ("__debug__" : Str)) = false := by decide) (ce : (e == ("__classdict__" : Str)) = false := by decide) (dy : (y == ("__debug__" : Str)) = false := by decide) (cy : (y == ("__classdict__" : Str)) = false := by decide) :
    GivesTo X Ng x sg g cdg [.Try [.Assign [.Name y p1] (.Call (.Name a p2) [] [] p3) p6] [.ExceptHandler (some te) (some e) [.Assign [.Name y p7] (.Tuple [.Constant (.str z) k3 p8, .Attribute (.Name e p9) w pa] k4 pb) pc] pd] [] [] pe, .Return (some (.Name y pf)) ph] a q (TTmost ct z w) := by
  intro f c' s H Q tl act hc h
  refine ⟨_, pss_cons (SL.ps_asT (X := (cxOf C8.CX0 X.prog X.w X.K X.mg X.base Ng x sg g cdg X.A X.stack s H C8.E0).nox) (i := i)
    (tb := fun W D σ HZ => ∃ Ech : XK, (∀ cls d σ' H', Ech cls d H' → σ'.length = Ng.length → W cls d σ' H') ∧ σ[0]? = some (some (.ref f)) ∧ HZ c' = some (CodeO c' q) ∧ tl Ech HZ (fun v H1 => D.nx (σ.set j (some v)) H1))
    (ts := fun b cls d D σ HZ => ∃ C dd fs v, cls = .ref C ∧ ct C = some true ∧ d = some dd ∧ HZ dd = some (.xd fs) ∧ fs.lookup w = some v ∧ σ[i]? = some (some (.ref b)) ∧ ∀ p, HZ p = none → D.nx (σ.set j (some (.ref p))) (upd HZ p (.tup [.str z, v])))
    (Wout := fun _ _ _ _ => False) (test s H) rfl rfl hN hi hle LamX.takes0 (fun W pn xe tk _ => ⟨fun pins s' σ H' D I h' => ?_⟩) (fun b oe cls d pn hz hf => ⟨fun pins s' σ H' D I h' => ?_⟩)) (pss_one (ps_ret (pe_var (i := j) hj (.inl hly) dy cy))), ?_⟩
  · obtain ⟨Ech, hW, h1, h2, h3⟩ := h'
    have hp := act _ pn xe Ech p2 p3 (takes_len tk) (fun cls d σ' H' zz l => hW cls d σ' H' zz l)
    exact (pss_one (ps_set (pos := p6) (pos' := p1) hN hj (.inl hly) hp rfl (.inr hly))).run pins s' σ H' D I ⟨h1, h2, h3⟩
  · obtain ⟨C, dd, fs, v, rfl, hC, rfl, hd, hl, hs, hk⟩ := h'
    obtain ⟨T, hno⟩ := hT C hC
    have pv : PE (((cxOf C8.CX0 X.prog X.w X.K X.mg X.base Ng x sg g cdg X.A X.stack s H C8.E0).nox).suite b ((b, oe) :: pn)) (.Name e p9) (tVar i) := pe_var (i := i) hi (.inl hle) de ce
    have px := pe_xf (X := (cxOf C8.CX0 X.prog X.w X.K X.mg X.base Ng x sg g cdg X.A X.stack s H C8.E0).nox) (pos := pa) T hno hz hf pv
    have pst := ps_set (X := ((cxOf C8.CX0 X.prog X.w X.K X.mg X.base Ng x sg g cdg X.A X.stack s H C8.E0).nox).suite b ((b, oe) :: pn)) (i := j) (x := y) (pos := pc) (pos' := p7) hN hj (.inl hly) (pe_tup (x1 := k4) (pos := pb) (pa_cons (pe_str (x := z) (j := k3) (pos := p8)) (pa_cons px pa_nil))) rfl (.inr hly)
    exact (pss_one pst).run pins s' σ H' D I
      ⟨_, hs, rfl, rfl, dd, fs, v, rfl, hd, hl, by show 2 ≤ sizeLine; rw [sizeLine_eq]; omega, hk⟩
  · have li : i < Ng.length := (List.getElem?_eq_some_iff.mp hi).1
    have lj : j < Ng.length := (List.getElem?_eq_some_iff.mp hj).1
    refine ⟨_, fun cls d σ' H' zz l => ?_, h0 f, hc, h _ fun v H' hv => ⟨v, ?_, hv⟩⟩
    · obtain ⟨C, dd, fs, v, rfl, hC, rfl, hd, hl, hk⟩ := zz
      refine ⟨true, hct C hC, fun _ b hb => ⟨C, dd, fs, v, rfl, hC, rfl, hd, hl, ?_, fun p hp => ⟨.ref p, ?_, hk p hp⟩⟩, fun zz => nomatch zz⟩
      · rw [List.getElem?_set_self (by omega)]
      · show (((σ'.set i (some (.ref b))).set j (some (.ref p))).set i none)[j]? = _
        rw [List.getElem?_set_ne hij, List.getElem?_set_self (by rw [List.length_set]; omega)]
    · show ((L2.start Ng [V.ref f]).set j (some v))[j]? = _
      rw [List.getElem?_set_self (by have := Sn f; omega)]
end
end KL
namespace SL
open PySem PySem.Spec PyProof.Rows L2 LamX
section
variable {X : Cx} {W : WX}
open Classical in
/-- x(lambda: ..), x: try it; (z, a field of the exception) else -/
noncomputable def mostM (P : Addr) (q : Str) (ct : Addr → Option Bool) (z : List Nat) (w : Str) (me : ME) : ME := fun δ S => if (∃ j : Nat, S[j]? = some (.tab P q)) then (match me δ S with
  | .ok d S1 => .ok d S1
  | .exc x S1 => match ct x.C with
    | some true => match lookS x.ns x.ds w with
      | some d => .ok (.tup [.str z, d]) S1
      | none => .stuck
    | _ => .stuck
  | .stuck => .stuck) else .stuck
theorem most_sem {P : Addr} {q w : Str} {z : List Nat} {ct : Addr → Option Bool} {me : ME} {σ : L2.St} {H : Hp} {Q : VK} (h : tE W (mostM P q ct z w me) σ H Q) : KL.tLamG P q (KL.TTmost ct ⟨z.toArray⟩ w) (fun E => tE (fun cls d _ H => E cls d H) me) σ H Q := by
  obtain ⟨δ, S, ρ, I, h⟩ := h
  unfold mostM at h
  split at h
  · rename_i hj
    obtain ⟨j, hj⟩ := hj
    refine ⟨tab_of I.st hj, fun H1 gr Q' good => ?_⟩
    obtain ⟨st1, nx1⟩ := I.st.grown hj gr
    refine ⟨δ, S, ρ, I.next nx1 st1, ?_⟩
    cases em : me δ S with
    | ok d S1 =>
      rw [em] at h
      intro b H2 ρ2 n2 st2 r2
      exact good b H2 (RunG.okN h (nx1.trans n2) st2 r2)
    | exc x S1 =>
      rw [em] at h
      intro c dd H2 ρ2 n2 st2 r2
      obtain ⟨rfl, d, vs, rfl, hd, nd, hl, rv⟩ := r2
      simp only at h
      split at h
      · rename_i hc
        split at h
        · rename_i dv ed
          obtain ⟨u, eu, ru⟩ := lookS_rep rv ed
          refine ⟨x.C, d, _, u, rfl, hc, rfl, hd, by rw [lookup_zip]; exact eu, fun p hp => ?_⟩
          have na : Nx H2 ρ2 (upd H2 p (.tup [.str ⟨z.toArray⟩, u])) ρ2 := Nx.alloc hp
          exact RunG.okN h (nx1.trans (n2.trans na)) (st2.alloc hp) ⟨p, [.str ⟨z.toArray⟩, u], rfl, .inl upd_same, fun zz => st2.trk zz hp, Reps.cons rfl (Reps.one (Rep.mono na _ _ ru))⟩
        · exact False.elim h
      · exact False.elim h
    | stuck =>
      rw [em] at h
      exact False.elim h
  · exact False.elim h
abbrev bgM (a e y w z : Str) (te : Expr) (k3 k4 : Nat) (p1 p2 p3 p6 p7 p8 p9 pa pb pc pd pe pf ph : Pos) : List Stmt := [.Try [.Assign [.Name y p1] (.Call (.Name a p2) [] [] p3) p6] [.ExceptHandler (some te) (some e) [.Assign [.Name y p7] (.Tuple [.Constant (.str z) k3 p8, .Attribute (.Name e p9) w pa] k4 pb) pc] pd] [] [] pe, .Return (some (.Name y pf)) ph]
theorem test_as1 {X : Cx} {x1 : Str} {c1 : Value} {p1 : Pos} (g1 : Gl X x1) (m1 : X.mg x1 = some c1) (d1 : (x1 == ("__debug__" : Str)) = false) : TestAs X (.Name x1 p1) (fun cls => PySem.W.exmOne X.K cls c1) := by
  intro a oe pn σ H s cls b I he hcl hany Q E q
  refine ld_glob (X := X.suite a ((a, oe) :: pn)) I g1 m1 ?_ d1
  exact (PySem.W.exm_one I.kIn (looks_cls (X := X) he hcl) hany).here (q s.heap fun _ _ z => z)
theorem pd_most {x a e y w z q : Str} {te : Expr} {ct : Addr → Option Bool} {any : Value → Option Bool} {i j k3 k4 : Nat} {p1 p2 p3 p6 p7 p8 p9 pa pb pc pd pe pf ph : Pos} {g c P : Addr} {k : Nat} {pg : Arguments} {sg : Scope} {fd : FuncData} {Ng : List Str} {params : Arguments} {body : Expr} {scope : Scope} {me : ME} {p lpos pos : Pos}
    (F : FunD X.K x x pg (bgM a e y w z te k3 k4 p1 p2 p3 p6 p7 p8 p9 pa pb pc pd pe pf ph) sg [] [] g fd) (hm : X.mg x = some (.ref g)) (hb : L2.Binds X.K fd [a] []) (Sg : FnScope Ng [a] sg)
    (test : ∀ cdv s H, TestAs (cxOf C8.CX0 X.prog X.w X.K X.mg X.base Ng x sg g cdv X.A X.stack s H C8.E0).nox te any) (hct : ∀ C, ct C = some true → any (.ref C) = some true) (hT : ∀ C, ct C = some true → XfC X.K C ∧ PySem.W.findIn X.K (.ref C) w = some none)
    (TB : TabB X.base X.mg c P) (hcode : X.env.code = .ref c) (hq : X.env.qual ++ "<lambda>" = q) (hr : Room (k + 2) X.A) (L : LamS X.env.scope scope)
    (hbody : ∀ (A : Around) (outer : List Env) (s : Shared) (H : Hp) (E : XK) (f c' : Addr), Room k (A.deeper (lamEnv X scope s.heap.objs.size f c')) → PE (lamCx X A outer s H E scope f c') body (tE (fun cls d _ H => E cls d H) me))
    (hi : Ng[i]? = some e := by rfl) (hj : Ng[j]? = some y := by rfl) (hij : i ≠ j := by decide) (hle : sg.names.lookup e = some .local := by rfl) (hly : sg.names.lookup y = some .local := by rfl) (hla : Vis sg a := by exact .inl rfl) (hNg : Ng[0]? = some a := by rfl) (hN : Ng.Nodup := by decide +kernel)
    (hg : Gl X x := by rfl) (hdef : defaultsOf params X.env = ([], []) := by rfl)
    (hbind : ∀ (q : Str) (cl : List (Str × Addr)) (pm cv ctv : Value), bindArgs (PySem.W.kla_fn "<lambda>" q params body scope cl pm cv ctv) ⟨[], []⟩ = pure [] := by exact fun _ _ _ _ _ => rfl)
    (hdb : (x == ("__debug__" : Str)) = false := by decide) (hd : (a == ("__debug__" : Str)) = false := by decide) (hcd : (a == ("__classdict__" : Str)) = false := by decide)
    (de : (e == ("__debug__" : Str)) = false := by decide) (ce : (e == ("__classdict__" : Str)) = false := by decide) (dy : (y == ("__debug__" : Str)) = false := by decide) (cy : (y == ("__classdict__" : Str)) = false := by decide) :
    PE X (.Call (.Name x p) [.Lambda params body scope lpos] [] pos) (tE W (mostM P q ct z.cps.toList w me)) := by
  obtain ⟨oc, od, dV, kV, doc, pm, an, cdv, ctv, osl, rfl, lk, hcg, _, _⟩ := F.ex
  have l1 : 1 ≤ Ng.length := by
    have := (List.getElem?_eq_some_iff.mp hNg).1
    omega
  subst hq
  exact PE.weak (KL.pe_lamG (t := fun E => tE (fun cls d _ H => E cls d H) me) hg hm F.kp lk hcg hb Sg hNg hla (KL.most_gives hN hi hj hij hle hly (test cdv) hct hT (fun f => by rfl) (start1 l1) de ce dy cy) TB hcode hr L hdef hbind hbody hdb hd hcd) fun σ H Q h => by
    have := most_sem h
    rw [Array.toArray_toList] at this
    exact this
end
end SL
namespace SL
open PySem PySem.Spec L2
theorem wp_most {P : Addr} {q w : Str} {z : List Nat} {ct : Addr → Option Bool} {me : ME} {δ : DEnv} {S : Store} {Q : D → Store → Prop} {X : Ex → Store → Prop} (hj : ∃ j : Nat, S[j]? = some (.tab P q)) (h : wp (me δ S) Q (fun x S1 => ct x.C = some true ∧ ∃ d, lookS x.ns x.ds w = some d ∧ Q (.tup [.str z, d]) S1)) : wp (mostM P q ct z w me δ S) Q X := by
  unfold mostM
  rw [if_pos hj]
  cases e : me δ S with
  | ok d S1 =>
    rw [e] at h
    exact h
  | exc x S1 =>
    rw [e] at h
    obtain ⟨h1, d, h2, h3⟩ := h
    simp only [h1, h2]
    exact h3
  | stuck =>
    rw [e] at h
    exact h
end SL
namespace K31
open PySem PySem.Spec L2 SL NC
abbrev gD_spelled_book_most : List SL.D → List SL.D → List SL.D := fun ds es => ds ++ es ++ []
abbrev gD_many_done_book : List SL.D → List SL.D → List SL.D := fun ds es => ds ++ es ++ []
noncomputable def m_law (A : Ad) (φlaw_names : Fn) (φlaw_tower : Fn) (φlaw_count : Fn) (φmany_done : Fn) (φlaw_same : Fn) (φspelled : Fn) (φlaw_draw : Fn) (φlaw_flat_tree : Fn) : MS := (seqM (asgM 2 (appM 2 φlaw_names (consM (vM 1) (consM (cM (.int 6)) nilM)) []))
  (seqM (asgM 3 dnewM)
  (seqM (forM (src1 (cM (.int 6))) (.nm 4) (setXM (vM 3) (op2M ixG (vM 2) (vM 4)) (appM 3 φlaw_tower (consM (vM 1) (consM (vM 2) (consM (vM 4) nilM))) [])))
  (seqM (forM (srcV (vM 2)) (.nm 5) (seqM (asgM 6 (op2M ixG (vM 3) (vM 5)))
  (seqM (asgM 7 (appM 3 φlaw_count (consM (vM 3) (consM dnewM (consM (vM 6) nilM))) []))
  (seqM (asgM 8 (mostM (A.t_law) "law.<locals>.<lambda>" (ctOf [(A.TooMany, true)]) [116, 111, 111, 109, 97, 110, 121] "most" (appN 1 1 2 φmany_done gD_many_done_book (consM (vM 6) nilM) (consM (vM 3) nilM))))
  (seqM (ifSM (notB (trM (appM 2 φlaw_same (consM (vM 8) (consM (ifM (cmpB isG (vM 7) (cM .non)) (callG tupG (consM (cM (.str [116, 111, 111, 109, 97, 110, 121])) (consM (op2M powG (cM (.int 10)) (cM (.int 60))) nilM))) (vM 7)) nilM)) []))) (retM (cM (.bl false))) nxM)
  (seqM (ifSM (cmpB isG (vM 7) (cM .non)) (seqM (ifSM (cmpB neG (mostM (A.t_law) "law.<locals>.<lambda>" (ctOf [(A.TooMany, true)]) [116, 111, 111, 109, 97, 110, 121] "most" (appN 1 2 3 φspelled gD_spelled_book_most (consM (vM 6) nilM) (consM (vM 3) (consM (cM (.int 3)) nilM)))) (callG tupG (consM (cM (.str [116, 111, 111, 109, 97, 110, 121])) (consM (op2M powG (cM (.int 10)) (cM (.int 60))) nilM)))) (retM (cM (.bl false))) nxM)
  ctM) nxM)
  (seqM (asgM 9 (callG maxG (consM (cM (.int 0)) (consM (callG minG (consM (cM (.int 400)) (consM (op2M subG (op2M addG (vM 7) (appM 2 φlaw_draw (consM (vM 1) (consM (cM (.int 3)) nilM)) [])) (cM (.int 1))) nilM))) nilM))))
  (seqM (asgM 10 (mostM (A.t_law) "law.<locals>.<lambda>" (ctOf [(A.TooMany, true)]) [116, 111, 111, 109, 97, 110, 121] "most" (appN 1 2 3 φspelled gD_spelled_book_most (consM (vM 6) nilM) (consM (vM 3) (consM (vM 9) nilM)))))
  (ifSM (cmpB gtG (vM 7) (vM 9)) (ifSM (cmpB neG (vM 10) (callG tupG (consM (cM (.str [116, 111, 111, 109, 97, 110, 121])) (consM (vM 9) nilM)))) (retM (cM (.bl false))) nxM) (ifSM (orB (notB (trM (callG isiA (consM (vM 10) (consM (cM (.raw (.ty "list"))) nilM))))) (cmpB neG (callG lenG (consM (vM 10) nilM)) (vM 7))) (retM (cM (.bl false))) nxM))))))))))
  (seqM (asgM 11 (appM 1 φlaw_flat_tree (consM (callG lstG (consM (callG tupG (consM (cM (.str [116, 105, 109, 101, 115])) (consM (cM (.int 20)) (consM (appM 1 φlaw_flat_tree (consM (op2M mulG (callG lstG (consM (callG tupG (consM (cM (.str [99, 97, 108, 108])) (consM (cM (.str [])) nilM))) nilM)) (cM (.int 20))) nilM) []) nilM)))) nilM)) nilM) []))
  (seqM (ifSM (cmpB neG (callG lenG (consM (mostM (A.t_law) "law.<locals>.<lambda>" (ctOf [(A.TooMany, true)]) [116, 111, 111, 109, 97, 110, 121] "most" (appM 3 φspelled (consM (vM 11) nilM) [.non, .int 400])) nilM)) (cM (.int 400))) (retM (cM (.bl false))) nxM)
  (seqM (asgM 12 (appM 1 φlaw_flat_tree (consM (op2M addG (callG lstG (consM (callG tupG (consM (cM (.str [99, 97, 108, 108])) (consM (cM (.str [])) nilM))) nilM)) (callG list3G (consM (op2M ixG (vM 11) (cM (.int 1))) nilM))) nilM) []))
  (retM (andM (op2M eqG (mostM (A.t_law) "law.<locals>.<lambda>" (ctOf [(A.TooMany, true)]) [116, 111, 111, 109, 97, 110, 121] "most" (appM 3 φspelled (consM (vM 12) nilM) [.non, .int 400])) (callG tupG (consM (cM (.str [116, 111, 111, 109, 97, 110, 121])) (consM (cM (.int 400)) nilM)))) (andM (op2M eqG (cM (.int 1000000000000000000000000000000000000000000000000000000000000)) (op2M powG (cM (.int 10)) (cM (.int 60)))) (op2M eqG (cM (.int 400)) (cM (.int 400)))))))))))))
noncomputable def mlaw (A : Ad) : MS := m_law A (φlaw_names A) (φlaw_tower A) (φlaw_count A) (φmany_done A) (φlaw_same A) (φspelled A) (φlaw_draw A) (φlaw_flat_tree A)
end K31
namespace SL
open PySem PySem.Spec L2
open PyProof.Rows hiding St
def bxN : Nat → String | 0 => "ValueError" | 1 => "LookupError" | _ => "IndexError"
def bxI : Nat → String | 0 => "ValueError.__init__" | 1 => "LookupError.__init__" | _ => "IndexError.__init__"
theorem bx_base : ∀ i, ExcBaseFacts (bxN i) (oexW i) (bxI i) (oexT i)
  | 0 => F.excBase_ValueError
  | 1 => F.excBase_LookupError
  | _ + 2 => F.excBase_IndexError
theorem bx_store : ∀ i, StoreFacts (bxN i) (oexT i) "object.__setattr__" "object"
  | 0 => F.store_ValueError
  | 1 => F.store_LookupError
  | _ + 2 => F.store_IndexError
structure OxC (K : PySem.W.Frag) (C : Addr) (i : Nat := 0) : Prop where
  cls : ∃ nm qn N bs bm sn sub ab col dd c0 c1 c2 c3 c5, K.lookup C = some (excClassObj nm qn C N bs bm true sn sub ab col dd c0 c1 c2 c3 c5 (oexW i)) ∧ PySem.W.excTail (oexT i) bm = true
  sa : PySem.W.findIn K (.ref C) "__setattr__" = some (some (.builtin "object.__setattr__"))
  exC : PySem.W.subIn K (.ref C) (.type "BaseException") = some true
  tyC : PySem.W.typeIn K (.ref C) = some (.type "type")
  kC : PySem.W.keepIn K (.ref C) = true
section
open Builtin Builtin.ObjectAttr PySem.HandSPX
variable {prog : Program} {w : World} {A : Around} {E : Value → Shared → Prop} {R : Result → Shared → Prop} {hp : Heap} {g : Array GenState} {d : Drawn} {t : Nat} {os : OsState}
theorem osx_new {K : PySem.W.Frag} {i : Nat} {nf : Str} {tk : Tok} {u : Value} {a C : Addr} {fv : Array Value} {cd : ClassData}
    (hK : K.In hp) (ha : hp.get? a = some { cls := .ref C, data := .fields fv }) (hcd : PySem.W.clsIn K C = some cd) (ho : PySem.W.excOver K C (oexT i) = true) (hh : cd.hasDict = true) (hno : PySem.W.findIn K (.ref C) nf = some none)
    (hq : ∀ h' tk' dx, (∀ b o, b ≠ a → hp.get? b = some o → h'.get? b = some o) → hp.objs.size ≤ dx → dx ≠ a → h'.get? a = some { cls := .ref C, dict := some dx, data := .fields fv } → h'.Ns1 dx (fun y => if y = nf then some u else none) → R (.ok (.ret .none)) ⟨h', g, d, tk', os⟩) :
    codeAny (model prog w) A (.call (.builtin "object.__setattr__") ⟨[.ref a, .str nf tk, u], []⟩) R ⟨hp, g, d, t, os⟩ := by
  have J : PySem.W.InstAt hp a { cls := .ref C, data := .fields fv } C none := ⟨ha, rfl, rfl, True.intro⟩
  have nas : a ≠ hp.objs.size := Nat.ne_of_lt (Heap.lt_size ha)
  have lc : PySem.W.Looks (model prog w) hp (classData C) cd := PySem.W.looks_clsIn hK hcd
  refine PySem.W.osa_openX (s := ⟨hp, g, d, t, os⟩) (r := none) (bx_store i) hK J ho (by unfold PySem.W.takerIn; rw [hno]; rfl) fun bb => ?_
  show wpAny _ _ (storeInOwnDict (.ref a) (.ref C) (.str nf tk) nf u bb) _ _ _
  obtain ⟨nm, bs, mro, ns, qn, hd, sn, sb, ab, col, dl⟩ := cd
  cases (show hd = true from hh)
  unfold storeInOwnDict; unfold ownDictForStores
  repeat (first | with_reducible refine store_in_new ?_ ?_ | with_reducible refine wpAny_loadPart_at ha ?_ | with_reducible refine lc.at ?_ | wp_step)
  · exact ⟨_, #[], _, (Heap.get?_update_ne _ _ _ _ nas.symm).trans (Heap.get?_push_at rfl rfl), rfl, fun z hz => absurd hz (by simp), fun _ => rfl⟩
  · intro h2 tk2 hn2 sb2
    have ha2 := Heap.get?_push_of_some { cls := .type "dict", data := .dict #[] } ha
    exact hq h2 tk2 hp.objs.size (fun b o nb e => (sb2.2 b (Nat.ne_of_lt (Heap.lt_size e))).trans ((Heap.get?_update_ne _ _ _ _ nb).trans (Heap.get?_push_of_some _ e))) (Nat.le_refl _) nas.symm ((sb2.2 a nas).trans (Heap.get?_update_self _ ha2 rfl)) hn2
theorem osx_more {K : PySem.W.Frag} {i : Nat} {nf : Str} {tk : Tok} {u : Value} {a C dx : Addr} {fv : Array Value} {cd : ClassData} {m0 : Str → Option Value} {nl : List Str}
    (hK : K.In hp) (ha : hp.get? a = some { cls := .ref C, dict := some dx, data := .fields fv }) (hns : hp.Ns1 dx m0) (hw : Within m0 nl) (hz : nl.length ≤ 1000) (hcd : PySem.W.clsIn K C = some cd) (ho : PySem.W.excOver K C (oexT i) = true) (hh : cd.hasDict = true) (hno : PySem.W.findIn K (.ref C) nf = some none)
    (hq : ∀ h' tk', (∀ b o, b ≠ dx → hp.get? b = some o → h'.get? b = some o) → h'.Ns1 dx (fun y => if y = nf then some u else m0 y) → R (.ok (.ret .none)) ⟨h', g, d, tk', os⟩) :
    codeAny (model prog w) A (.call (.builtin "object.__setattr__") ⟨[.ref a, .str nf tk, u], []⟩) R ⟨hp, g, d, t, os⟩ := by
  obtain ⟨oD, _, _, hoD, _, _⟩ := hns.count hw
  have J : PySem.W.InstAt hp a { cls := .ref C, dict := some dx, data := .fields fv } C (some oD) := ⟨ha, rfl, rfl, hoD⟩
  have lc : PySem.W.Looks (model prog w) hp (classData C) cd := PySem.W.looks_clsIn hK hcd
  refine PySem.W.osa_openX (s := ⟨hp, g, d, t, os⟩) (r := none) (bx_store i) hK J ho (by unfold PySem.W.takerIn; rw [hno]; rfl) fun bb => ?_
  show wpAny _ _ (storeInOwnDict (.ref a) (.ref C) (.str nf tk) nf u bb) _ _ _
  obtain ⟨nm, bs, mro, ns, qn, hd, sn, sb, ab, col, dl⟩ := cd
  cases (show hd = true from hh)
  unfold storeInOwnDict; unfold ownDictForStores
  repeat (first | with_reducible refine PySem.OEX.store_in_old hns hw hz ?_ | with_reducible refine wpAny_loadPart_at ha ?_ | with_reducible refine lc.at ?_ | wp_step)
  intro h2 tk2 hn2 sb2
  exact hq h2 tk2 (fun b o nb e => (sb2.2 b nb).trans e) hn2
end
section
variable {X : Cx} {pins : List (Addr × Obj)} {σ : St} {H : Hp} {s : Shared} {a C dx : Addr} {i : Nat} {f : Str} {y : V} {u : Value} {fs : List (Str × V)} {Q : Unit → Shared → Prop} {E : Value → Shared → Prop} {A : Around}
theorem ox_over {K : PySem.W.Frag} (T : OxC K C i) : ∃ cd, PySem.W.clsIn K C = some cd ∧ cd.hasDict = true ∧ PySem.W.excOver K C (oexT i) = true := by
  obtain ⟨nm, qn, N, bs, bm, sn, sub, ab, col, dd, c0, c1, c2, c3, c5, hC, hT⟩ := T.cls
  have e : PySem.W.clsIn K C = some { name := nm, bases := bs, mro := .ref C :: bm, ns := N, qualname := qn, hasDict := true, slotNames := sn, subclasses := sub, abstract := ab, collection := col, hasDel := false } := by
    unfold PySem.W.clsIn
    rw [hC] <;> rfl
  refine ⟨_, e, rfl, ?_⟩
  unfold PySem.W.excOver
  rw [e]
  show (C == C && PySem.W.excTail (oexT i) bm) = true
  rw [hT, Bool.and_true]
  exact beq_self_eq_true C
theorem osx_first (T : OxC X.K C i) (I : Inv X pins σ H s) (e : H a = some (exo a C none)) (hno : PySem.W.findIn X.K (.ref C) f = some none) (ry : RelV y u)
    (h : ∀ dx s', H dx = none → dx ≠ a → Inv X pins σ (upd (upd H dx (exd dx [(f, y)])) a (exo a C (some dx))) s' → Q () s') : wpAny (model X.prog X.w) A (setAttr (.ref a) f u) Q E s := by
  obtain ⟨cd, hcd, hd, hov⟩ := ox_over T
  obtain ⟨t1, oa⟩ := exo_at I.hok e
  obtain ⟨hp, g, d, t, os⟩ := s
  refine PySem.W.set_plain I.kIn (od := none) (ox := { cls := .ref C, dict := none, data := .fields #[.ref t1, .none, .none, .none, .bool false, .none] }) ⟨oa, rfl, rfl, True.intro⟩ T.sa ?_
  refine osx_new I.kIn oa hcd hov hd hno (fun h2 tk2 dx k dn ne xa xn => ?_)
  have nx : H dx = none := I.hok.fresh dn
  have old : ∀ {b : Addr} {o : Obj}, hp.get? b = some o → b ≠ dx := fun {b o} z => Nat.ne_of_lt (Nat.lt_of_lt_of_le (Heap.lt_size z) dn)
  have oth : ∀ {b : Addr}, H b = none → b ≠ a := fun {b} z v => by
    rw [v, e] at z
    cases z
  have U : Un X.fs [] H (upd (upd H dx (exd dx [(f, y)])) a (exo a C (some dx))) hp h2 := {
    keep := fun b o z v _ _ => k b o (oth v) z
    slot := fun b o z v _ _ => ⟨o.slots, k b o (oth v) z⟩
    free := fun b o z v _ => (upd_ne (oth v)).trans ((upd_ne (old z)).trans v)
    there := fun b o z _ => if hb : b = a then ⟨_, hb ▸ xa⟩ else ⟨o, k b o hb z⟩
    tups := fun b xs z => (upd_ne (at_ne e z exo_tup)).trans ((upd_ne (ne_of_none z nx)).trans z)
    frzs := fun b o v z => (upd_ne (at_ne e z exo_frz)).trans ((upd_ne (ne_of_none z nx)).trans z)
    tbls := fun b ps z => ⟨#[], by rw [upd_ne (at_ne e z exo_tbl), upd_ne (ne_of_none z nx), z]; simp⟩ }
  refine h dx _ nx ne (I.un (t' := tk2) U fun b o z => ?_)
  by_cases hb : b = a
  · rw [hb, upd_same] at z
    cases z
    rw [hb]
    exact exo_ok xa
  by_cases hd : b = dx
  · rw [upd_ne hb, hd, upd_same] at z
    cases z
    rw [hd]
    exact exd_ok xn (relO_put (fs := []) ry fun _ => True.intro)
  · rw [upd_ne hb, upd_ne hd] at z
    refine (I.hok b o z).stay (fun c v hc q => k c v (hc.elim (fun q => q ▸ hb) fun q => at_ne e q exo_own) q) (fun c q => (upd_ne (at_ne e q exo_own)).trans ((upd_ne (ne_of_none q nx)).trans q)) (fun c xs q => (upd_ne (at_ne e q exo_tup)).trans ((upd_ne (ne_of_none q nx)).trans q))
theorem osx_next (T : OxC X.K C i) (I : Inv X pins σ H s) (e : H a = some (exo a C (some dx))) (ed : H dx = some (exd dx fs)) (hl : fs.length ≤ 900) (hno : PySem.W.findIn X.K (.ref C) f = some none) (ry : RelV y u)
    (h : ∀ s', Inv X pins σ (upd H dx (exd dx ((f, y) :: fs))) s' → Q () s') : wpAny (model X.prog X.w) A (setAttr (.ref a) f u) Q E s := by
  obtain ⟨cd, hcd, hd, hov⟩ := ox_over T
  obtain ⟨t1, oa⟩ := exo_at I.hok e
  obtain ⟨m0, xn, rl⟩ := exd_at I.hok ed
  obtain ⟨hp, g, d, t, os⟩ := s
  obtain ⟨oD, _, _, hoD, _, _⟩ := xn.count (within_of rl)
  refine PySem.W.set_plain I.kIn (od := some oD) (ox := { cls := .ref C, dict := some dx, data := .fields #[.ref t1, .none, .none, .none, .bool false, .none] }) ⟨oa, rfl, rfl, hoD⟩ T.sa ?_
  refine osx_more I.kIn oa xn (within_of rl) (by rw [List.length_map]; omega) hcd hov hd hno (fun h2 tk2 k xn2 => ?_)
  obtain ⟨o2, _, _, e2, _⟩ := id xn2
  exact h _ (I.write (t' := tk2) (x := dx) (e := dx) (o := exd dx ((f, y) :: fs)) (by rw [ed]; exact True.intro) (.inl rfl) k ⟨o2, e2⟩ (exd_ok xn2 (relO_put ry rl)))
theorem bx_init {us : List Value} {Q : Value → Shared → Prop} (T : OxC X.K C i) (I : Inv X pins σ H s) (e : H a = some (exo a C none)) (hl : us.length ≤ sizeLine) (h : ∀ s', Inv X pins σ H s' → Q .none s') :
    wpAny (model X.prog X.w) A (call (.builtin (bxI i)) (.ref a :: us)) Q E s := by
  obtain ⟨nm, qn, N, bs, bm, sn, sub, ab, col, dd, c0, c1, c2, c3, c5, hC, hT⟩ := T.cls
  obtain ⟨t1, oa⟩ := exo_at I.hok e
  obtain ⟨hp, g, d, t, os⟩ := s
  refine wpAny_call (PySem.HandSPX.init_base (bx_base i) (fun Y => PySem.W.excTail_contains Y bm hT) (I.kIn _ _ hC) oa hl fun h2 t2 k x2 => ?_)
  have same : upd H a (exo a C none) = H := funext fun b => by
    by_cases hb : b = a
    · rw [hb, upd_same, e]
    · exact upd_ne hb
  have J := I.write (t' := t) (x := a) (e := a) (o := exo a C none) (e ▸ True.intro) (.inl rfl) k ⟨_, x2⟩ (exo_ok x2)
  exact h _ (same ▸ J)
end
def tBin (K : PySem.W.Frag) (i : Nat) (ta : TA) : TE := fun σ H Q => ta σ H fun vs H1 => ∃ (a C : Addr) (ws : List V), vs = .ref a :: ws ∧ ws.length ≤ 1000 ∧ OxC K C i ∧ H1 a = some (exo a C none) ∧ Q .non H1
def tOsx (K : PySem.W.Frag) (f : Str) (to te : TE) : TS := fun D σ H => te σ H fun y H1 => to σ H1 fun x H2 => ∃ (a C : Addr) (i : Nat), x = .ref a ∧ OxC K C i ∧ PySem.W.findIn K (.ref C) f = some none ∧
  ((H2 a = some (exo a C none) ∧ ∀ dx, H2 dx = none → dx ≠ a → D.nx σ (upd (upd H2 dx (exd dx [(f, y)])) a (exo a C (some dx)))) ∨
    ∃ (dx : Addr) (fs : List (Str × V)), H2 a = some (exo a C (some dx)) ∧ H2 dx = some (exd dx fs) ∧ fs.length ≤ 900 ∧ D.nx σ (upd H2 dx (exd dx ((f, y) :: fs))))
section
variable {X : Cx} {o e : Expr} {es : List Expr} {to te : TE} {ta : TA} {f x : Str} {B : String} {i : Nat} {p p' p1 p2 pos : Pos}
theorem pe_binit {pl : Sem Bool} (i : Nat) (hg : Gl X x) (hm : X.mg x = none) (vI : PySem.W.findCls X.K (.type B) (.type "type") "__init__" = some (.val (.builtin (bxI i)))) (hv : bootBuiltins x = some (.type B)) (hty : typeOf (.type B) = pure (.type "type")) (ha : PA X (e :: es) ta)
    (hst : Manifest.isStub B = false := by decide +kernel) (hh : PySem.W.handedIn (.builtin (bxI i)) = true := by decide +kernel) (hn : x ≠ "__name__" := by decide) (hdb : (x == ("__debug__" : Str)) = false := by decide)
    (hc : eval (.Call (.Attribute (.Name x p1) "__init__" p2) (e :: es) [] pos) X.env = (do
      let ov ← eval (.Name x p1) X.env
      standAt p2.atName
      let (f, first) ← holding [ov] (getMethod ov "__init__" pl)
      callWith pos f first (backTo pos (starEach (e :: es) X.env)) (backToKw pos (keywordEach [] X.env))) := by rfl)
    (he : starEach (e :: es) X.env = (false, eval e X.env) :: starEach es X.env := by rfl) (hpl : (backTo pos (starEach es X.env)).any (·.1) = false := by rfl) :
    PE X (.Call (.Attribute (.Name x p1) "__init__" p2) (e :: es) [] pos) (tBin X.K i ta) := ⟨fun pins s σ H Q I h => by
  refine PySem.W.methodCall_KW (ld_blt I hg hm hv ?_ hn hdb) hc
  obtain ⟨m, fr⟩ := I.fr
  refine PySem.W.method_type fr I.ok.mod.kin hty hst vI hh ?_
  show wpAny _ _ (callWith pos (Value.builtin (bxI i)) [] (backTo pos (starEach (e :: es) X.env)) []) _ _ _
  refine PyProof.Rows.callWith_method1 (thn (ha.run pos pins _ σ H _ (I.tok _) h) fun us s1 ⟨vs, H1, I1, r1, a, C, ws, ev, hl, T, ea, q⟩ => ?_) he hpl
  cases ev
  cases r1 with
  | @cons _ u0 _ ur ra rw' =>
    obtain rfl : u0 = Value.ref a := ra
    exact bx_init T I1 ea (by rw [← Paired.length rw', sizeLine_eq]; omega) fun s2 J => ⟨.non, H1, J, rfl, q⟩⟩
theorem ps_osx (ho : PE X o to) (he : PE X e te) (hs : swapsWith e (some (.Attribute o f p')) pos.line X.env = pure false := by rfl) : PS X (.Assign [.Attribute o f p'] e pos) (tOsx X.K f to te) := ⟨fun pins s σ H D I h => by
  refine plainObj_wpAny_Assign_Attribute (thn (he.run pins s σ H _ I h) fun v s1 ⟨y, H1, I1, r1, q1⟩ => thn (ho.run pins s1 σ H1 _ I1 q1) fun u s2 ⟨x, H2, I2, r2, a, C, i, ex, T, hno, q⟩ => ?_) hs
  cases ex
  obtain rfl : u = Value.ref a := r2
  rcases q with ⟨ea, q⟩ | ⟨dx, fs, ea, ed, hl, q⟩
  · exact osx_first T I2 ea hno r1 fun dx s3 n ne J => ⟨σ, _, J, q dx n ne⟩
  · exact osx_next T I2 ea ed hl hno r1 fun s3 J => ⟨σ, _, J, q⟩⟩
theorem pmk_own {CX : CXT} {C fI : Addr} {k : Nat} {fd : FuncData} {ps : List Str} {sp : Sp} {ds us : List Value} {dvs vs : List V} {pins : List (Addr × Obj)} {σ : St} {H1 : Hp} {Q : XK} {s1 : Shared} (T : OxC X.K C i) (iC : PySem.W.findIn X.K (.ref C) "__init__" = some (some (.ref fI)))
    (tI : PySem.W.typeIn X.K (.ref fI) = some (.type "function")) (F1 : FnOk X.prog X.w X.K X.mg X.base CX k fI fd ps sp) (hr : Room (k + 1) X.A) (hb : Binds X.K fd ps ds) (hd : Vals dvs ds) (hx : Passes CX X (fun _ _ _ => False)) (I1 : Inv X pins σ H1 s1) (r1 : Vals vs us) (hz : vs.length ≤ 1000)
    (q1 : ∀ a, H1 a = none → sp (.ref a :: (vs ++ dvs)) (upd H1 a (exo a C none)) (fun v H2 => v = .non ∧ ∃ (d : Addr) (fs : List (Str × V)), H2 a = some (exo a C (some d)) ∧ H2 d = some (exd d fs) ∧ H1 d = none ∧ Q (.ref C) (some d) (upd (L2.del H2 a) d (.xd fs))) (fun _ _ _ => False)) :
    wpAny (model X.prog X.w) X.A (call (.ref C) us) (MkP X pins σ Q) X.xe s1 := by
  obtain ⟨nm, qn, N, bs, bm, sn, sub, ab, col, dd, c0, c1, c2, c3, c5, hC, hT⟩ := T.cls
  obtain ⟨hp, g, dr, tk, os⟩ := s1
  have up : hp.objs.size ≤ hp.objs.size + 1 := Nat.le_add_right _ 1
  have hq := q1 _ (I1.hok.fresh up)
  have kk : ∀ b o, hp.get? b = some o → ((hp.push (PySem.W.kdv_tup us)).push (PySem.HandSPX.excO C hp.objs.size)).get? b = some o := fun b o z => Heap.get?_push_of_some _ (Heap.get?_push_of_some _ z)
  have own : ((hp.push (PySem.W.kdv_tup us)).push (PySem.HandSPX.excO C hp.objs.size)).get? (hp.objs.size + 1) = some (PySem.HandSPX.excO C hp.objs.size) := by heap_get
  have I2 := I1.laid (t' := tk) (a := hp.objs.size + 1) (o := exo (hp.objs.size + 1) C none) (h' := (hp.push (PySem.W.kdv_tup us)).push (PySem.HandSPX.excO C hp.objs.size)) kk up (exo_ok own)
  have rr : Vals (V.ref (hp.objs.size + 1) :: (vs ++ dvs)) (Value.ref (hp.objs.size + 1) :: (us ++ ds)) := .cons rfl (r1.append hd)
  have ll : (Value.ref (hp.objs.size + 1) :: us ++ ds).length = ps.length := by
    have z := rr.length
    rw [F1.len _ _ _ _ hq] at z
    exact z.symm
  refine wpAny_call (PySem.HandSPX.call_own (bx_base i) (fun Y => PySem.W.excTail_contains Y bm hT) (I1.kIn _ _ hC) (PySem.W.looks_findIn I1.kIn iC) (fun self => PySem.W.bind_fn I1.kIn self tI) (by rw [← Paired.length r1, sizeLine_eq]; omega)
    (codeAny_mono (F1.run _ X.stack _ _ ⟨Value.ref (hp.objs.size + 1) :: us, []⟩ (Value.ref (hp.objs.size + 1) :: (us ++ ds)) _ _ (fun _ _ _ => False) (hr.make C us []) (I2.env0.make C us []) (hb _ (Value.ref (hp.objs.size + 1) :: us) I2.kIn ll) rr hq) fun r s2 z => ?_))
  match r, z with
  | .error er, z => exact hx pins σ _ _ er s2 I2 z
  | .ok (.ret u), z =>
    obtain ⟨v, H2, os2, bare2, un2, hok2, rv, ev, d, fs, ea, ed, hd1, q2⟩ := z
    cases ev
    obtain ⟨h2, g2, d2, t2, o2⟩ := s2
    exact ⟨rv, mk_end (raises_own T.exC T.tyC) I1 up kk un2 hok2 os2 bare2 ea ed hd1 q2⟩
  | .ok .next, z => exact z.elim
  | .ok .brk, z => exact z.elim
  | .ok .cont, z => exact z.elim
theorem pmk_oxs {CX : CXT} {C fI : Addr} {k : Nat} {fd : FuncData} {ps : List Str} {sp : Sp} {ds : List Value} {dvs : List V} (T : OxC X.K C i) (iC : PySem.W.findIn X.K (.ref C) "__init__" = some (some (.ref fI))) (tI : PySem.W.typeIn X.K (.ref fI) = some (.type "function"))
    (F1 : FnOk X.prog X.w X.K X.mg X.base CX k fI fd ps sp) (hr : Room (k + 1) X.A) (hb : Binds X.K fd ps ds) (hd : Vals dvs ds) (hx : Passes CX X (fun _ _ _ => False)) (hg : Gl X x) (hm : X.mg x = some (.ref C)) (ha : PA X (e :: es) ta)
    (hdb : (x == ("__debug__" : Str)) = false := by decide) (he : starEach (e :: es) X.env = (false, eval e X.env) :: starEach es X.env := by rfl) (hpl : (backTo pos (starEach es X.env)).any (·.1) = false := by rfl) :
    PMk X (.Call (.Name x p) (e :: es) [] pos) (tMkO C sp dvs ta) := fun pins s σ H Q I h => by
  refine wpAny_Call_Name_kw (ld_glob I hg hm ?_ hdb)
  exact PySem.W.callWith_K (h₀ := X.base) I.ok.mod.kin T.kC (thn (ha.run pos pins s σ H _ I h) fun us s1 ⟨vs, H1, I1, r1, hz, q1⟩ => ⟨I1.kIn, pmk_own T iC tI F1 hr hb hd hx I1 r1 hz q1⟩) he hpl
end
def spIX (K : PySem.W.Frag) (n : Nat) (fs : List Str) (g : List V → List V) (i : Nat := 0) : Sp := fun vs H Q E => ∃ a C ws, vs = .ref a :: ws ∧ ws.length = n ∧ OxC K C i ∧ (∀ f ∈ fs, PySem.W.findIn K (.ref C) f = some none) ∧ H a = some (exo a C none) ∧
  ∀ dx, H dx = none → dx ≠ a → Q .non (upd (upd H dx (exd dx (fs.zip (g ws)))) a (exo a C (some dx)))
section
variable {P : Program} {w : World} {K : PySem.W.Frag} {mg : Str → Option Value} {base : Heap} {k n i : Nat} {f : Addr} {fd : FuncData} {x qual : Str} {params : Arguments} {body : List Stmt} {scope : Scope} {dvs : List V} {kws : List (Str × V)} {N ps fs : List Str} {g : List V → List V} {t : TS}
theorem init_ofX (F : FunD K x qual params body scope dvs kws f fd) (S : FnScope N ps scope) (hn : ps.length = n + 1)
    (hb : ∀ (cdv : Value) (A : Around) (outer : List Env) (s : Shared) (H : Hp) (E : XK), Room k (A.deeper (envOfC qual scope s.heap.objs.size f cdv)) → PSs (cxOf (L2.CX P w) P w K mg base N qual scope f cdv A outer s H E) body t)
    (ht : ∀ vs H Q E, spIX K n fs g i vs H Q E → t { nx := fun _ H' => Q .non H', rt := Q } (L2.start N vs) H) : FnOk P w K mg base (L2.CX P w) (k + 1) f fd ps (spIX K n fs g i) :=
  FunD.ok F S (fun vs H Q E h => by
    obtain ⟨a, C, ws, rfl, hl, _⟩ := h
    simp [hl, hn]) (fun cdv A outer s H vs Q E hr h => ⟨t, hb cdv A outer s H E hr, ht vs H Q E h⟩)
end
section
variable {K : PySem.W.Frag} {fs0 : List Str} {g0 : List V → List V} {fl f1 f2 : Str} {vs : List V} {H : Hp} {Q : VK} {E : XK} {c : Str} {s1 s2 s3 : Str} {i : Nat}
theorem shapeRX (h : spIX K 1 [fl] (fun ws => ws) i vs H Q E) : tSeq (tDrop (tBin K i (tCons (tVar 0) (tCons (tVar 1) tNil)))) (tOsx K fl (tVar 0) (tVar 1)) { nx := fun _ H' => Q .non H', rt := Q } (L2.start [s1, s2] vs) H := by
  obtain ⟨a, C, ws, rfl, hl, T, hf, ha, q⟩ := h
  match ws, hl with
  | [w], _ =>
    refine ⟨_, rfl, _, rfl, a, C, [w], rfl, by simp, T, ha, ?_⟩
    exact ⟨_, rfl, _, rfl, a, C, _, rfl, T, hf fl (by simp), .inl ⟨ha, fun dx h1 h2 => q dx h1 h2⟩⟩
theorem shape1X (h : spIX K 1 (f1 :: fs0) (fun ws => ws ++ g0 [.str c]) i vs H Q E) (hlen : fs0.length ≤ 900) : tSeq (tDrop (tCallS (spIX K 1 fs0 g0 i) E00 (tCons (tVar 0) (tCons (tC (.str c)) tNil)))) (tOsx K f1 (tVar 0) (tVar 1)) { nx := fun _ H' => Q .non H', rt := Q } (L2.start [s1, s2] vs) H := by
  obtain ⟨a, C, ws, rfl, hl, T, hf, ha, q⟩ := h
  match ws, hl with
  | [w], _ =>
    refine ⟨_, rfl, a, C, [.str c], rfl, rfl, T, fun f hm => hf f (List.mem_cons_of_mem _ hm), ha, fun dx h1 h2 => ?_⟩
    obtain ⟨e1, e2⟩ := upd_ob (H := H) (o := exd dx (fs0.zip (g0 [.str c]))) (u := exo a C (some dx)) h2
    refine ⟨_, rfl, _, rfl, a, C, _, rfl, T, hf f1 (by simp), .inr ⟨dx, _, e1, e2, by rw [List.length_zip]; omega, ?_⟩⟩
    rw [upd_old h2]
    exact q dx h1 h2
end
section
variable {X : Cx} {W : WX} {k n i : Nat} {fI C : Addr} {fd : FuncData} {ps fs : List Str} {g : List V → List V} {gd : List D → List D} {x : Str} {p pos : Pos} {e : Expr} {es : List Expr} {ms : MA} {mx : DEnv → Store → Res Ex}
structure OexIX (K : PySem.W.Frag) (C fI : Addr) (fd : FuncData) (ps fs : List Str) (i : Nat := 0) : Prop where
  T : OxC K C i
  iC : PySem.W.findIn K (.ref C) "__init__" = some (some (.ref fI))
  tI : PySem.W.typeIn K (.ref fI) = some (.type "function")
  hb : Binds K fd ps []
  hf : ∀ f ∈ fs, PySem.W.findIn K (.ref C) f = some none
theorem mk_semX (J : OexIX X.K C fI fd ps fs i) (gr : GRX gd g) {σ : St} {H1 : Hp} {ρ1 : List Addr} {S1 : Store} {xs : List D} {vs : List V} {Q : XK} (st : StS H1 S1 ρ1) (r : Reps H1 ρ1 xs vs) (hn : n ≤ 1000)
    (h : RunG W RX σ H1 ρ1 (if xs.length = n ∧ (gd xs).length = fs.length then Res.ok (⟨C, fs, gd xs⟩ : Ex) S1 else .stuck) (fun p H' => Q p.1 p.2 H')) :
    vs.length ≤ 1000 ∧ ∀ a, H1 a = none → spIX X.K n fs g i (.ref a :: (vs ++ [])) (upd H1 a (exo a C none)) (fun v H2 => v = .non ∧ ∃ (d : Addr) (gs : List (Str × V)), H2 a = some (exo a C (some d)) ∧ H2 d = some (exd d gs) ∧ H1 d = none ∧ Q (.ref C) (some d) (upd (L2.del H2 a) d (.xd gs))) (fun _ _ _ => False) := by
  split at h
  · rename_i hl
    have e := r.len
    refine ⟨by omega, fun a ha => ⟨a, C, _, rfl, by simp only [List.append_nil]; omega, J.T, J.hf, upd_same, fun dx h1 h2 => ⟨rfl, dx, _, upd_same, by rw [upd_ne h2, upd_same], by rw [upd_ne h2] at h1; exact h1, ?_⟩⟩⟩
    rw [upd_ne h2] at h1
    rw [del_upd (C := C) h2 ha, List.append_nil]
    have nx : Nx H1 ρ1 (upd H1 dx (.xd (fs.zip (g vs)))) ρ1 := Nx.alloc h1
    exact h (.ref C, some dx) _ ρ1 nx (st.alloc h1) ⟨rfl, dx, g vs, rfl, upd_same, fun z => st.trk z h1, hl.2.symm, Reps.mono nx _ _ (gr.rel r)⟩
  · exact False.elim h
theorem pmd_mkX (J : OexIX X.K C fI fd ps fs i) (gr : GRX gd g) (F1 : FnOk X.prog X.w X.K X.mg X.base (L2.CX X.prog X.w) k fI fd ps (spIX X.K n fs g i)) (hr : Room (k + 1) X.A) (hm : X.mg x = some (.ref C)) (ha : PA X (e :: es) (tA W ms)) (hn : n ≤ 1000 := by decide) (hg : Gl X x := by rfl)
    (hdb : (x == ("__debug__" : Str)) = false := by decide) (he : starEach (e :: es) X.env = (false, eval e X.env) :: starEach es X.env := by rfl) (hpl : (backTo pos (starEach es X.env)).any (·.1) = false := by rfl) :
    PMD X W (.Call (.Name x p) (e :: es) [] pos) (mkxM C n fs gd ms) := by
  intro pins s σ H Q I h
  refine pmk_oxs J.T J.iC J.tI F1 hr J.hb .nil passNoC hg hm ha hdb he hpl pins s σ H Q I ?_
  obtain ⟨δ, S, ρ, I', h⟩ := h
  refine bindG (R2 := RX) I' h fun xs vs S1 H1 ρ1 n1 I1 r1 h1 => ?_
  exact mk_semX J gr I1.st r1 hn h1
end
section
variable {K : PySem.W.Frag} {C f : Addr}
theorem oxB_ok {i : Nat} (h : oxB K C i = true) : OxC K C i := by
  obtain ⟨h1, h⟩ := Bool.and_eq_true_iff.mp h
  obtain ⟨h2, h⟩ := Bool.and_eq_true_iff.mp h
  obtain ⟨h3, h⟩ := Bool.and_eq_true_iff.mp h
  obtain ⟨h4, h5⟩ := Bool.and_eq_true_iff.mp h
  refine ⟨?_, of_decide_eq_true h2, of_decide_eq_true h3, of_decide_eq_true h4, h5⟩
  split at h1
  · rename_i dd cd sl ho
    split at h1
    · rename_i C' bm k0 k1 k2 k3 n k5 hm hs
      simp only [Bool.and_eq_true, beq_iff_eq, Bool.not_eq_true'] at h1
      obtain ⟨⟨⟨⟨rfl, rfl⟩, hdel⟩, hdc⟩, hr⟩ := h1
      obtain ⟨nm, bs, mro, ns, qn, hd, sn, sub, ab, col, del⟩ := cd
      dsimp only at hm hdel hdc
      subst hm hdel hdc
      have hsl : sl = #[k0, k1, k2, k3, some (.builtin (oexW i)), k5] := by
        obtain ⟨l⟩ := sl
        simp only at hs
        rw [hs]
      subst hsl
      exact ⟨nm, qn, ns, bs, bm, sn, sub, ab, col, dd, k0, k1, k2, k3, k5, ho, hr⟩
    · cases h1
  · cases h1
theorem oxIB_ok {fI : Addr} {fs ps : List Str} {fd : FuncData} {i : Nat} (h : oxIB K C fI fs i = true) (hb : Binds K fd ps []) : OexIX K C fI fd ps fs i := by
  obtain ⟨h1, h⟩ := Bool.and_eq_true_iff.mp h
  obtain ⟨h2, h⟩ := Bool.and_eq_true_iff.mp h
  obtain ⟨h3, h4⟩ := Bool.and_eq_true_iff.mp h
  exact ⟨oxB_ok h1, of_decide_eq_true h2, of_decide_eq_true h3, hb, fun f hf => of_decide_eq_true (List.all_eq_true.mp h4 f hf)⟩
theorem bxiB_ok {B n : String} (h : bxiB K B n = true) : PySem.W.findCls K (.type B) (.type "type") "__init__" = some (.val (.builtin n)) := by
  unfold bxiB at h
  split at h
  · rename_i m e
    rw [e, of_decide_eq_true h]
  · cases h
end
end SL
namespace K31
open PySem PySem.Spec L2 SL NC
open PyProof.Rows hiding St
abbrev TabsB (K : PySem.W.Frag) (mg : Str → Option Value) (base : Heap) : Prop := ∀ p ∈ tfL, LamX.TabB base mg (He.cT K p).1 (He.cT K p).2
structure Fds where
  (d_law d_law_start d_law_names d_law_tower d_law_count d_law_told d_many_done d_law_same d_spelled d_law_draw d_law_flat_tree d_law_letters d_law_of d_law_number d_look_row d_Counter_init d_Counter_of_row d_Counter_set_out d_is_row d_Counter_of_step d_is_built d_many_steps d_deep_of d_Counter_of_name d_is_step d_row_of d_are_letters d_is_name d_is_times d_HallError_init d_Missing_init d_BadTree_init d_Ring_init d_TooMany_init d_NoRow_init : FuncData)
abbrev adK (K : PySem.W.Frag) : Ad := ⟨He.ga K "HallError", He.ga K "Missing", 0, 0, 0, 0, 0, 0, 0, 0, 0, 0, 0, 0, 0, He.ga K "BadTree", He.ga K "Ring", He.ga K "TooMany", 0, 0, 0, 0, 0, 0, 0, 0, 0, 0, He.ga K "NoRow", 0, 0, 0, 0, 0, 0, 0, 0, He.ga K "Counter", 0, 0, 0, 0, 0, (He.cT K ("law", none)).2, 0, 0, 0⟩
structure Fx (K : PySem.W.Frag) (mg : Str → Option Value) (E : Fds) : Prop where
  F_law : FunD K "law" "law" (defArgs (top 43)) (defBody (top 43)) (defScope (top 43)) [] [] (He.fAd K ("law", none)) E.d_law
  F_law_start : FunD K "_law_start" "_law_start" (defArgs (top 33)) (defBody (top 33)) (defScope (top 33)) [] [] (He.fAd K ("_law_start", none)) E.d_law_start
  F_law_names : FunD K "_law_names" "_law_names" (defArgs (top 38)) (defBody (top 38)) (defScope (top 38)) [] [] (He.fAd K ("_law_names", none)) E.d_law_names
  F_law_tower : FunD K "_law_tower" "_law_tower" (defArgs (top 41)) (defBody (top 41)) (defScope (top 41)) [] [] (He.fAd K ("_law_tower", none)) E.d_law_tower
  F_law_count : FunD K "_law_count" "_law_count" (defArgs (top 40)) (defBody (top 40)) (defScope (top 40)) [] [] (He.fAd K ("_law_count", none)) E.d_law_count
  F_law_told : FunD K "_law_told" "_law_told" (defArgs (top 42)) (defBody (top 42)) (defScope (top 42)) [] [] (He.fAd K ("_law_told", none)) E.d_law_told
  F_many_done : FunD K "many_done" "many_done" (defArgs (top 29)) (defBody (top 29)) (defScope (top 29)) [] [("book", V.non)] (He.fAd K ("many_done", none)) E.d_many_done
  F_law_same : FunD K "_law_same" "_law_same" (defArgs (top 32)) (defBody (top 32)) (defScope (top 32)) [] [] (He.fAd K ("_law_same", none)) E.d_law_same
  F_spelled : FunD K "spelled" "spelled" (defArgs (top 30)) (defBody (top 30)) (defScope (top 30)) [] [("book", V.non), ("most", V.int 400)] (He.fAd K ("spelled", none)) E.d_spelled
  F_law_draw : FunD K "_law_draw" "_law_draw" (defArgs (top 34)) (defBody (top 34)) (defScope (top 34)) [] [] (He.fAd K ("_law_draw", none)) E.d_law_draw
  F_law_flat_tree : FunD K "_law_flat_tree" "_law_flat_tree" (defArgs (top 39)) (defBody (top 39)) (defScope (top 39)) [] [] (He.fAd K ("_law_flat_tree", none)) E.d_law_flat_tree
  F_law_letters : FunD K "_law_letters" "_law_letters" (defArgs (top 36)) (defBody (top 36)) (defScope (top 36)) [] [] (He.fAd K ("_law_letters", none)) E.d_law_letters
  F_law_of : FunD K "_law_of" "_law_of" (defArgs (top 35)) (defBody (top 35)) (defScope (top 35)) [] [] (He.fAd K ("_law_of", none)) E.d_law_of
  F_law_number : FunD K "_law_number" "_law_number" (defArgs (top 37)) (defBody (top 37)) (defScope (top 37)) [] [] (He.fAd K ("_law_number", none)) E.d_law_number
  F_look_row : FunD K "look_row" "look_row" (defArgs (top 23)) (defBody (top 23)) (defScope (top 23)) [] [] (He.fAd K ("look_row", none)) E.d_look_row
  F_Counter_init : FunD K "__init__" "Counter.__init__" (defArgs (clsDef (top 28) 0)) (defBody (clsDef (top 28) 0)) (defScope (clsDef (top 28) 0)) [] [] (He.fAd K ("Counter", some "__init__")) E.d_Counter_init
  F_Counter_of_row : FunD K "of_row" "Counter.of_row" (defArgs (clsDef (top 28) 3)) (defBody (clsDef (top 28) 3)) (defScope (clsDef (top 28) 3)) [] [] (He.fAd K ("Counter", some "of_row")) E.d_Counter_of_row
  F_Counter_set_out : FunD K "set_out" "Counter.set_out" (defArgs (clsDef (top 28) 4)) (defBody (clsDef (top 28) 4)) (defScope (clsDef (top 28) 4)) [] [] (He.fAd K ("Counter", some "set_out")) E.d_Counter_set_out
  F_is_row : FunD K "is_row" "is_row" (defArgs (top 22)) (defBody (top 22)) (defScope (top 22)) [] [] (He.fAd K ("is_row", none)) E.d_is_row
  F_Counter_of_step : FunD K "of_step" "Counter.of_step" (defArgs (clsDef (top 28) 2)) (defBody (clsDef (top 28) 2)) (defScope (clsDef (top 28) 2)) [] [] (He.fAd K ("Counter", some "of_step")) E.d_Counter_of_step
  F_is_built : FunD K "is_built" "is_built" (defArgs (top 19)) (defBody (top 19)) (defScope (top 19)) [] [] (He.fAd K ("is_built", none)) E.d_is_built
  F_many_steps : FunD K "many_steps" "many_steps" (defArgs (top 20)) (defBody (top 20)) (defScope (top 20)) [] [] (He.fAd K ("many_steps", none)) E.d_many_steps
  F_deep_of : FunD K "deep_of" "deep_of" (defArgs (top 21)) (defBody (top 21)) (defScope (top 21)) [] [] (He.fAd K ("deep_of", none)) E.d_deep_of
  F_Counter_of_name : FunD K "of_name" "Counter.of_name" (defArgs (clsDef (top 28) 1)) (defBody (clsDef (top 28) 1)) (defScope (clsDef (top 28) 1)) [] [] (He.fAd K ("Counter", some "of_name")) E.d_Counter_of_name
  F_is_step : FunD K "is_step" "is_step" (defArgs (top 18)) (defBody (top 18)) (defScope (top 18)) [] [] (He.fAd K ("is_step", none)) E.d_is_step
  F_row_of : FunD K "row_of" "row_of" (defArgs (top 27)) (defBody (top 27)) (defScope (top 27)) [] [] (He.fAd K ("row_of", none)) E.d_row_of
  F_are_letters : FunD K "are_letters" "are_letters" (defArgs (top 16)) (defBody (top 16)) (defScope (top 16)) [] [] (He.fAd K ("are_letters", none)) E.d_are_letters
  F_is_name : FunD K "is_name" "is_name" (defArgs (top 15)) (defBody (top 15)) (defScope (top 15)) [] [] (He.fAd K ("is_name", none)) E.d_is_name
  F_is_times : FunD K "is_times" "is_times" (defArgs (top 17)) (defBody (top 17)) (defScope (top 17)) [] [] (He.fAd K ("is_times", none)) E.d_is_times
  F_HallError_init : FunD K "__init__" "HallError.__init__" (defArgs (clsDef (top 1) 0)) (defBody (clsDef (top 1) 0)) (defScope (clsDef (top 1) 0)) [] [] (He.fAd K ("HallError", some "__init__")) E.d_HallError_init
  F_Missing_init : FunD K "__init__" "Missing.__init__" (defArgs (clsDef (top 2) 0)) (defBody (clsDef (top 2) 0)) (defScope (clsDef (top 2) 0)) [] [] (He.fAd K ("Missing", some "__init__")) E.d_Missing_init
  F_BadTree_init : FunD K "__init__" "BadTree.__init__" (defArgs (clsDef (top 3) 0)) (defBody (clsDef (top 3) 0)) (defScope (clsDef (top 3) 0)) [] [] (He.fAd K ("BadTree", some "__init__")) E.d_BadTree_init
  F_Ring_init : FunD K "__init__" "Ring.__init__" (defArgs (clsDef (top 4) 0)) (defBody (clsDef (top 4) 0)) (defScope (clsDef (top 4) 0)) [] [] (He.fAd K ("Ring", some "__init__")) E.d_Ring_init
  F_TooMany_init : FunD K "__init__" "TooMany.__init__" (defArgs (clsDef (top 5) 0)) (defBody (clsDef (top 5) 0)) (defScope (clsDef (top 5) 0)) [] [] (He.fAd K ("TooMany", some "__init__")) E.d_TooMany_init
  F_NoRow_init : FunD K "__init__" "NoRow.__init__" (defArgs (clsDef (top 6) 0)) (defBody (clsDef (top 6) 0)) (defScope (clsDef (top 6) 0)) [] [] (He.fAd K ("NoRow", some "__init__")) E.d_NoRow_init
  m_law_start : mg "_law_start" = some (.ref (He.fAd K ("_law_start", none)))
  m_law_names : mg "_law_names" = some (.ref (He.fAd K ("_law_names", none)))
  n_range : mg "range" = none
  m_law_tower : mg "_law_tower" = some (.ref (He.fAd K ("_law_tower", none)))
  m_law_count : mg "_law_count" = some (.ref (He.fAd K ("_law_count", none)))
  w_law_law_told : ctB K (He.ga K "TooMany") [(He.ga K "TooMany", true)] = true
  u_law_law_told : xfAll K [(He.ga K "TooMany", true)] ["most"] = true
  m_law_told : mg "_law_told" = some (.ref (He.fAd K ("_law_told", none)))
  g_TooMany : mg "TooMany" = some (.ref (He.ga K "TooMany"))
  m_many_done : mg "many_done" = some (.ref (He.fAd K ("many_done", none)))
  m_law_same : mg "_law_same" = some (.ref (He.fAd K ("_law_same", none)))
  m_spelled : mg "spelled" = some (.ref (He.fAd K ("spelled", none)))
  m_law_draw : mg "_law_draw" = some (.ref (He.fAd K ("_law_draw", none)))
  n_min : mg "min" = none
  n_max : mg "max" = none
  n_list : mg "list" = none
  n_isinstance : mg "isinstance" = none
  n_len : mg "len" = none
  m_law_flat_tree : mg "_law_flat_tree" = some (.ref (He.fAd K ("_law_flat_tree", none)))
  i_MOST_DONE : ∃ t, mg "MOST_DONE" = some (.int 1000000000000000000000000000000000000000000000000000000000000 t)
  i_MOST_LISTED : ∃ t, mg "MOST_LISTED" = some (.int 400 t)
  m_law_letters : mg "_law_letters" = some (.ref (He.fAd K ("_law_letters", none)))
  m_law_of : mg "_law_of" = some (.ref (He.fAd K ("_law_of", none)))
  m_law_number : mg "_law_number" = some (.ref (He.fAd K ("_law_number", none)))
  m_look_row : mg "look_row" = some (.ref (He.fAd K ("look_row", none)))
  k_Counter : Mk K (He.ga K "Counter") (He.fAd K ("Counter", some "__init__"))
  g_Counter : mg "Counter" = some (.ref (He.ga K "Counter"))
  c_Counter : Cls K (He.ga K "Counter")
  h_Counter_of_row : Meth K (He.ga K "Counter") "of_row" (He.fAd K ("Counter", some "of_row"))
  n_tuple : mg "tuple" = none
  n_all : mg "all" = none
  n_bool : mg "bool" = none
  n_str : mg "str" = none
  o_TooMany : OexI K (He.ga K "TooMany") (He.fAd K ("TooMany", some "__init__")) E.d_TooMany_init ["self", "most"] ["most", "word"]
  h_Counter_set_out : Meth K (He.ga K "Counter") "set_out" (He.fAd K ("Counter", some "set_out"))
  m_is_row : mg "is_row" = some (.ref (He.fAd K ("is_row", none)))
  o_BadTree : OexI K (He.ga K "BadTree") (He.fAd K ("BadTree", some "__init__")) E.d_BadTree_init ["self"] ["word"]
  g_BadTree : mg "BadTree" = some (.ref (He.ga K "BadTree"))
  a_Counter_book : NoAttr K (He.ga K "Counter") "book"
  a_Counter_known : NoAttr K (He.ga K "Counter") "known"
  a_Counter_open_names : NoAttr K (He.ga K "Counter") "open_names"
  h_Counter_of_step : Meth K (He.ga K "Counter") "of_step" (He.fAd K ("Counter", some "of_step"))
  m_is_built : mg "is_built" = some (.ref (He.fAd K ("is_built", none)))
  m_many_steps : mg "many_steps" = some (.ref (He.fAd K ("many_steps", none)))
  i_MOST_STEPS : ∃ t, mg "MOST_STEPS" = some (.int 60 t)
  m_deep_of : mg "deep_of" = some (.ref (He.fAd K ("deep_of", none)))
  i_MOST_DEEP : ∃ t, mg "MOST_DEEP" = some (.int 12 t)
  h_Counter_of_name : Meth K (He.ga K "Counter") "of_name" (He.fAd K ("Counter", some "of_name"))
  m_is_step : mg "is_step" = some (.ref (He.fAd K ("is_step", none)))
  n_sum : mg "sum" = none
  m_row_of : mg "row_of" = some (.ref (He.fAd K ("row_of", none)))
  o_Ring : OexI K (He.ga K "Ring") (He.fAd K ("Ring", some "__init__")) E.d_Ring_init ["self", "name"] ["name", "word"]
  g_Ring : mg "Ring" = some (.ref (He.ga K "Ring"))
  m_are_letters : mg "are_letters" = some (.ref (He.fAd K ("are_letters", none)))
  m_is_name : mg "is_name" = some (.ref (He.fAd K ("is_name", none)))
  m_is_times : mg "is_times" = some (.ref (He.fAd K ("is_times", none)))
  o_NoRow : OexIX K (He.ga K "NoRow") (He.fAd K ("NoRow", some "__init__")) E.d_NoRow_init ["self", "name"] ["name", "word"] 1
  g_NoRow : mg "NoRow" = some (.ref (He.ga K "NoRow"))
  i_MOST_SIDES : ∃ t, mg "MOST_SIDES" = some (.int 12 t)
  s_LETTERS : ∃ t, mg "LETTERS" = some (.str "abcdefghijklmnopqrstuvwxyzABCDEFGHIJKLMNOPQRSTUVWXYZ" t)
  i_MOST_NAME : ∃ t, mg "MOST_NAME" = some (.int 8 t)
  s_SMALL : ∃ t, mg "SMALL" = some (.str "abcdefghijklmnopqrstuvwxyz" t)
  n_int : mg "int" = none
  i_MOST_TIMES : ∃ t, mg "MOST_TIMES" = some (.int 1000000000000000000000000000000 t)
  n_ValueError : mg "ValueError" = none
  v_VE : PySem.W.findCls K (.type "ValueError") (.type "type") "__init__" = some (.val (.builtin "ValueError.__init__"))
  n_LookupError : mg "LookupError" = none
  v_LookupError : PySem.W.findCls K (.type "LookupError") (.type "type") "__init__" = some (.val (.builtin "LookupError.__init__"))
  g_HallError : mg "HallError" = some (.ref (He.ga K "HallError"))
  r_HallError : ClX.CRead K (He.ga K "HallError") (.type "type") ∧ ClX.CVal K (He.ga K "HallError") (.type "type") "__init__" (.ref (He.fAd K ("HallError", some "__init__"))) (.ref (He.fAd K ("HallError", some "__init__")))
  g_Missing : mg "Missing" = some (.ref (He.ga K "Missing"))
  r_Missing : ClX.CRead K (He.ga K "Missing") (.type "type") ∧ ClX.CVal K (He.ga K "Missing") (.type "type") "__init__" (.ref (He.fAd K ("Missing", some "__init__"))) (.ref (He.fAd K ("Missing", some "__init__")))
  m_law : mg "law" = some (.ref (He.fAd K ("law", none)))
theorem sc_law : FnScope ["_law_script", "_law_d", "_law_names_here", "_law_book_it", "_law_k", "_law_name", "_law_tree", "_law_due", "_law_told_here", "_law_most_it", "_law_found", "_law_long", "_law_more"] ["_law_script"] (defScope (top 43)) := ⟨rfl, rfl, rfl, by decide +kernel, rfl, by decide +kernel, by decide +kernel⟩
theorem sc_law_start : FnScope ["_law_script", "_law_seed", "_law_cell"] ["_law_script"] (defScope (top 33)) := ⟨rfl, rfl, rfl, by decide +kernel, rfl, by decide +kernel, by decide +kernel⟩
theorem sc_law_names : FnScope ["_law_d", "_law_many", "_law_stem", "_law_spot", "_law_start_here", "_law_k"] ["_law_d", "_law_many"] (defScope (top 38)) := ⟨rfl, rfl, rfl, by decide +kernel, rfl, by decide +kernel, by decide +kernel⟩
theorem sc_law_tower : FnScope ["_law_d", "_law_names_here", "_law_k", "_law_steps", "_law_turn", "_law_how", "_law_tree"] ["_law_d", "_law_names_here", "_law_k"] (defScope (top 41)) := ⟨rfl, rfl, rfl, by decide +kernel, rfl, by decide +kernel, by decide +kernel⟩
theorem sc_law_count : FnScope ["_law_book_it", "_law_known", "_law_tree", "_law_many", "_law_step", "_law_inner"] ["_law_book_it", "_law_known", "_law_tree"] (defScope (top 40)) := ⟨rfl, rfl, rfl, by decide +kernel, rfl, by decide +kernel, by decide +kernel⟩
theorem sc_law_told : FnScope ["_law_ask", "_law_found", "e"] ["_law_ask"] (defScope (top 42)) := ⟨rfl, rfl, rfl, by decide +kernel, rfl, by decide +kernel, by decide +kernel⟩
theorem sc_many_done : FnScope ["tree", "book"] ["tree", "book"] (defScope (top 29)) := ⟨rfl, rfl, rfl, by decide +kernel, rfl, by decide +kernel, by decide +kernel⟩
theorem sc_law_same : FnScope ["_law_x", "_law_due", "_law_k"] ["_law_x", "_law_due"] (defScope (top 32)) := ⟨rfl, rfl, rfl, by decide +kernel, rfl, by decide +kernel, by decide +kernel⟩
theorem sc_spelled : FnScope ["tree", "book", "most", "counter"] ["tree", "book", "most"] (defScope (top 30)) := ⟨rfl, rfl, rfl, by decide +kernel, rfl, by decide +kernel, by decide +kernel⟩
theorem sc_law_draw : FnScope ["_law_d", "_law_many", "_law_cell", "_law_digit", "_law_mix"] ["_law_d", "_law_many"] (defScope (top 34)) := ⟨rfl, rfl, rfl, by decide +kernel, rfl, by decide +kernel, by decide +kernel⟩
theorem sc_law_flat_tree : FnScope ["_law_steps"] ["_law_steps"] (defScope (top 39)) := ⟨rfl, rfl, rfl, by decide +kernel, rfl, by decide +kernel, by decide +kernel⟩
theorem sc_law_letters : FnScope [] [] (defScope (top 36)) := ⟨rfl, rfl, rfl, by decide +kernel, rfl, by decide +kernel, by decide +kernel⟩
theorem sc_law_of : FnScope ["_law_d", "_law_some"] ["_law_d", "_law_some"] (defScope (top 35)) := ⟨rfl, rfl, rfl, by decide +kernel, rfl, by decide +kernel, by decide +kernel⟩
theorem sc_law_number : FnScope ["_law_d"] ["_law_d"] (defScope (top 37)) := ⟨rfl, rfl, rfl, by decide +kernel, rfl, by decide +kernel, by decide +kernel⟩
theorem sc_look_row : FnScope ["tree"] ["tree"] (defScope (top 23)) := ⟨rfl, rfl, rfl, by decide +kernel, rfl, by decide +kernel, by decide +kernel⟩
theorem sc_Counter_init : FnScope ["self", "book"] ["self", "book"] (defScope (clsDef (top 28) 0)) := ⟨rfl, rfl, rfl, by decide +kernel, rfl, by decide +kernel, by decide +kernel⟩
theorem sc_Counter_of_row : FnScope ["self", "tree", "found", "step"] ["self", "tree"] (defScope (clsDef (top 28) 3)) := ⟨rfl, rfl, rfl, by decide +kernel, rfl, by decide +kernel, by decide +kernel⟩
theorem sc_Counter_set_out : FnScope ["self", "tree", "found", "step"] ["self", "tree"] (defScope (clsDef (top 28) 4)) := ⟨rfl, rfl, rfl, by decide +kernel, rfl, by decide +kernel, by decide +kernel⟩
theorem sc_is_row : FnScope ["tree"] ["tree"] (defScope (top 22)) := ⟨rfl, rfl, rfl, by decide +kernel, rfl, by decide +kernel, by decide +kernel⟩
theorem sc_Counter_of_step : FnScope ["self", "step"] ["self", "step"] (defScope (clsDef (top 28) 2)) := ⟨rfl, rfl, rfl, by decide +kernel, rfl, by decide +kernel, by decide +kernel⟩
theorem sc_is_built : FnScope ["tree", "step"] ["tree"] (defScope (top 19)) := ⟨rfl, rfl, rfl, by decide +kernel, rfl, by decide +kernel, by decide +kernel⟩
theorem sc_many_steps : FnScope ["tree", "inner", "step"] ["tree"] (defScope (top 20)) := ⟨rfl, rfl, rfl, by decide +kernel, rfl, by decide +kernel, by decide +kernel⟩
theorem sc_deep_of : FnScope ["tree", "step"] ["tree"] (defScope (top 21)) := ⟨rfl, rfl, rfl, by decide +kernel, rfl, by decide +kernel, by decide +kernel⟩
theorem sc_Counter_of_name : FnScope ["self", "name", "tree"] ["self", "name"] (defScope (clsDef (top 28) 1)) := ⟨rfl, rfl, rfl, by decide +kernel, rfl, by decide +kernel, by decide +kernel⟩
theorem sc_is_step : FnScope ["tree"] ["tree"] (defScope (top 18)) := ⟨rfl, rfl, rfl, by decide +kernel, rfl, by decide +kernel, by decide +kernel⟩
theorem sc_row_of : FnScope ["book", "name"] ["book", "name"] (defScope (top 27)) := ⟨rfl, rfl, rfl, by decide +kernel, rfl, by decide +kernel, by decide +kernel⟩
theorem sc_are_letters : FnScope ["text", "least", "sign"] ["text", "least"] (defScope (top 16)) := ⟨rfl, rfl, rfl, by decide +kernel, rfl, by decide +kernel, by decide +kernel⟩
theorem sc_is_name : FnScope ["name", "sign"] ["name"] (defScope (top 15)) := ⟨rfl, rfl, rfl, by decide +kernel, rfl, by decide +kernel, by decide +kernel⟩
theorem sc_is_times : FnScope ["many"] ["many"] (defScope (top 17)) := ⟨rfl, rfl, rfl, by decide +kernel, rfl, by decide +kernel, by decide +kernel⟩
theorem sc_HallError_init : FnScope ["self", "word"] ["self", "word"] (defScope (clsDef (top 1) 0)) := ⟨rfl, rfl, rfl, by decide +kernel, rfl, by decide +kernel, by decide +kernel⟩
theorem sc_Missing_init : FnScope ["self", "word"] ["self", "word"] (defScope (clsDef (top 2) 0)) := ⟨rfl, rfl, rfl, by decide +kernel, rfl, by decide +kernel, by decide +kernel⟩
theorem sc_BadTree_init : FnScope ["self"] ["self"] (defScope (clsDef (top 3) 0)) := ⟨rfl, rfl, rfl, by decide +kernel, rfl, by decide +kernel, by decide +kernel⟩
theorem sc_Ring_init : FnScope ["self", "name"] ["self", "name"] (defScope (clsDef (top 4) 0)) := ⟨rfl, rfl, rfl, by decide +kernel, rfl, by decide +kernel, by decide +kernel⟩
theorem sc_TooMany_init : FnScope ["self", "most"] ["self", "most"] (defScope (clsDef (top 5) 0)) := ⟨rfl, rfl, rfl, by decide +kernel, rfl, by decide +kernel, by decide +kernel⟩
theorem sc_NoRow_init : FnScope ["self", "name"] ["self", "name"] (defScope (clsDef (top 6) 0)) := ⟨rfl, rfl, rfl, by decide +kernel, rfl, by decide +kernel, by decide +kernel⟩
section
variable {P : Program} {w : World} {K : PySem.W.Frag} {mg : Str → Option Value} {base : Heap} {E : Fds} {k : Nat}
theorem bb_law_start {fd : FuncData} {kws : List (Str × V)} {f : Addr} (F : FunD K "_law_start" "_law_start" (defArgs (top 33)) (defBody (top 33)) (defScope (top 33)) [] kws f fd) : Binds K fd ["_law_script"] [] := F.bindsN fun _ _ _ _ _ _ us hl => match us, hl with | [_], _ => rfl
theorem b_law_start (x : Fx K mg E) : Binds K E.d_law_start ["_law_script"] [] := bb_law_start x.F_law_start
theorem bb_law_names {fd : FuncData} {kws : List (Str × V)} {f : Addr} (F : FunD K "_law_names" "_law_names" (defArgs (top 38)) (defBody (top 38)) (defScope (top 38)) [] kws f fd) : Binds K fd ["_law_d", "_law_many"] [] := F.bindsN fun _ _ _ _ _ _ us hl => match us, hl with | [_, _], _ => rfl
theorem b_law_names (x : Fx K mg E) : Binds K E.d_law_names ["_law_d", "_law_many"] [] := bb_law_names x.F_law_names
theorem bb_law_tower {fd : FuncData} {kws : List (Str × V)} {f : Addr} (F : FunD K "_law_tower" "_law_tower" (defArgs (top 41)) (defBody (top 41)) (defScope (top 41)) [] kws f fd) : Binds K fd ["_law_d", "_law_names_here", "_law_k"] [] := F.bindsN fun _ _ _ _ _ _ us hl => match us, hl with | [_, _, _], _ => rfl
theorem b_law_tower (x : Fx K mg E) : Binds K E.d_law_tower ["_law_d", "_law_names_here", "_law_k"] [] := bb_law_tower x.F_law_tower
theorem bb_law_count {fd : FuncData} {kws : List (Str × V)} {f : Addr} (F : FunD K "_law_count" "_law_count" (defArgs (top 40)) (defBody (top 40)) (defScope (top 40)) [] kws f fd) : Binds K fd ["_law_book_it", "_law_known", "_law_tree"] [] := F.bindsN fun _ _ _ _ _ _ us hl => match us, hl with | [_, _, _], _ => rfl
theorem b_law_count (x : Fx K mg E) : Binds K E.d_law_count ["_law_book_it", "_law_known", "_law_tree"] [] := bb_law_count x.F_law_count
theorem bb_law_told {fd : FuncData} {kws : List (Str × V)} {f : Addr} (F : FunD K "_law_told" "_law_told" (defArgs (top 42)) (defBody (top 42)) (defScope (top 42)) [] kws f fd) : Binds K fd ["_law_ask"] [] := F.bindsN fun _ _ _ _ _ _ us hl => match us, hl with | [_], _ => rfl
theorem b_law_told (x : Fx K mg E) : Binds K E.d_law_told ["_law_ask"] [] := bb_law_told x.F_law_told
theorem bb_law_same {fd : FuncData} {kws : List (Str × V)} {f : Addr} (F : FunD K "_law_same" "_law_same" (defArgs (top 32)) (defBody (top 32)) (defScope (top 32)) [] kws f fd) : Binds K fd ["_law_x", "_law_due"] [] := F.bindsN fun _ _ _ _ _ _ us hl => match us, hl with | [_, _], _ => rfl
theorem b_law_same (x : Fx K mg E) : Binds K E.d_law_same ["_law_x", "_law_due"] [] := bb_law_same x.F_law_same
theorem bb_law_draw {fd : FuncData} {kws : List (Str × V)} {f : Addr} (F : FunD K "_law_draw" "_law_draw" (defArgs (top 34)) (defBody (top 34)) (defScope (top 34)) [] kws f fd) : Binds K fd ["_law_d", "_law_many"] [] := F.bindsN fun _ _ _ _ _ _ us hl => match us, hl with | [_, _], _ => rfl
theorem b_law_draw (x : Fx K mg E) : Binds K E.d_law_draw ["_law_d", "_law_many"] [] := bb_law_draw x.F_law_draw
theorem bb_law_flat_tree {fd : FuncData} {kws : List (Str × V)} {f : Addr} (F : FunD K "_law_flat_tree" "_law_flat_tree" (defArgs (top 39)) (defBody (top 39)) (defScope (top 39)) [] kws f fd) : Binds K fd ["_law_steps"] [] := F.bindsN fun _ _ _ _ _ _ us hl => match us, hl with | [_], _ => rfl
theorem b_law_flat_tree (x : Fx K mg E) : Binds K E.d_law_flat_tree ["_law_steps"] [] := bb_law_flat_tree x.F_law_flat_tree
theorem bb_law_letters {fd : FuncData} {kws : List (Str × V)} {f : Addr} (F : FunD K "_law_letters" "_law_letters" (defArgs (top 36)) (defBody (top 36)) (defScope (top 36)) [] kws f fd) : Binds K fd [] [] := F.bindsN fun _ _ _ _ _ _ us hl => match us, hl with | [], _ => rfl
theorem b_law_letters (x : Fx K mg E) : Binds K E.d_law_letters [] [] := bb_law_letters x.F_law_letters
theorem bb_law_of {fd : FuncData} {kws : List (Str × V)} {f : Addr} (F : FunD K "_law_of" "_law_of" (defArgs (top 35)) (defBody (top 35)) (defScope (top 35)) [] kws f fd) : Binds K fd ["_law_d", "_law_some"] [] := F.bindsN fun _ _ _ _ _ _ us hl => match us, hl with | [_, _], _ => rfl
theorem b_law_of (x : Fx K mg E) : Binds K E.d_law_of ["_law_d", "_law_some"] [] := bb_law_of x.F_law_of
theorem bb_law_number {fd : FuncData} {kws : List (Str × V)} {f : Addr} (F : FunD K "_law_number" "_law_number" (defArgs (top 37)) (defBody (top 37)) (defScope (top 37)) [] kws f fd) : Binds K fd ["_law_d"] [] := F.bindsN fun _ _ _ _ _ _ us hl => match us, hl with | [_], _ => rfl
theorem b_law_number (x : Fx K mg E) : Binds K E.d_law_number ["_law_d"] [] := bb_law_number x.F_law_number
theorem bb_look_row {fd : FuncData} {kws : List (Str × V)} {f : Addr} (F : FunD K "look_row" "look_row" (defArgs (top 23)) (defBody (top 23)) (defScope (top 23)) [] kws f fd) : Binds K fd ["tree"] [] := F.bindsN fun _ _ _ _ _ _ us hl => match us, hl with | [_], _ => rfl
theorem b_look_row (x : Fx K mg E) : Binds K E.d_look_row ["tree"] [] := bb_look_row x.F_look_row
theorem bb_Counter_init {fd : FuncData} {kws : List (Str × V)} {f : Addr} (F : FunD K "__init__" "Counter.__init__" (defArgs (clsDef (top 28) 0)) (defBody (clsDef (top 28) 0)) (defScope (clsDef (top 28) 0)) [] kws f fd) : Binds K fd ["self", "book"] [] := F.bindsN fun _ _ _ _ _ _ us hl => match us, hl with | [_, _], _ => rfl
theorem b_Counter_init (x : Fx K mg E) : Binds K E.d_Counter_init ["self", "book"] [] := bb_Counter_init x.F_Counter_init
theorem bb_Counter_of_row {fd : FuncData} {kws : List (Str × V)} {f : Addr} (F : FunD K "of_row" "Counter.of_row" (defArgs (clsDef (top 28) 3)) (defBody (clsDef (top 28) 3)) (defScope (clsDef (top 28) 3)) [] kws f fd) : Binds K fd ["self", "tree"] [] := F.bindsN fun _ _ _ _ _ _ us hl => match us, hl with | [_, _], _ => rfl
theorem b_Counter_of_row (x : Fx K mg E) : Binds K E.d_Counter_of_row ["self", "tree"] [] := bb_Counter_of_row x.F_Counter_of_row
theorem bb_Counter_set_out {fd : FuncData} {kws : List (Str × V)} {f : Addr} (F : FunD K "set_out" "Counter.set_out" (defArgs (clsDef (top 28) 4)) (defBody (clsDef (top 28) 4)) (defScope (clsDef (top 28) 4)) [] kws f fd) : Binds K fd ["self", "tree"] [] := F.bindsN fun _ _ _ _ _ _ us hl => match us, hl with | [_, _], _ => rfl
theorem b_Counter_set_out (x : Fx K mg E) : Binds K E.d_Counter_set_out ["self", "tree"] [] := bb_Counter_set_out x.F_Counter_set_out
theorem bb_is_row {fd : FuncData} {kws : List (Str × V)} {f : Addr} (F : FunD K "is_row" "is_row" (defArgs (top 22)) (defBody (top 22)) (defScope (top 22)) [] kws f fd) : Binds K fd ["tree"] [] := F.bindsN fun _ _ _ _ _ _ us hl => match us, hl with | [_], _ => rfl
theorem b_is_row (x : Fx K mg E) : Binds K E.d_is_row ["tree"] [] := bb_is_row x.F_is_row
theorem bb_Counter_of_step {fd : FuncData} {kws : List (Str × V)} {f : Addr} (F : FunD K "of_step" "Counter.of_step" (defArgs (clsDef (top 28) 2)) (defBody (clsDef (top 28) 2)) (defScope (clsDef (top 28) 2)) [] kws f fd) : Binds K fd ["self", "step"] [] := F.bindsN fun _ _ _ _ _ _ us hl => match us, hl with | [_, _], _ => rfl
theorem b_Counter_of_step (x : Fx K mg E) : Binds K E.d_Counter_of_step ["self", "step"] [] := bb_Counter_of_step x.F_Counter_of_step
theorem bb_is_built {fd : FuncData} {kws : List (Str × V)} {f : Addr} (F : FunD K "is_built" "is_built" (defArgs (top 19)) (defBody (top 19)) (defScope (top 19)) [] kws f fd) : Binds K fd ["tree"] [] := F.bindsN fun _ _ _ _ _ _ us hl => match us, hl with | [_], _ => rfl
theorem b_is_built (x : Fx K mg E) : Binds K E.d_is_built ["tree"] [] := bb_is_built x.F_is_built
theorem bb_many_steps {fd : FuncData} {kws : List (Str × V)} {f : Addr} (F : FunD K "many_steps" "many_steps" (defArgs (top 20)) (defBody (top 20)) (defScope (top 20)) [] kws f fd) : Binds K fd ["tree"] [] := F.bindsN fun _ _ _ _ _ _ us hl => match us, hl with | [_], _ => rfl
theorem b_many_steps (x : Fx K mg E) : Binds K E.d_many_steps ["tree"] [] := bb_many_steps x.F_many_steps
theorem bb_deep_of {fd : FuncData} {kws : List (Str × V)} {f : Addr} (F : FunD K "deep_of" "deep_of" (defArgs (top 21)) (defBody (top 21)) (defScope (top 21)) [] kws f fd) : Binds K fd ["tree"] [] := F.bindsN fun _ _ _ _ _ _ us hl => match us, hl with | [_], _ => rfl
theorem b_deep_of (x : Fx K mg E) : Binds K E.d_deep_of ["tree"] [] := bb_deep_of x.F_deep_of
theorem bb_Counter_of_name {fd : FuncData} {kws : List (Str × V)} {f : Addr} (F : FunD K "of_name" "Counter.of_name" (defArgs (clsDef (top 28) 1)) (defBody (clsDef (top 28) 1)) (defScope (clsDef (top 28) 1)) [] kws f fd) : Binds K fd ["self", "name"] [] := F.bindsN fun _ _ _ _ _ _ us hl => match us, hl with | [_, _], _ => rfl
theorem b_Counter_of_name (x : Fx K mg E) : Binds K E.d_Counter_of_name ["self", "name"] [] := bb_Counter_of_name x.F_Counter_of_name
theorem bb_is_step {fd : FuncData} {kws : List (Str × V)} {f : Addr} (F : FunD K "is_step" "is_step" (defArgs (top 18)) (defBody (top 18)) (defScope (top 18)) [] kws f fd) : Binds K fd ["tree"] [] := F.bindsN fun _ _ _ _ _ _ us hl => match us, hl with | [_], _ => rfl
theorem b_is_step (x : Fx K mg E) : Binds K E.d_is_step ["tree"] [] := bb_is_step x.F_is_step
theorem bb_row_of {fd : FuncData} {kws : List (Str × V)} {f : Addr} (F : FunD K "row_of" "row_of" (defArgs (top 27)) (defBody (top 27)) (defScope (top 27)) [] kws f fd) : Binds K fd ["book", "name"] [] := F.bindsN fun _ _ _ _ _ _ us hl => match us, hl with | [_, _], _ => rfl
theorem b_row_of (x : Fx K mg E) : Binds K E.d_row_of ["book", "name"] [] := bb_row_of x.F_row_of
theorem bb_are_letters {fd : FuncData} {kws : List (Str × V)} {f : Addr} (F : FunD K "are_letters" "are_letters" (defArgs (top 16)) (defBody (top 16)) (defScope (top 16)) [] kws f fd) : Binds K fd ["text", "least"] [] := F.bindsN fun _ _ _ _ _ _ us hl => match us, hl with | [_, _], _ => rfl
theorem b_are_letters (x : Fx K mg E) : Binds K E.d_are_letters ["text", "least"] [] := bb_are_letters x.F_are_letters
theorem bb_is_name {fd : FuncData} {kws : List (Str × V)} {f : Addr} (F : FunD K "is_name" "is_name" (defArgs (top 15)) (defBody (top 15)) (defScope (top 15)) [] kws f fd) : Binds K fd ["name"] [] := F.bindsN fun _ _ _ _ _ _ us hl => match us, hl with | [_], _ => rfl
theorem b_is_name (x : Fx K mg E) : Binds K E.d_is_name ["name"] [] := bb_is_name x.F_is_name
theorem bb_is_times {fd : FuncData} {kws : List (Str × V)} {f : Addr} (F : FunD K "is_times" "is_times" (defArgs (top 17)) (defBody (top 17)) (defScope (top 17)) [] kws f fd) : Binds K fd ["many"] [] := F.bindsN fun _ _ _ _ _ _ us hl => match us, hl with | [_], _ => rfl
theorem b_is_times (x : Fx K mg E) : Binds K E.d_is_times ["many"] [] := bb_is_times x.F_is_times
theorem bb_HallError_init {fd : FuncData} {kws : List (Str × V)} {f : Addr} (F : FunD K "__init__" "HallError.__init__" (defArgs (clsDef (top 1) 0)) (defBody (clsDef (top 1) 0)) (defScope (clsDef (top 1) 0)) [] kws f fd) : Binds K fd ["self", "word"] [] := F.bindsN fun _ _ _ _ _ _ us hl => match us, hl with | [_, _], _ => rfl
theorem b_HallError_init (x : Fx K mg E) : Binds K E.d_HallError_init ["self", "word"] [] := bb_HallError_init x.F_HallError_init
theorem bb_Missing_init {fd : FuncData} {kws : List (Str × V)} {f : Addr} (F : FunD K "__init__" "Missing.__init__" (defArgs (clsDef (top 2) 0)) (defBody (clsDef (top 2) 0)) (defScope (clsDef (top 2) 0)) [] kws f fd) : Binds K fd ["self", "word"] [] := F.bindsN fun _ _ _ _ _ _ us hl => match us, hl with | [_, _], _ => rfl
theorem b_Missing_init (x : Fx K mg E) : Binds K E.d_Missing_init ["self", "word"] [] := bb_Missing_init x.F_Missing_init
theorem bb_BadTree_init {fd : FuncData} {kws : List (Str × V)} {f : Addr} (F : FunD K "__init__" "BadTree.__init__" (defArgs (clsDef (top 3) 0)) (defBody (clsDef (top 3) 0)) (defScope (clsDef (top 3) 0)) [] kws f fd) : Binds K fd ["self"] [] := F.bindsN fun _ _ _ _ _ _ us hl => match us, hl with | [_], _ => rfl
theorem bb_Ring_init {fd : FuncData} {kws : List (Str × V)} {f : Addr} (F : FunD K "__init__" "Ring.__init__" (defArgs (clsDef (top 4) 0)) (defBody (clsDef (top 4) 0)) (defScope (clsDef (top 4) 0)) [] kws f fd) : Binds K fd ["self", "name"] [] := F.bindsN fun _ _ _ _ _ _ us hl => match us, hl with | [_, _], _ => rfl
theorem bb_TooMany_init {fd : FuncData} {kws : List (Str × V)} {f : Addr} (F : FunD K "__init__" "TooMany.__init__" (defArgs (clsDef (top 5) 0)) (defBody (clsDef (top 5) 0)) (defScope (clsDef (top 5) 0)) [] kws f fd) : Binds K fd ["self", "most"] [] := F.bindsN fun _ _ _ _ _ _ us hl => match us, hl with | [_, _], _ => rfl
theorem bb_NoRow_init {fd : FuncData} {kws : List (Str × V)} {f : Addr} (F : FunD K "__init__" "NoRow.__init__" (defArgs (clsDef (top 6) 0)) (defBody (clsDef (top 6) 0)) (defScope (clsDef (top 6) 0)) [] kws f fd) : Binds K fd ["self", "name"] [] := F.bindsN fun _ _ _ _ _ _ us hl => match us, hl with | [_, _], _ => rfl
theorem kbx_many_done_book (x : Fx K mg E) : ∃ mv : List Value, KBn K E.d_many_done ["tree", "book"] 1 ["book"] (fun us ws => (fun {α : Type} (vs ms ws : List α) => vs ++ ws ++ ms) us mv ws) (fun vs zs => (fun {α : Type} (vs ms ws : List α) => vs ++ ws ++ ms) vs [] zs) :=
  ⟨[], kbindsP x.F_many_done (fun a c => (a.append c).append .nil) fun _ _ _ _ _ _ us ws l1 l2 => match us, ws, l1, l2 with
    | [_], [_], _, _ => rfl⟩
theorem gr_many_done_book : GRel gD_many_done_book (fun vs zs => vs ++ zs ++ []) := gr_end (dD := []) (dV := []) fun _ _ => Reps.nil
theorem kbx_spelled_book_most (x : Fx K mg E) : ∃ mv : List Value, KBn K E.d_spelled ["tree", "book", "most"] 1 ["book", "most"] (fun us ws => (fun {α : Type} (vs ms ws : List α) => vs ++ ws ++ ms) us mv ws) (fun vs zs => (fun {α : Type} (vs ms ws : List α) => vs ++ ws ++ ms) vs [] zs) :=
  ⟨[], kbindsP x.F_spelled (fun a c => (a.append c).append .nil) fun _ _ _ _ _ _ us ws l1 l2 => match us, ws, l1, l2 with
    | [_], [_, _], _, _ => rfl⟩
theorem gr_spelled_book_most : GRel gD_spelled_book_most (fun vs zs => vs ++ zs ++ []) := gr_end (dD := []) (dV := []) fun _ _ => Reps.nil
theorem bd_spelled (x : Fx K mg E) : ∃ ds, Vals [V.non, V.int 400] ds ∧ Binds K E.d_spelled ["tree", "book", "most"] ds := x.F_spelled.binds0 1 (by simp) rfl fun D doc pm an cdv ct us ks l1 l2 => match us, ks, l1, l2 with | [_], [_, _], _, _ => ⟨_, _, _, _, _, _, rfl, rfl, ⟨_, _, _, _, _, _, rfl, rfl, rfl⟩⟩
abbrev gv_HallError : List V → List V := fun ws => ws
theorem grx_HallError : GRX gx_HallError gv_HallError := ⟨fun r => r⟩
theorem i_HallError_init (x : Fx K mg E) (hk : 1 ≤ k) : FnOk P w K mg base (L2.CX P w) k (He.fAd K ("HallError", some "__init__")) E.d_HallError_init ["self", "word"] (spI K 1 ["word"] gv_HallError) := by
  obtain ⟨k, rfl⟩ : ∃ j, k = j + 1 := ⟨k - 1, by omega⟩
  exact init_of x.F_HallError_init sc_HallError_init rfl (fun cdv A outer s H E hr => pss_cons (ps_expr (pe_veinit (by rfl) x.n_ValueError x.v_VE (pa_cons (pe_var (i := 0) rfl (Or.inl rfl)) (pa_cons (pe_var (i := 1) rfl (Or.inl rfl)) pa_nil)))) (pss_one (ps_ost (pe_var (i := 0) rfl (Or.inl rfl)) (pe_var (i := 1) rfl (Or.inl rfl))))) (fun vs H Q E h => shapeR h)
abbrev gv_Missing : List V → List V := fun ws => ws
theorem grx_Missing : GRX gx_Missing gv_Missing := ⟨fun r => r⟩
theorem i_Missing_init (x : Fx K mg E) (hk : 1 ≤ k) : FnOk P w K mg base (L2.CX P w) k (He.fAd K ("Missing", some "__init__")) E.d_Missing_init ["self", "word"] (spIX K 1 ["word"] gv_Missing 1) := by
  obtain ⟨k, rfl⟩ : ∃ j, k = j + 1 := ⟨k - 1, by omega⟩
  exact init_ofX x.F_Missing_init sc_Missing_init rfl (fun cdv A outer s H E hr => pss_cons (ps_expr (pe_binit 1 (by rfl) x.n_LookupError x.v_LookupError PyProof.Rows.Boot.«LookupError» (by kernel_rfl) (pa_cons (pe_var (i := 0) rfl (Or.inl rfl)) (pa_cons (pe_var (i := 1) rfl (Or.inl rfl)) pa_nil)))) (pss_one (ps_osx (pe_var (i := 0) rfl (Or.inl rfl)) (pe_var (i := 1) rfl (Or.inl rfl))))) (fun vs H Q E h => shapeRX h)
abbrev gv_BadTree : List V → List V := fun _ => gv_HallError [V.str "badtree"]
theorem grx_BadTree : GRX gx_BadTree gv_BadTree := ⟨fun r => grx_HallError.rel (Reps.one (show V.str "badtree" = V.str ⟨[98, 97, 100, 116, 114, 101, 101].toArray⟩ from congrArg V.str (by decide +kernel)))⟩
theorem i_BadTree_init (x : Fx K mg E) (hk : 2 ≤ k) : FnOk P w K mg base (L2.CX P w) k (He.fAd K ("BadTree", some "__init__")) E.d_BadTree_init ["self"] (spI K 0 ["word"] gv_BadTree) := by
  obtain ⟨k, rfl⟩ : ∃ j, k = j + 1 := ⟨k - 1, by omega⟩
  exact init_of x.F_BadTree_init sc_BadTree_init rfl (fun cdv A outer s H E hr => pss_one (ps_expr (pe_clsfn (i_HallError_init x (by omega)) hr x.g_HallError x.r_HallError.1 x.r_HallError.2 x.F_HallError_init.kp (b_HallError_init x) passNo (pa_cons (pe_var (i := 0) rfl (Or.inl rfl)) (pa_cons pe_str pa_nil))))) (fun vs H Q E h => shape0 h)
abbrev gv_Ring : List V → List V := fun ws => ws ++ gv_HallError [V.str "ring"]
theorem grx_Ring : GRX gx_Ring gv_Ring := ⟨fun r => r.append (grx_HallError.rel (Reps.one (show V.str "ring" = V.str ⟨[114, 105, 110, 103].toArray⟩ from congrArg V.str (by decide +kernel))))⟩
theorem i_Ring_init (x : Fx K mg E) (hk : 2 ≤ k) : FnOk P w K mg base (L2.CX P w) k (He.fAd K ("Ring", some "__init__")) E.d_Ring_init ["self", "name"] (spI K 1 ["name", "word"] gv_Ring) := by
  obtain ⟨k, rfl⟩ : ∃ j, k = j + 1 := ⟨k - 1, by omega⟩
  exact init_of x.F_Ring_init sc_Ring_init rfl (fun cdv A outer s H E hr => pss_cons (ps_expr (pe_clsfn (i_HallError_init x (by omega)) hr x.g_HallError x.r_HallError.1 x.r_HallError.2 x.F_HallError_init.kp (b_HallError_init x) passNo (pa_cons (pe_var (i := 0) rfl (Or.inl rfl)) (pa_cons pe_str pa_nil)))) (pss_one (ps_ost (pe_var (i := 0) rfl (Or.inl rfl)) (pe_var (i := 1) rfl (Or.inl rfl))))) (fun vs H Q E h => shape1 h (by decide))
abbrev gv_TooMany : List V → List V := fun ws => ws ++ gv_HallError [V.str "toomany"]
theorem grx_TooMany : GRX gx_TooMany gv_TooMany := ⟨fun r => r.append (grx_HallError.rel (Reps.one (show V.str "toomany" = V.str ⟨[116, 111, 111, 109, 97, 110, 121].toArray⟩ from congrArg V.str (by decide +kernel))))⟩
theorem i_TooMany_init (x : Fx K mg E) (hk : 2 ≤ k) : FnOk P w K mg base (L2.CX P w) k (He.fAd K ("TooMany", some "__init__")) E.d_TooMany_init ["self", "most"] (spI K 1 ["most", "word"] gv_TooMany) := by
  obtain ⟨k, rfl⟩ : ∃ j, k = j + 1 := ⟨k - 1, by omega⟩
  exact init_of x.F_TooMany_init sc_TooMany_init rfl (fun cdv A outer s H E hr => pss_cons (ps_expr (pe_clsfn (i_HallError_init x (by omega)) hr x.g_HallError x.r_HallError.1 x.r_HallError.2 x.F_HallError_init.kp (b_HallError_init x) passNo (pa_cons (pe_var (i := 0) rfl (Or.inl rfl)) (pa_cons pe_str pa_nil)))) (pss_one (ps_ost (pe_var (i := 0) rfl (Or.inl rfl)) (pe_var (i := 1) rfl (Or.inl rfl))))) (fun vs H Q E h => shape1 h (by decide))
abbrev gv_NoRow : List V → List V := fun ws => ws ++ gv_Missing [V.str "norow"]
theorem grx_NoRow : GRX gx_NoRow gv_NoRow := ⟨fun r => r.append (grx_Missing.rel (Reps.one (show V.str "norow" = V.str ⟨[110, 111, 114, 111, 119].toArray⟩ from congrArg V.str (by decide +kernel))))⟩
theorem i_NoRow_init (x : Fx K mg E) (hk : 2 ≤ k) : FnOk P w K mg base (L2.CX P w) k (He.fAd K ("NoRow", some "__init__")) E.d_NoRow_init ["self", "name"] (spIX K 1 ["name", "word"] gv_NoRow 1) := by
  obtain ⟨k, rfl⟩ : ∃ j, k = j + 1 := ⟨k - 1, by omega⟩
  exact init_ofX x.F_NoRow_init sc_NoRow_init rfl (fun cdv A outer s H E hr => pss_cons (ps_expr (pe_clsfn (i_Missing_init x (by omega)) hr x.g_Missing x.r_Missing.1 x.r_Missing.2 x.F_Missing_init.kp (b_Missing_init x) passNo (pa_cons (pe_var (i := 0) rfl (Or.inl rfl)) (pa_cons pe_str pa_nil)))) (pss_one (ps_osx (pe_var (i := 0) rfl (Or.inl rfl)) (pe_var (i := 1) rfl (Or.inl rfl))))) (fun vs H Q E h => shape1X h (by decide))
theorem d_law {φlaw_names : Fn} {φlaw_tower : Fn} {φlaw_count : Fn} {φmany_done : Fn} {φlaw_same : Fn} {φspelled : Fn} {φlaw_draw : Fn} {φlaw_flat_tree : Fn} (x : Fx K mg E) (xT : TabsB K mg base) (hk : 3 ≤ k) (GS : FnOk P w K mg base (L2.CX P w) (k + 1) (He.fAd K ("_law_start", none)) E.d_law_start ["_law_script"] (spStart K)) (Glaw_names : FnD P w K mg base (k + 1) (He.fAd K ("_law_names", none)) E.d_law_names ["_law_d", "_law_many"] φlaw_names) (Glaw_tower : FnD P w K mg base (k + 1) (He.fAd K ("_law_tower", none)) E.d_law_tower ["_law_d", "_law_names_here", "_law_k"] φlaw_tower) (Glaw_count : FnD P w K mg base (k + 1) (He.fAd K ("_law_count", none)) E.d_law_count ["_law_book_it", "_law_known", "_law_tree"] φlaw_count) (Gmany_done : FnD P w K mg base (k + 1) (He.fAd K ("many_done", none)) E.d_many_done ["tree", "book"] φmany_done) (Glaw_same : FnD P w K mg base (k + 1) (He.fAd K ("_law_same", none)) E.d_law_same ["_law_x", "_law_due"] φlaw_same) (Gspelled : FnD P w K mg base (k + 1) (He.fAd K ("spelled", none)) E.d_spelled ["tree", "book", "most"] φspelled) (Glaw_draw : FnD P w K mg base (k + 1) (He.fAd K ("_law_draw", none)) E.d_law_draw ["_law_d", "_law_many"] φlaw_draw) (Glaw_flat_tree : FnD P w K mg base (k + 1) (He.fAd K ("_law_flat_tree", none)) E.d_law_flat_tree ["_law_steps"] φlaw_flat_tree) : FnOk P w K mg base (L2.CX P w) (k + 4) (He.fAd K ("law", none)) E.d_law ["_law_script"] (spLaw K [((He.cT K ("law", none)).2, "law.<locals>.<lambda>")] 11 (m_law (adK K) φlaw_names φlaw_tower φlaw_count φmany_done φlaw_same φspelled φlaw_draw φlaw_flat_tree)) := by
  obtain ⟨mv_many_done_book, kb_many_done_book⟩ := kbx_many_done_book x
  obtain ⟨mv_spelled_book_most, kb_spelled_book_most⟩ := kbx_spelled_book_most x
  exact law_okT x.F_law sc_law rfl rfl (fun cdv A outer s H E hr0 => have hr : Room (k + 1) _ := hr0.mono (by omega); ps_set (i := 1) sc_law.nd rfl (Or.inl rfl) (pe_callS GS hr rfl x.m_law_start x.F_law_start.kp (b_law_start x) passNo (pa_cons (pe_var (i := 0) rfl (Or.inl rfl)) pa_nil))) fun cdv A outer s H E hcd hr0 =>
    have hr : Room (k + 1) _ := hr0.mono (by omega)
    have hrw : Room (k + 3) _ := hr0.mono (by omega)
    have tk := takes_fn (P := P) (w := w) (K := K) (mg := mg) (base := base) (N := ["_law_script", "_law_d", "_law_names_here", "_law_book_it", "_law_k", "_law_name", "_law_tree", "_law_due", "_law_told_here", "_law_most_it", "_law_found", "_law_long", "_law_more"]) (qual := "law") (scope := defScope (top 43)) (f := He.fAd K ("law", none)) (cd := cdv) (A := A) (outer := outer) (s := s) (H := H) (E := E)
    (pss_dcons (ps_dset (i := 2) sc_law.nd rfl (Or.inl rfl) (pd_call Glaw_names hr x.m_law_names x.F_law_names.kp (b_law_names x) (tk_of tk) (pd_cons (pd_var 1) (pd_cons pd_int pd_nil))))
  (pss_dcons (ps_dset (i := 3) sc_law.nd rfl (Or.inr rfl) pd_dnew)
  (pss_dcons (ps_dfor (passes_of rfl) rfl (pi_drange1 x.n_range pd_int) (pg_dname sc_law.nd (i := 4) rfl (Or.inl rfl)) (pss_done (ps_dsetx hr.units (pd_var 3) (pd_ix hr.units (pd_var 2) (pd_var 4)) (pd_call Glaw_tower hr x.m_law_tower x.F_law_tower.kp (b_law_tower x) (tk_of tk) (pd_cons (pd_var 1) (pd_cons (pd_var 2) (pd_cons (pd_var 4) pd_nil)))))))
  (pss_dcons (ps_dfor (passes_of rfl) rfl (pi_dvals (pd_var 2)) (pg_dname sc_law.nd (i := 5) rfl (Or.inl rfl)) (pss_dcons (ps_dset (i := 6) sc_law.nd rfl (Or.inr rfl) (pd_ix hr.units (pd_var 3) (pd_var 5)))
  (pss_dcons (ps_dset (i := 7) sc_law.nd rfl (Or.inl rfl) (pd_call Glaw_count hr x.m_law_count x.F_law_count.kp (b_law_count x) (tk_of tk) (pd_cons (pd_var 3) (pd_cons pd_dnew (pd_cons (pd_var 6) pd_nil)))))
  (pss_dcons (ps_dset (i := 8) sc_law.nd rfl (Or.inl rfl) (pd_most (a := "_law_ask") (e := "e") (y := "_law_found") (w := "most") (z := "toomany") (te := .Name "TooMany" _) (any := fun cls => PySem.W.exmOne K cls (.ref (He.ga K "TooMany"))) (i := 2) (j := 1) x.F_law_told x.m_law_told (b_law_told x) sc_law_told (fun _ _ _ => by exact test_as1 (by rfl) x.g_TooMany (by decide)) (fun C hC => ctB_ok x.w_law_law_told C true hC) (fun C hC => ⟨(xfAll_ok x.u_law_law_told C hC).1, (xfAll_ok x.u_law_law_told C hC).2 _ (by simp)⟩) (xT ("law", none) (by simp [tfL])) hcd (by rfl) hrw (LamX.lamS_by (show LamX.lamSB (defScope (top 43)) _ = true by decide +kernel))
    (fun A outer s H E f c2 hr => (pd_callN Gmany_done hr x.m_many_done x.F_many_done.kp kb_many_done_book gr_many_done_book (tk_of takes_lam) (pd_cons (pd_var 6) pd_nil) (pk_dcons (pd_var 3) pk_dnil)))))
  (pss_dcons (ps_dif (pd_notT (pd_truth (pd_call Glaw_same hr x.m_law_same x.F_law_same.kp (b_law_same x) (tk_of tk) (pd_cons (pd_var 8) (pd_cons (pd_ifExp (pd_cmpT op_isA snd_is (pd_var 7) pd_non) (pd_tup (pd_cons (pd_str [116, 111, 111, 109, 97, 110, 121]) (pd_cons (pd_op op_pow snd_pow pd_int pd_int) pd_nil))) (pd_var 7)) pd_nil))))) (pss_done (ps_dret pd_bl)) pss_dnil)
  (pss_dcons (ps_dif (pd_cmpT op_isA snd_is (pd_var 7) pd_non) (pss_dcons (ps_dif (pd_cmpT (op_neA hr.units) snd_ne (pd_most (a := "_law_ask") (e := "e") (y := "_law_found") (w := "most") (z := "toomany") (te := .Name "TooMany" _) (any := fun cls => PySem.W.exmOne K cls (.ref (He.ga K "TooMany"))) (i := 2) (j := 1) x.F_law_told x.m_law_told (b_law_told x) sc_law_told (fun _ _ _ => by exact test_as1 (by rfl) x.g_TooMany (by decide)) (fun C hC => ctB_ok x.w_law_law_told C true hC) (fun C hC => ⟨(xfAll_ok x.u_law_law_told C hC).1, (xfAll_ok x.u_law_law_told C hC).2 _ (by simp)⟩) (xT ("law", none) (by simp [tfL])) hcd (by rfl) hrw (LamX.lamS_by (show LamX.lamSB (defScope (top 43)) _ = true by decide +kernel))
    (fun A outer s H E f c2 hr => (pd_callN Gspelled hr x.m_spelled x.F_spelled.kp kb_spelled_book_most gr_spelled_book_most (tk_of takes_lam) (pd_cons (pd_var 6) pd_nil) (pk_dcons (pd_var 3) (pk_dcons pd_int pk_dnil))))) (pd_tup (pd_cons (pd_str [116, 111, 111, 109, 97, 110, 121]) (pd_cons (pd_op op_pow snd_pow pd_int pd_int) pd_nil)))) (pss_done (ps_dret pd_bl)) pss_dnil)
  (pss_done ps_dcont)) pss_dnil)
  (pss_dcons (ps_dset (i := 9) sc_law.nd rfl (Or.inr rfl) (pd_callB (cr_maxA rfl hr.units) snd_max x.n_max (pd_cons pd_int (pd_cons (pd_callB (cr_minA rfl hr.units) snd_min x.n_min (pd_cons pd_int (pd_cons (pd_op op_sub snd_sub (pd_op op_addA snd_add (pd_var 7) (pd_call Glaw_draw hr x.m_law_draw x.F_law_draw.kp (b_law_draw x) (tk_of tk) (pd_cons (pd_var 1) (pd_cons pd_int pd_nil)))) pd_int) pd_nil))) pd_nil))))
  (pss_dcons (ps_dset (i := 10) sc_law.nd rfl (Or.inl rfl) (pd_most (a := "_law_ask") (e := "e") (y := "_law_found") (w := "most") (z := "toomany") (te := .Name "TooMany" _) (any := fun cls => PySem.W.exmOne K cls (.ref (He.ga K "TooMany"))) (i := 2) (j := 1) x.F_law_told x.m_law_told (b_law_told x) sc_law_told (fun _ _ _ => by exact test_as1 (by rfl) x.g_TooMany (by decide)) (fun C hC => ctB_ok x.w_law_law_told C true hC) (fun C hC => ⟨(xfAll_ok x.u_law_law_told C hC).1, (xfAll_ok x.u_law_law_told C hC).2 _ (by simp)⟩) (xT ("law", none) (by simp [tfL])) hcd (by rfl) hrw (LamX.lamS_by (show LamX.lamSB (defScope (top 43)) _ = true by decide +kernel))
    (fun A outer s H E f c2 hr => (pd_callN Gspelled hr x.m_spelled x.F_spelled.kp kb_spelled_book_most gr_spelled_book_most (tk_of takes_lam) (pd_cons (pd_var 6) pd_nil) (pk_dcons (pd_var 3) (pk_dcons (pd_var 9) pk_dnil))))))
  (pss_done (ps_dif (pd_cmpT op_gtA snd_gt (pd_var 7) (pd_var 9)) (pss_done (ps_dif (pd_cmpT (op_neA hr.units) snd_ne (pd_var 10) (pd_tup (pd_cons (pd_str [116, 111, 111, 109, 97, 110, 121]) (pd_cons (pd_var 9) pd_nil)))) (pss_done (ps_dret pd_bl)) pss_dnil)) (pss_done (ps_dif (pd_bopT (pw_dor (pd_notT (pd_truth (pd_callB call_isiA snd_isi x.n_isinstance (pd_cons (pd_var 10) (pd_cons (pd_ty x.n_list) pd_nil))))) (pw_dor1 (pd_cmpT (op_neA hr.units) snd_ne (pd_callB call_lenA snd_len x.n_len (pd_cons (pd_var 10) pd_nil)) (pd_var 7))))) (pss_done (ps_dret pd_bl)) pss_dnil))))))))))))
  (pss_dcons (ps_dset (i := 11) sc_law.nd rfl (Or.inr rfl) (pd_call Glaw_flat_tree hr x.m_law_flat_tree x.F_law_flat_tree.kp (b_law_flat_tree x) (tk_of tk) (pd_cons (pd_lst (pd_cons (pd_tup (pd_cons (pd_str [116, 105, 109, 101, 115]) (pd_cons pd_int (pd_cons (pd_call Glaw_flat_tree hr x.m_law_flat_tree x.F_law_flat_tree.kp (b_law_flat_tree x) (tk_of tk) (pd_cons (pd_op op_mulA snd_mul (pd_lst (pd_cons (pd_tup (pd_cons (pd_str [99, 97, 108, 108]) (pd_cons (pd_str []) pd_nil))) pd_nil)) pd_int) pd_nil)) pd_nil)))) pd_nil)) pd_nil)))
  (pss_dcons (ps_dif (pd_cmpT (op_neA hr.units) snd_ne (pd_callB call_lenA snd_len x.n_len (pd_cons (pd_most (a := "_law_ask") (e := "e") (y := "_law_found") (w := "most") (z := "toomany") (te := .Name "TooMany" _) (any := fun cls => PySem.W.exmOne K cls (.ref (He.ga K "TooMany"))) (i := 2) (j := 1) x.F_law_told x.m_law_told (b_law_told x) sc_law_told (fun _ _ _ => by exact test_as1 (by rfl) x.g_TooMany (by decide)) (fun C hC => ctB_ok x.w_law_law_told C true hC) (fun C hC => ⟨(xfAll_ok x.u_law_law_told C hC).1, (xfAll_ok x.u_law_law_told C hC).2 _ (by simp)⟩) (xT ("law", none) (by simp [tfL])) hcd (by rfl) hrw (LamX.lamS_by (show LamX.lamSB (defScope (top 43)) _ = true by decide +kernel))
    (fun A outer s H E f c2 hr => (pd_callE Gspelled hr x.m_spelled x.F_spelled.kp (bd_spelled x) (fun _ _ => (Reps.cons rfl (Reps.cons rfl Reps.nil))) (tk_of takes_lam) (pd_cons (pd_var 11) pd_nil)))) pd_nil)) pd_int) (pss_done (ps_dret pd_bl)) pss_dnil)
  (pss_dcons (ps_dset (i := 12) sc_law.nd rfl (Or.inr rfl) (pd_call Glaw_flat_tree hr x.m_law_flat_tree x.F_law_flat_tree.kp (b_law_flat_tree x) (tk_of tk) (pd_cons (pd_op op_addA snd_add (pd_lst (pd_cons (pd_tup (pd_cons (pd_str [99, 97, 108, 108]) (pd_cons (pd_str []) pd_nil))) pd_nil)) (pd_callTy (call_list3 rfl) snd_list3 x.n_list (pd_cons (pd_ix hr.units (pd_var 11) pd_int) pd_nil))) pd_nil)))
  (pss_done (ps_dret (pd_and (pd_cmp (op_eqA hr.units) snd_eq (pd_most (a := "_law_ask") (e := "e") (y := "_law_found") (w := "most") (z := "toomany") (te := .Name "TooMany" _) (any := fun cls => PySem.W.exmOne K cls (.ref (He.ga K "TooMany"))) (i := 2) (j := 1) x.F_law_told x.m_law_told (b_law_told x) sc_law_told (fun _ _ _ => by exact test_as1 (by rfl) x.g_TooMany (by decide)) (fun C hC => ctB_ok x.w_law_law_told C true hC) (fun C hC => ⟨(xfAll_ok x.u_law_law_told C hC).1, (xfAll_ok x.u_law_law_told C hC).2 _ (by simp)⟩) (xT ("law", none) (by simp [tfL])) hcd (by rfl) hrw (LamX.lamS_by (show LamX.lamSB (defScope (top 43)) _ = true by decide +kernel))
    (fun A outer s H E f c2 hr => (pd_callE Gspelled hr x.m_spelled x.F_spelled.kp (bd_spelled x) (fun _ _ => (Reps.cons rfl (Reps.cons rfl Reps.nil))) (tk_of takes_lam) (pd_cons (pd_var 12) pd_nil)))) (pd_tup (pd_cons (pd_str [116, 111, 111, 109, 97, 110, 121]) (pd_cons pd_int pd_nil)))) (pd_and (pd_cmp (op_eqA hr.units) snd_eq (pd_globI x.i_MOST_DONE.choose_spec) (pd_op op_pow snd_pow pd_int pd_int)) (pd_one (pd_cmp (op_eqA hr.units) snd_eq (pd_globI x.i_MOST_LISTED.choose_spec) pd_int)))))))))))))
theorem d_law_names {φlaw_letters : Fn} {φlaw_draw : Fn} (x : Fx K mg E) (xT : TabsB K mg base) (hk : 3 ≤ k) (Glaw_letters : FnD P w K mg base (k + 1) (He.fAd K ("_law_letters", none)) E.d_law_letters [] φlaw_letters) (Glaw_draw : FnD P w K mg base (k + 1) (He.fAd K ("_law_draw", none)) E.d_law_draw ["_law_d", "_law_many"] φlaw_draw) : FnD P w K mg base (k + 2) (He.fAd K ("_law_names", none)) E.d_law_names ["_law_d", "_law_many"] (defM 6 (m_law_names (adK K) φlaw_letters φlaw_draw)) := by
  exact FnD.mk x.F_law_names sc_law_names fun cdv A outer s H E hr =>
    have tk := takes_fn (P := P) (w := w) (K := K) (mg := mg) (base := base) (N := ["_law_d", "_law_many", "_law_stem", "_law_spot", "_law_start_here", "_law_k"]) (qual := "_law_names") (scope := defScope (top 38)) (f := He.fAd K ("_law_names", none)) (cd := cdv) (A := A) (outer := outer) (s := s) (H := H) (E := E)
    (pss_dcons (ps_dset (i := 2) sc_law_names.nd rfl (Or.inr rfl) (pd_op op_mulA snd_mul (pd_ix hr.units (pd_call0 Glaw_letters hr x.m_law_letters x.F_law_letters.kp (b_law_letters x) (tk_of tk)) (pd_call Glaw_draw hr x.m_law_draw x.F_law_draw.kp (b_law_draw x) (tk_of tk) (pd_cons (pd_var 0) (pd_cons pd_int pd_nil)))) (pd_call Glaw_draw hr x.m_law_draw x.F_law_draw.kp (b_law_draw x) (tk_of tk) (pd_cons (pd_var 0) (pd_cons pd_int pd_nil)))))
  (pss_dcons (ps_dset (i := 3) sc_law_names.nd rfl (Or.inr rfl) (pd_call Glaw_draw hr x.m_law_draw x.F_law_draw.kp (b_law_draw x) (tk_of tk) (pd_cons (pd_var 0) (pd_cons (pd_op op_addA snd_add (pd_callB call_lenA snd_len x.n_len (pd_cons (pd_var 2) pd_nil)) pd_int) pd_nil))))
  (pss_dcons (ps_dset (i := 4) sc_law_names.nd rfl (Or.inr rfl) (pd_call Glaw_draw hr x.m_law_draw x.F_law_draw.kp (b_law_draw x) (tk_of tk) (pd_cons (pd_var 0) (pd_cons pd_int pd_nil))))
  (pss_done (ps_dret (pd_lc [("_law_k", 5)] rfl sc_law_names.nd (pi_drange1 x.n_range (pd_var 1)) (blk_of (N := ["_law_d", "_law_many", "_law_stem", "_law_spot", "_law_start_here", "_law_k"]) (sc := defScope (top 38)) (by decide +kernel) rfl rfl) (by decide) (fun _ _ _ _ _ => (pg_dname sc_law_names.nd (i := 5) rfl (Or.inl rfl))) (fun _ _ _ _ _ => pts_dnil) (fun _ _ _ _ _ => (pd_op op_addA snd_add (pd_op op_addA snd_add (pd_sl (pd_var 2) po_dno (po_dso (pd_var 3))) (pd_ix hr.units (pd_call0 Glaw_letters hr x.m_law_letters x.F_law_letters.kp (b_law_letters x) tk_no) (pd_op op_mod snd_mod (pd_op op_addA snd_add (pd_var 4) (pd_op op_mulA snd_mul pd_int (pd_var 5))) pd_int))) (pd_sl (pd_var 2) (po_dso (pd_var 3)) po_dno)))))))))
theorem d_law_tower {φlaw_draw : Fn} {φlaw_of : Fn} {φlaw_flat_tree : Fn} {φlaw_number : Fn} (x : Fx K mg E) (xT : TabsB K mg base) (hk : 3 ≤ k) (Glaw_draw : FnD P w K mg base (k + 1) (He.fAd K ("_law_draw", none)) E.d_law_draw ["_law_d", "_law_many"] φlaw_draw) (Glaw_of : FnD P w K mg base (k + 1) (He.fAd K ("_law_of", none)) E.d_law_of ["_law_d", "_law_some"] φlaw_of) (Glaw_flat_tree : FnD P w K mg base (k + 1) (He.fAd K ("_law_flat_tree", none)) E.d_law_flat_tree ["_law_steps"] φlaw_flat_tree) (Glaw_number : FnD P w K mg base (k + 1) (He.fAd K ("_law_number", none)) E.d_law_number ["_law_d"] φlaw_number) : FnD P w K mg base (k + 2) (He.fAd K ("_law_tower", none)) E.d_law_tower ["_law_d", "_law_names_here", "_law_k"] (defM 7 (m_law_tower (adK K) φlaw_draw φlaw_of φlaw_flat_tree φlaw_number)) := by
  exact FnD.mk x.F_law_tower sc_law_tower fun cdv A outer s H E hr =>
    have tk := takes_fn (P := P) (w := w) (K := K) (mg := mg) (base := base) (N := ["_law_d", "_law_names_here", "_law_k", "_law_steps", "_law_turn", "_law_how", "_law_tree"]) (qual := "_law_tower") (scope := defScope (top 41)) (f := He.fAd K ("_law_tower", none)) (cd := cdv) (A := A) (outer := outer) (s := s) (H := H) (E := E)
    (pss_dcons (ps_dset (i := 3) sc_law_tower.nd rfl (Or.inl rfl) (pd_lstL pd_nil))
  (pss_dcons (ps_dfor (passes_of rfl) rfl (pi_drange1 x.n_range (pd_call Glaw_draw hr x.m_law_draw x.F_law_draw.kp (b_law_draw x) (tk_of tk) (pd_cons (pd_var 0) (pd_cons pd_int pd_nil)))) (pg_dname sc_law_tower.nd (i := 4) rfl (Or.inl rfl)) (pss_dcons (ps_dset (i := 5) sc_law_tower.nd rfl (Or.inl rfl) (pd_call Glaw_draw hr x.m_law_draw x.F_law_draw.kp (b_law_draw x) (tk_of tk) (pd_cons (pd_var 0) (pd_cons pd_int pd_nil))))
  (pss_done (ps_dif (pd_bopT (pw_dor (pd_cmpT (op_eqA hr.units) snd_eq (pd_var 5) pd_int) (pw_dor1 (pd_cmpT (op_eqA hr.units) snd_eq (pd_var 2) pd_int)))) (pss_done (ps_dexpr (pd_lm PySem.F.slot_list_append PySem.F.type_list_append mt_append snd_append (pd_var 3) (pd_cons (pd_tup (pd_cons (pd_str [99, 97, 108, 108]) (pd_cons (pd_call Glaw_of hr x.m_law_of x.F_law_of.kp (b_law_of x) (tk_of tk) (pd_cons (pd_var 0) (pd_cons (pd_lst (pd_cons (pd_str []) (pd_cons (pd_str [97]) pd_nil))) pd_nil))) pd_nil))) pd_nil)))) (pss_done (ps_dif (pd_cmpT (op_eqA hr.units) snd_eq (pd_var 5) pd_int) (pss_done (ps_dexpr (pd_lm PySem.F.slot_list_append PySem.F.type_list_append mt_append snd_append (pd_var 3) (pd_cons (pd_tup (pd_cons (pd_str [116, 105, 109, 101, 115]) (pd_cons (pd_call Glaw_number hr x.m_law_number x.F_law_number.kp (b_law_number x) (tk_of tk) (pd_cons (pd_var 0) pd_nil)) (pd_cons (pd_call Glaw_flat_tree hr x.m_law_flat_tree x.F_law_flat_tree.kp (b_law_flat_tree x) (tk_of tk) (pd_cons (pd_lst (pd_cons (pd_tup (pd_cons (pd_str [114, 111, 119]) (pd_cons (pd_ix hr.units (pd_var 1) (pd_op op_sub snd_sub (pd_var 2) pd_int)) pd_nil))) (pd_cons (pd_tup (pd_cons (pd_str [116, 117, 114, 110]) (pd_cons (pd_str [97]) pd_nil))) pd_nil))) pd_nil)) pd_nil)))) pd_nil)))) (pss_done (ps_dexpr (pd_lm PySem.F.slot_list_append PySem.F.type_list_append mt_append snd_append (pd_var 3) (pd_cons (pd_tup (pd_cons (pd_str [114, 111, 119]) (pd_cons (pd_call Glaw_of hr x.m_law_of x.F_law_of.kp (b_law_of x) (tk_of tk) (pd_cons (pd_var 0) (pd_cons (pd_sl (pd_var 1) po_dno (po_dso (pd_var 2))) pd_nil))) pd_nil))) pd_nil))))))))))
  (pss_dcons (ps_dif (pd_bopT (pw_dand (pd_cmpT op_gtA snd_gt (pd_var 2) pd_int) (pw_dand1 (pd_cmpT (op_eqA hr.units) snd_eq (pd_call Glaw_draw hr x.m_law_draw x.F_law_draw.kp (b_law_draw x) (tk_of tk) (pd_cons (pd_var 0) (pd_cons pd_int pd_nil))) pd_int)))) (pss_dcons (ps_dset (i := 6) sc_law_tower.nd rfl (Or.inl rfl) (pd_call Glaw_flat_tree hr x.m_law_flat_tree x.F_law_flat_tree.kp (b_law_flat_tree x) (tk_of tk) (pd_cons (pd_op op_mulA snd_mul (pd_lst (pd_cons (pd_tup (pd_cons (pd_str [99, 97, 108, 108]) (pd_cons (pd_str []) pd_nil))) pd_nil)) (pd_call Glaw_draw hr x.m_law_draw x.F_law_draw.kp (b_law_draw x) (tk_of tk) (pd_cons (pd_var 0) (pd_cons pd_int pd_nil)))) pd_nil)))
  (pss_dcons (ps_dfor (passes_of rfl) rfl (pi_drange1 x.n_range (pd_op op_addA snd_add pd_int (pd_call Glaw_draw hr x.m_law_draw x.F_law_draw.kp (b_law_draw x) (tk_of tk) (pd_cons (pd_var 0) (pd_cons pd_int pd_nil))))) (pg_dname sc_law_tower.nd (i := 4) rfl (Or.inl rfl)) (pss_done (ps_dset (i := 6) sc_law_tower.nd rfl (Or.inl rfl) (pd_call Glaw_flat_tree hr x.m_law_flat_tree x.F_law_flat_tree.kp (b_law_flat_tree x) (tk_of tk) (pd_cons (pd_lst (pd_cons (pd_tup (pd_cons (pd_str [116, 105, 109, 101, 115]) (pd_cons (pd_call Glaw_of hr x.m_law_of x.F_law_of.kp (b_law_of x) (tk_of tk) (pd_cons (pd_var 0) (pd_cons (pd_lst (pd_cons (pd_op op_pow snd_pow pd_int pd_int) (pd_cons (pd_op op_pow snd_pow pd_int pd_int) (pd_cons pd_int pd_nil)))) pd_nil))) (pd_cons (pd_var 6) pd_nil)))) pd_nil)) pd_nil)))))
  (pss_done (ps_dset (i := 3) sc_law_tower.nd rfl (Or.inl rfl) (pd_op op_addA snd_add (pd_var 3) (pd_callTy (call_list3 rfl) snd_list3 x.n_list (pd_cons (pd_ix hr.units (pd_var 6) pd_int) pd_nil))))))) pss_dnil)
  (pss_done (ps_dret (pd_call Glaw_flat_tree hr x.m_law_flat_tree x.F_law_flat_tree.kp (b_law_flat_tree x) (tk_of tk) (pd_cons (pd_var 3) pd_nil)))))))
theorem d_law_count {φlaw_count : Fn} (x : Fx K mg E) (xT : TabsB K mg base) (hk : 3 ≤ k) (Glaw_count : FnD P w K mg base (k + 1) (He.fAd K ("_law_count", none)) E.d_law_count ["_law_book_it", "_law_known", "_law_tree"] φlaw_count) : FnD P w K mg base (k + 2) (He.fAd K ("_law_count", none)) E.d_law_count ["_law_book_it", "_law_known", "_law_tree"] (defM 6 (m_law_count (adK K) φlaw_count)) := by
  exact FnD.mk x.F_law_count sc_law_count fun cdv A outer s H E hr =>
    have tk := takes_fn (P := P) (w := w) (K := K) (mg := mg) (base := base) (N := ["_law_book_it", "_law_known", "_law_tree", "_law_many", "_law_step", "_law_inner"]) (qual := "_law_count") (scope := defScope (top 40)) (f := He.fAd K ("_law_count", none)) (cd := cdv) (A := A) (outer := outer) (s := s) (H := H) (E := E)
    (pss_dcons (ps_dset (i := 3) sc_law_count.nd rfl (Or.inl rfl) pd_int)
  (pss_dcons (ps_dfor (passes_of rfl) rfl (pi_dvals (pd_ix hr.units (pd_var 2) pd_int)) (pg_dname sc_law_count.nd (i := 4) rfl (Or.inl rfl)) (pss_dcons (ps_dset (i := 5) sc_law_count.nd rfl (Or.inl rfl) pd_int)
  (pss_dcons (ps_dif (pd_cmpT (op_eqA hr.units) snd_eq (pd_ix hr.units (pd_var 4) pd_int) (pd_str [114, 111, 119])) (pss_dcons (ps_dif (pd_cmpT (op_ninA hr.units) snd_nin (pd_ix hr.units (pd_var 4) pd_int) (pd_var 1)) (pss_done (ps_dsetx hr.units (pd_var 1) (pd_ix hr.units (pd_var 4) pd_int) (pd_call Glaw_count hr x.m_law_count x.F_law_count.kp (b_law_count x) (tk_of tk) (pd_cons (pd_var 0) (pd_cons (pd_var 1) (pd_cons (pd_ix hr.units (pd_var 0) (pd_ix hr.units (pd_var 4) pd_int)) pd_nil)))))) pss_dnil)
  (pss_done (ps_dset (i := 5) sc_law_count.nd rfl (Or.inl rfl) (pd_ix hr.units (pd_var 1) (pd_ix hr.units (pd_var 4) pd_int))))) pss_dnil)
  (pss_dcons (ps_dif (pd_cmpT (op_eqA hr.units) snd_eq (pd_ix hr.units (pd_var 4) pd_int) (pd_str [116, 105, 109, 101, 115])) (pss_dcons (ps_dset (i := 5) sc_law_count.nd rfl (Or.inl rfl) (pd_call Glaw_count hr x.m_law_count x.F_law_count.kp (b_law_count x) (tk_of tk) (pd_cons (pd_var 0) (pd_cons (pd_var 1) (pd_cons (pd_ix hr.units (pd_var 4) pd_int) pd_nil)))))
  (pss_done (ps_dset (i := 5) sc_law_count.nd rfl (Or.inl rfl) (pd_ifExp (pd_cmpT op_isA snd_is (pd_var 5) pd_non) pd_non (pd_op op_mulA snd_mul (pd_var 5) (pd_ix hr.units (pd_var 4) pd_int)))))) pss_dnil)
  (pss_dcons (ps_dif (pd_bopT (pw_dor (pd_cmpT op_isA snd_is (pd_var 5) pd_non) (pw_dor1 (pd_cmpT op_gtA snd_gt (pd_op op_addA snd_add (pd_var 3) (pd_var 5)) (pd_op op_pow snd_pow pd_int pd_int))))) (pss_done (ps_dret pd_non)) pss_dnil)
  (pss_done (ps_dset (i := 3) sc_law_count.nd rfl (Or.inl rfl) (pd_op op_addA snd_add (pd_var 3) (pd_var 5)))))))))
  (pss_done (ps_dret (pd_var 3)))))
theorem d_many_done {φlook_row : Fn} {φCounter_init : Fn} {φCounter_of_row : Fn} (x : Fx K mg E) (xT : TabsB K mg base) (hk : 3 ≤ k) (Glook_row : FnD P w K mg base (k + 1) (He.fAd K ("look_row", none)) E.d_look_row ["tree"] φlook_row) (MCounter_init : FnD P w K mg base k (He.fAd K ("Counter", some "__init__")) E.d_Counter_init ["self", "book"] φCounter_init) (GCounter_of_row : FnD P w K mg base (k + 1) (He.fAd K ("Counter", some "of_row")) E.d_Counter_of_row ["self", "tree"] φCounter_of_row) : FnD P w K mg base (k + 2) (He.fAd K ("many_done", none)) E.d_many_done ["tree", "book"] (defM 2 (m_many_done (adK K) φlook_row φCounter_init φCounter_of_row)) := by
  exact FnD.mk x.F_many_done sc_many_done fun cdv A outer s H E hr =>
    have tk := takes_fn (P := P) (w := w) (K := K) (mg := mg) (base := base) (N := ["tree", "book"]) (qual := "many_done") (scope := defScope (top 29)) (f := He.fAd K ("many_done", none)) (cd := cdv) (A := A) (outer := outer) (s := s) (H := H) (E := E)
    (pss_dcons (ps_dexpr (pd_call Glook_row hr x.m_look_row x.F_look_row.kp (b_look_row x) (tk_of tk) (pd_cons (pd_var 0) pd_nil)))
  (pss_done (ps_dret (pd_meth x.c_Counter x.h_Counter_of_row GCounter_of_row hr (b_Counter_of_row x) (tk_of tk) (pd_make x.k_Counter MCounter_init hr x.g_Counter (b_Counter_init x) (tk_of tk) (pd_cons (pd_ifExp (pd_cmpT op_isA snd_is (pd_var 1) pd_non) (pd_freeze pd_dnew) (pd_var 1)) pd_nil)) (pd_cons (pd_var 0) pd_nil)))))
theorem d_law_same {φlaw_same : Fn} (x : Fx K mg E) (xT : TabsB K mg base) (hk : 3 ≤ k) (Glaw_same : FnD P w K mg base (k + 1) (He.fAd K ("_law_same", none)) E.d_law_same ["_law_x", "_law_due"] φlaw_same) : FnD P w K mg base (k + 2) (He.fAd K ("_law_same", none)) E.d_law_same ["_law_x", "_law_due"] (defM 3 (m_law_same (adK K) φlaw_same)) := by
  exact FnD.mk x.F_law_same sc_law_same fun cdv A outer s H E hr =>
    have tk := takes_fn (P := P) (w := w) (K := K) (mg := mg) (base := base) (N := ["_law_x", "_law_due", "_law_k"]) (qual := "_law_same") (scope := defScope (top 32)) (f := He.fAd K ("_law_same", none)) (cd := cdv) (A := A) (outer := outer) (s := s) (H := H) (E := E)
    (pss_dcons (ps_dif (pd_truth (pd_callB call_isiA snd_isi x.n_isinstance (pd_cons (pd_var 1) (pd_cons (pd_tup (pd_cons (pd_ty x.n_list) (pd_cons (pd_ty x.n_tuple) pd_nil))) pd_nil)))) (pss_dcons (ps_dif (pd_bopT (pw_dor (pd_cmpT (op_neA hr.units) snd_ne (pd_callB call_isiA snd_isi x.n_isinstance (pd_cons (pd_var 1) (pd_cons (pd_ty x.n_list) pd_nil))) (pd_callB call_isiA snd_isi x.n_isinstance (pd_cons (pd_var 0) (pd_cons (pd_ty x.n_list) pd_nil)))) (pw_dor1 (pd_cmpT (op_neA hr.units) snd_ne (pd_callB call_isiA snd_isi x.n_isinstance (pd_cons (pd_var 1) (pd_cons (pd_ty x.n_tuple) pd_nil))) (pd_callB call_isiA snd_isi x.n_isinstance (pd_cons (pd_var 0) (pd_cons (pd_ty x.n_tuple) pd_nil))))))) (pss_done (ps_dret pd_bl)) pss_dnil)
  (pss_done (ps_dret (pd_and (pd_cmp (op_eqA hr.units) snd_eq (pd_callB call_lenA snd_len x.n_len (pd_cons (pd_var 0) pd_nil)) (pd_callB call_lenA snd_len x.n_len (pd_cons (pd_var 1) pd_nil))) (pd_one (pd_callB (cr_all rfl) snd_all x.n_all (pd_cons (pd_lc [("_law_k", 2)] rfl sc_law_same.nd (pi_drange1 x.n_range (pd_callB call_lenA snd_len x.n_len (pd_cons (pd_var 1) pd_nil))) (blk_of (N := ["_law_x", "_law_due", "_law_k"]) (sc := defScope (top 32)) (by decide +kernel) rfl rfl) (by decide) (fun _ _ _ _ _ => (pg_dname sc_law_same.nd (i := 2) rfl (Or.inl rfl))) (fun _ _ _ _ _ => pts_dnil) (fun _ _ _ _ _ => (pd_call Glaw_same hr x.m_law_same x.F_law_same.kp (b_law_same x) tk_no (pd_cons (pd_ix hr.units (pd_var 0) (pd_var 2)) (pd_cons (pd_ix hr.units (pd_var 1) (pd_var 2)) pd_nil))))) pd_nil))))))) pss_dnil)
  (pss_dcons (ps_dif (pd_bopT (pw_dor (pd_cmpT (op_neA hr.units) snd_ne (pd_callB call_isiA snd_isi x.n_isinstance (pd_cons (pd_var 0) (pd_cons (pd_ty x.n_bool) pd_nil))) (pd_callB call_isiA snd_isi x.n_isinstance (pd_cons (pd_var 1) (pd_cons (pd_ty x.n_bool) pd_nil)))) (pw_dor1 (pd_cmpT (op_neA hr.units) snd_ne (pd_callB call_isiA snd_isi x.n_isinstance (pd_cons (pd_var 0) (pd_cons (pd_ty x.n_str) pd_nil))) (pd_callB call_isiA snd_isi x.n_isinstance (pd_cons (pd_var 1) (pd_cons (pd_ty x.n_str) pd_nil))))))) (pss_done (ps_dret pd_bl)) pss_dnil)
  (pss_done (ps_dret (pd_and (pd_cmp (op_eqA hr.units) snd_eq (pd_cmp op_isA snd_is (pd_var 0) pd_non) (pd_cmp op_isA snd_is (pd_var 1) pd_non)) (pd_one (pd_cmp (op_eqA hr.units) snd_eq (pd_var 0) (pd_var 1))))))))
theorem d_spelled {φlook_row : Fn} {φCounter_init : Fn} {φCounter_of_row : Fn} {φCounter_set_out : Fn} (x : Fx K mg E) (xT : TabsB K mg base) (hk : 3 ≤ k) (Glook_row : FnD P w K mg base (k + 1) (He.fAd K ("look_row", none)) E.d_look_row ["tree"] φlook_row) (MCounter_init : FnD P w K mg base k (He.fAd K ("Counter", some "__init__")) E.d_Counter_init ["self", "book"] φCounter_init) (GCounter_of_row : FnD P w K mg base (k + 1) (He.fAd K ("Counter", some "of_row")) E.d_Counter_of_row ["self", "tree"] φCounter_of_row) (GCounter_set_out : FnD P w K mg base (k + 1) (He.fAd K ("Counter", some "set_out")) E.d_Counter_set_out ["self", "tree"] φCounter_set_out) : FnD P w K mg base (k + 2) (He.fAd K ("spelled", none)) E.d_spelled ["tree", "book", "most"] (defO 4 (m_spelled (adK K) φlook_row φCounter_init φCounter_of_row φCounter_set_out)) := by
  exact FnD.mkO x.F_spelled sc_spelled fun cdv A outer s H E hr =>
    have tk := takes_fn (P := P) (w := w) (K := K) (mg := mg) (base := base) (N := ["tree", "book", "most", "counter"]) (qual := "spelled") (scope := defScope (top 30)) (f := He.fAd K ("spelled", none)) (cd := cdv) (A := A) (outer := outer) (s := s) (H := H) (E := E)
    (pss_dcons (ps_dexpr (pd_call Glook_row hr x.m_look_row x.F_look_row.kp (b_look_row x) (tk_of tk) (pd_cons (pd_var 0) pd_nil)))
  (pss_dcons (ps_dset (i := 3) sc_spelled.nd rfl (Or.inl rfl) (pd_make x.k_Counter MCounter_init hr x.g_Counter (b_Counter_init x) (tk_of tk) (pd_cons (pd_ifExp (pd_cmpT op_isA snd_is (pd_var 1) pd_non) (pd_freeze pd_dnew) (pd_var 1)) pd_nil)))
  (pss_dcons (ps_dif (pd_cmpT op_gtA snd_gt (pd_meth x.c_Counter x.h_Counter_of_row GCounter_of_row hr (b_Counter_of_row x) (tk_of tk) (pd_var 3) (pd_cons (pd_var 0) pd_nil)) (pd_var 2)) (pss_done (ps_draise rfl tk (pmd_mk (x.o_TooMany) grx_TooMany (i_TooMany_init x (by omega)) hr x.g_TooMany (pd_cons (pd_var 2) pd_nil)))) pss_dnil)
  (pss_done (ps_dret (pd_meth x.c_Counter x.h_Counter_set_out GCounter_set_out hr (b_Counter_set_out x) (tk_of tk) (pd_var 3) (pd_cons (pd_var 0) pd_nil)))))))
theorem d_law_draw  (x : Fx K mg E) (xT : TabsB K mg base) (hk : 3 ≤ k) : FnD P w K mg base (k + 2) (He.fAd K ("_law_draw", none)) E.d_law_draw ["_law_d", "_law_many"] (defM 5 (m_law_draw (adK K) )) := by
  exact FnD.mk x.F_law_draw sc_law_draw fun cdv A outer s H E hr =>
    have tk := takes_fn (P := P) (w := w) (K := K) (mg := mg) (base := base) (N := ["_law_d", "_law_many", "_law_cell", "_law_digit", "_law_mix"]) (qual := "_law_draw") (scope := defScope (top 34)) (f := He.fAd K ("_law_draw", none)) (cd := cdv) (A := A) (outer := outer) (s := s) (H := H) (E := E)
    (pss_dcons (ps_dif (pd_bopT (pw_dand (pd_cmpT op_ltA snd_lt (pd_ix hr.units (pd_var 0) pd_int) (pd_var 1)) (pw_dand1 (pd_cmpT op_ltA snd_lt (pd_ix hr.units (pd_var 0) pd_int) (pd_callB call_lenA snd_len x.n_len (pd_cons (pd_ix hr.units (pd_var 0) pd_int) pd_nil)))))) (pss_dcons (ps_dset (i := 2) sc_law_draw.nd rfl (Or.inl rfl) (pd_ix hr.units (pd_ix hr.units (pd_var 0) pd_int) (pd_ix hr.units (pd_var 0) pd_int)))
  (pss_dcons (ps_dseti (pd_var 0) pd_int (pd_op op_addA snd_add (pd_ix hr.units (pd_var 0) pd_int) pd_int))
  (pss_dcons (ps_dseti (pd_var 0) pd_int (pd_ifExp (pd_cmpT op_geA snd_ge (pd_var 2) (pd_op op_pow snd_pow pd_int pd_int)) (pd_var 2) pd_int))
  (pss_done (ps_dseti (pd_var 0) pd_int (pd_op op_mod snd_mod (pd_op op_addA snd_add (pd_op op_addA snd_add (pd_op op_mulA snd_mul (pd_ix hr.units (pd_var 0) pd_int) pd_int) (pd_op op_mod snd_mod (pd_var 2) pd_int)) pd_int) pd_int)))))) pss_dnil)
  (pss_dcons (ps_dif (pd_cmpT op_geA snd_ge (pd_ix hr.units (pd_var 0) pd_int) (pd_var 1)) (pss_dcons (ps_dset (i := 3) sc_law_draw.nd rfl (Or.inl rfl) (pd_op op_mod snd_mod (pd_ix hr.units (pd_var 0) pd_int) (pd_var 1)))
  (pss_dcons (ps_dseti (pd_var 0) pd_int (pd_op op_fdivW snd_fdiv (pd_ix hr.units (pd_var 0) pd_int) (pd_var 1)))
  (pss_done (ps_dret (pd_var 3))))) pss_dnil)
  (pss_dcons (ps_dseti (pd_var 0) pd_int (pd_op op_addA snd_add (pd_ix hr.units (pd_var 0) pd_int) pd_int))
  (pss_dcons (ps_dset (i := 4) sc_law_draw.nd rfl (Or.inl rfl) (pd_op op_addA snd_add (pd_op op_addA snd_add (pd_op op_mulA snd_mul (pd_ix hr.units (pd_var 0) pd_int) pd_int) (pd_op op_mulA snd_mul (pd_ix hr.units (pd_var 0) pd_int) pd_int)) pd_int))
  (pss_dcons (ps_dset (i := 4) sc_law_draw.nd rfl (Or.inl rfl) (pd_op op_addA snd_add (pd_op op_mulA snd_mul (pd_var 4) (pd_op op_addA snd_add (pd_op op_mod snd_mod (pd_var 4) pd_int) pd_int)) (pd_op op_mulA snd_mul (pd_ix hr.units (pd_var 0) pd_int) pd_int)))
  (pss_dcons (ps_dseti (pd_var 0) pd_int (pd_op op_mod snd_mod (pd_var 4) pd_int))
  (pss_done (ps_dret (pd_op op_mod snd_mod (pd_op op_addA snd_add (pd_op op_fdivW snd_fdiv (pd_ix hr.units (pd_var 0) pd_int) pd_int) (pd_op op_mulA snd_mul (pd_op op_mod snd_mod (pd_ix hr.units (pd_var 0) pd_int) pd_int) pd_int)) (pd_var 1))))))))))
theorem d_law_flat_tree  (x : Fx K mg E) (xT : TabsB K mg base) (hk : 3 ≤ k) : FnD P w K mg base (k + 2) (He.fAd K ("_law_flat_tree", none)) E.d_law_flat_tree ["_law_steps"] (defM 1 (m_law_flat_tree (adK K) )) := by
  exact FnD.mk x.F_law_flat_tree sc_law_flat_tree fun cdv A outer s H E hr =>
    have tk := takes_fn (P := P) (w := w) (K := K) (mg := mg) (base := base) (N := ["_law_steps"]) (qual := "_law_flat_tree") (scope := defScope (top 39)) (f := He.fAd K ("_law_flat_tree", none)) (cd := cdv) (A := A) (outer := outer) (s := s) (H := H) (E := E)
    (pss_done (ps_dret (pd_tup (pd_cons (pd_str [115, 116, 101, 112, 115]) (pd_cons (pd_callTy call_tuple_of snd_tuple x.n_tuple (pd_cons (pd_var 0) pd_nil)) pd_nil)))))
theorem d_law_letters  (x : Fx K mg E) (xT : TabsB K mg base) (hk : 3 ≤ k) : FnD P w K mg base (k + 2) (He.fAd K ("_law_letters", none)) E.d_law_letters [] (defM 0 (m_law_letters (adK K) )) := by
  exact FnD.mk x.F_law_letters sc_law_letters fun cdv A outer s H E hr =>
    have tk := takes_fn (P := P) (w := w) (K := K) (mg := mg) (base := base) (N := []) (qual := "_law_letters") (scope := defScope (top 36)) (f := He.fAd K ("_law_letters", none)) (cd := cdv) (A := A) (outer := outer) (s := s) (H := H) (E := E)
    (pss_done (ps_dret (pd_str [97, 98, 99, 100, 101, 102, 103, 104, 105, 106, 107, 108, 109, 110, 111, 112, 113, 114, 115, 116, 117, 118, 119, 120, 121, 122])))
theorem d_law_of {φlaw_draw : Fn} (x : Fx K mg E) (xT : TabsB K mg base) (hk : 3 ≤ k) (Glaw_draw : FnD P w K mg base (k + 1) (He.fAd K ("_law_draw", none)) E.d_law_draw ["_law_d", "_law_many"] φlaw_draw) : FnD P w K mg base (k + 2) (He.fAd K ("_law_of", none)) E.d_law_of ["_law_d", "_law_some"] (defM 2 (m_law_of (adK K) φlaw_draw)) := by
  exact FnD.mk x.F_law_of sc_law_of fun cdv A outer s H E hr =>
    have tk := takes_fn (P := P) (w := w) (K := K) (mg := mg) (base := base) (N := ["_law_d", "_law_some"]) (qual := "_law_of") (scope := defScope (top 35)) (f := He.fAd K ("_law_of", none)) (cd := cdv) (A := A) (outer := outer) (s := s) (H := H) (E := E)
    (pss_done (ps_dret (pd_ix hr.units (pd_var 1) (pd_call Glaw_draw hr x.m_law_draw x.F_law_draw.kp (b_law_draw x) (tk_of tk) (pd_cons (pd_var 0) (pd_cons (pd_callB call_lenA snd_len x.n_len (pd_cons (pd_var 1) pd_nil)) pd_nil))))))
theorem d_law_number {φlaw_draw : Fn} {φlaw_of : Fn} (x : Fx K mg E) (xT : TabsB K mg base) (hk : 3 ≤ k) (Glaw_draw : FnD P w K mg base (k + 1) (He.fAd K ("_law_draw", none)) E.d_law_draw ["_law_d", "_law_many"] φlaw_draw) (Glaw_of : FnD P w K mg base (k + 1) (He.fAd K ("_law_of", none)) E.d_law_of ["_law_d", "_law_some"] φlaw_of) : FnD P w K mg base (k + 2) (He.fAd K ("_law_number", none)) E.d_law_number ["_law_d"] (defM 1 (m_law_number (adK K) φlaw_draw φlaw_of)) := by
  exact FnD.mk x.F_law_number sc_law_number fun cdv A outer s H E hr =>
    have tk := takes_fn (P := P) (w := w) (K := K) (mg := mg) (base := base) (N := ["_law_d"]) (qual := "_law_number") (scope := defScope (top 37)) (f := He.fAd K ("_law_number", none)) (cd := cdv) (A := A) (outer := outer) (s := s) (H := H) (E := E)
    (pss_done (ps_dret (pd_call Glaw_of hr x.m_law_of x.F_law_of.kp (b_law_of x) (tk_of tk) (pd_cons (pd_var 0) (pd_cons (pd_lst (pd_cons pd_int (pd_cons pd_int (pd_cons pd_int (pd_cons pd_int (pd_cons (pd_call Glaw_draw hr x.m_law_draw x.F_law_draw.kp (b_law_draw x) (tk_of tk) (pd_cons (pd_var 0) (pd_cons pd_int pd_nil))) (pd_cons (pd_op op_addA snd_add (pd_op op_pow snd_pow pd_int pd_int) (pd_call Glaw_draw hr x.m_law_draw x.F_law_draw.kp (b_law_draw x) (tk_of tk) (pd_cons (pd_var 0) (pd_cons (pd_op op_pow snd_pow pd_int pd_int) pd_nil)))) (pd_cons (pd_op op_sub snd_sub (pd_op op_pow snd_pow pd_int pd_int) (pd_call Glaw_draw hr x.m_law_draw x.F_law_draw.kp (b_law_draw x) (tk_of tk) (pd_cons (pd_var 0) (pd_cons pd_int pd_nil)))) pd_nil)))))))) pd_nil)))))
theorem d_look_row {φis_row : Fn} (x : Fx K mg E) (xT : TabsB K mg base) (hk : 3 ≤ k) (Gis_row : FnD P w K mg base (k + 1) (He.fAd K ("is_row", none)) E.d_is_row ["tree"] φis_row) : FnD P w K mg base (k + 2) (He.fAd K ("look_row", none)) E.d_look_row ["tree"] (defM 1 (m_look_row (adK K) φis_row)) := by
  exact FnD.mk x.F_look_row sc_look_row fun cdv A outer s H E hr =>
    have tk := takes_fn (P := P) (w := w) (K := K) (mg := mg) (base := base) (N := ["tree"]) (qual := "look_row") (scope := defScope (top 23)) (f := He.fAd K ("look_row", none)) (cd := cdv) (A := A) (outer := outer) (s := s) (H := H) (E := E)
    (pss_done (ps_dif (pd_notT (pd_truth (pd_call Gis_row hr x.m_is_row x.F_is_row.kp (b_is_row x) (tk_of tk) (pd_cons (pd_var 0) pd_nil)))) (pss_done (ps_draise rfl tk (pmd_mk0 (x.o_BadTree) grx_BadTree (i_BadTree_init x (by omega)) hr x.g_BadTree))) pss_dnil))
theorem d_Counter_init  (x : Fx K mg E) (xT : TabsB K mg base) (hk : 3 ≤ k) : FnD P w K mg base (k + 2) (He.fAd K ("Counter", some "__init__")) E.d_Counter_init ["self", "book"] (defK 2 (m_Counter_init (adK K) )) := by
  exact FnD.mkK x.F_Counter_init sc_Counter_init fun cdv A outer s H E hr =>
    have tk := takes_fn (P := P) (w := w) (K := K) (mg := mg) (base := base) (N := ["self", "book"]) (qual := "Counter.__init__") (scope := defScope (clsDef (top 28) 0)) (f := He.fAd K ("Counter", some "__init__")) (cd := cdv) (A := A) (outer := outer) (s := s) (H := H) (E := E)
    (pss_dcons (ps_dfld x.c_Counter x.a_Counter_book (pd_var 0) (pd_var 1))
  (pss_dcons (ps_dfld x.c_Counter x.a_Counter_known (pd_var 0) pd_dnew)
  (pss_done (ps_dfld x.c_Counter x.a_Counter_open_names (pd_var 0) (pd_lstL pd_nil)))))
theorem d_Counter_of_row {φCounter_of_step : Fn} (x : Fx K mg E) (xT : TabsB K mg base) (hk : 3 ≤ k) (GCounter_of_step : FnD P w K mg base (k + 1) (He.fAd K ("Counter", some "of_step")) E.d_Counter_of_step ["self", "step"] φCounter_of_step) : FnD P w K mg base (k + 2) (He.fAd K ("Counter", some "of_row")) E.d_Counter_of_row ["self", "tree"] (defM 4 (m_Counter_of_row (adK K) φCounter_of_step)) := by
  exact FnD.mk x.F_Counter_of_row sc_Counter_of_row fun cdv A outer s H E hr =>
    have tk := takes_fn (P := P) (w := w) (K := K) (mg := mg) (base := base) (N := ["self", "tree", "found", "step"]) (qual := "Counter.of_row") (scope := defScope (clsDef (top 28) 3)) (f := He.fAd K ("Counter", some "of_row")) (cd := cdv) (A := A) (outer := outer) (s := s) (H := H) (E := E)
    (pss_dcons (ps_dset (i := 2) sc_Counter_of_row.nd rfl (Or.inl rfl) pd_int)
  (pss_dcons (ps_dfor (passes_of rfl) rfl (pi_dvals (pd_ix hr.units (pd_var 1) pd_int)) (pg_dname sc_Counter_of_row.nd (i := 3) rfl (Or.inl rfl)) (pss_dcons (ps_daug (n := 2) sc_Counter_of_row.nd rfl (Or.inl rfl) iop_add snd_addI (pd_meth x.c_Counter x.h_Counter_of_step GCounter_of_step hr (b_Counter_of_step x) (tk_of tk) (pd_var 0) (pd_cons (pd_var 3) pd_nil)))
  (pss_done (ps_dif (pd_cmpT op_gtA snd_gt (pd_var 2) (pd_globI x.i_MOST_DONE.choose_spec)) (pss_done (ps_draise rfl tk (pmd_mk (x.o_TooMany) grx_TooMany (i_TooMany_init x (by omega)) hr x.g_TooMany (pd_cons (pd_globI x.i_MOST_DONE.choose_spec) pd_nil)))) pss_dnil))))
  (pss_done (ps_dret (pd_var 2)))))
theorem d_Counter_set_out {φCounter_of_step : Fn} {φCounter_set_out : Fn} (x : Fx K mg E) (xT : TabsB K mg base) (hk : 3 ≤ k) (GCounter_of_step : FnD P w K mg base (k + 1) (He.fAd K ("Counter", some "of_step")) E.d_Counter_of_step ["self", "step"] φCounter_of_step) (GCounter_set_out : FnD P w K mg base (k + 1) (He.fAd K ("Counter", some "set_out")) E.d_Counter_set_out ["self", "tree"] φCounter_set_out) : FnD P w K mg base (k + 2) (He.fAd K ("Counter", some "set_out")) E.d_Counter_set_out ["self", "tree"] (defO 4 (m_Counter_set_out (adK K) φCounter_of_step φCounter_set_out)) := by
  exact FnD.mkO x.F_Counter_set_out sc_Counter_set_out fun cdv A outer s H E hr =>
    have tk := takes_fn (P := P) (w := w) (K := K) (mg := mg) (base := base) (N := ["self", "tree", "found", "step"]) (qual := "Counter.set_out") (scope := defScope (clsDef (top 28) 4)) (f := He.fAd K ("Counter", some "set_out")) (cd := cdv) (A := A) (outer := outer) (s := s) (H := H) (E := E)
    (pss_dcons (ps_dset (i := 2) sc_Counter_set_out.nd rfl (Or.inl rfl) (pd_lstL pd_nil))
  (pss_dcons (ps_dfor (passes_of rfl) rfl (pi_dvals (pd_ix hr.units (pd_var 1) pd_int)) (pg_dname sc_Counter_set_out.nd (i := 3) rfl (Or.inl rfl)) (pss_dcons (ps_dif (pd_cmpT (op_eqA hr.units) snd_eq (pd_meth x.c_Counter x.h_Counter_of_step GCounter_of_step hr (b_Counter_of_step x) (tk_of tk) (pd_var 0) (pd_cons (pd_var 3) pd_nil)) pd_int) (pss_done ps_dcont) pss_dnil)
  (pss_done (ps_dif (pd_cmpT (op_eqA hr.units) snd_eq (pd_ix hr.units (pd_var 3) pd_int) (pd_str [114, 111, 119])) (pss_done (ps_dset (i := 2) sc_Counter_set_out.nd rfl (Or.inl rfl) (pd_addL (pd_var 2) (pd_meth x.c_Counter x.h_Counter_set_out GCounter_set_out hr (b_Counter_set_out x) (tk_of tk) (pd_var 0) (pd_cons (pd_ix hr.units (pd_fld x.c_Counter x.a_Counter_book (pd_var 0)) (pd_ix hr.units (pd_var 3) pd_int)) pd_nil))))) (pss_done (ps_dif (pd_cmpT (op_eqA hr.units) snd_eq (pd_ix hr.units (pd_var 3) pd_int) (pd_str [116, 105, 109, 101, 115])) (pss_done (ps_dset (i := 2) sc_Counter_set_out.nd rfl (Or.inl rfl) (pd_addL (pd_var 2) (pd_op op_mulA snd_mul (pd_meth x.c_Counter x.h_Counter_set_out GCounter_set_out hr (b_Counter_set_out x) (tk_of tk) (pd_var 0) (pd_cons (pd_ix hr.units (pd_var 3) pd_int) pd_nil)) (pd_ix hr.units (pd_var 3) pd_int))))) (pss_done (ps_dexpr (pd_lm PySem.F.slot_list_append PySem.F.type_list_append mt_append snd_append (pd_var 2) (pd_cons (pd_var 3) pd_nil))))))))))
  (pss_done (ps_dret (pd_var 2)))))
theorem d_is_row {φis_built : Fn} {φmany_steps : Fn} {φdeep_of : Fn} (x : Fx K mg E) (xT : TabsB K mg base) (hk : 3 ≤ k) (Gis_built : FnD P w K mg base (k + 1) (He.fAd K ("is_built", none)) E.d_is_built ["tree"] φis_built) (Gmany_steps : FnD P w K mg base (k + 1) (He.fAd K ("many_steps", none)) E.d_many_steps ["tree"] φmany_steps) (Gdeep_of : FnD P w K mg base (k + 1) (He.fAd K ("deep_of", none)) E.d_deep_of ["tree"] φdeep_of) : FnD P w K mg base (k + 2) (He.fAd K ("is_row", none)) E.d_is_row ["tree"] (defM 1 (m_is_row (adK K) φis_built φmany_steps φdeep_of)) := by
  exact FnD.mk x.F_is_row sc_is_row fun cdv A outer s H E hr =>
    have tk := takes_fn (P := P) (w := w) (K := K) (mg := mg) (base := base) (N := ["tree"]) (qual := "is_row") (scope := defScope (top 22)) (f := He.fAd K ("is_row", none)) (cd := cdv) (A := A) (outer := outer) (s := s) (H := H) (E := E)
    (pss_done (ps_dret (pd_and (pd_call Gis_built hr x.m_is_built x.F_is_built.kp (b_is_built x) (tk_of tk) (pd_cons (pd_var 0) pd_nil)) (pd_and (pd_cmp op_leA snd_le (pd_call Gmany_steps hr x.m_many_steps x.F_many_steps.kp (b_many_steps x) (tk_of tk) (pd_cons (pd_var 0) pd_nil)) (pd_globI x.i_MOST_STEPS.choose_spec)) (pd_one (pd_cmp op_leA snd_le (pd_call Gdeep_of hr x.m_deep_of x.F_deep_of.kp (b_deep_of x) (tk_of tk) (pd_cons (pd_var 0) pd_nil)) (pd_globI x.i_MOST_DEEP.choose_spec)))))))
theorem d_Counter_of_step {φCounter_of_name : Fn} {φCounter_of_row : Fn} (x : Fx K mg E) (xT : TabsB K mg base) (hk : 3 ≤ k) (GCounter_of_name : FnD P w K mg base (k + 1) (He.fAd K ("Counter", some "of_name")) E.d_Counter_of_name ["self", "name"] φCounter_of_name) (GCounter_of_row : FnD P w K mg base (k + 1) (He.fAd K ("Counter", some "of_row")) E.d_Counter_of_row ["self", "tree"] φCounter_of_row) : FnD P w K mg base (k + 2) (He.fAd K ("Counter", some "of_step")) E.d_Counter_of_step ["self", "step"] (defM 2 (m_Counter_of_step (adK K) φCounter_of_name φCounter_of_row)) := by
  exact FnD.mk x.F_Counter_of_step sc_Counter_of_step fun cdv A outer s H E hr =>
    have tk := takes_fn (P := P) (w := w) (K := K) (mg := mg) (base := base) (N := ["self", "step"]) (qual := "Counter.of_step") (scope := defScope (clsDef (top 28) 2)) (f := He.fAd K ("Counter", some "of_step")) (cd := cdv) (A := A) (outer := outer) (s := s) (H := H) (E := E)
    (pss_dcons (ps_dif (pd_cmpT (op_eqA hr.units) snd_eq (pd_ix hr.units (pd_var 1) pd_int) (pd_str [114, 111, 119])) (pss_done (ps_dret (pd_meth x.c_Counter x.h_Counter_of_name GCounter_of_name hr (b_Counter_of_name x) (tk_of tk) (pd_var 0) (pd_cons (pd_ix hr.units (pd_var 1) pd_int) pd_nil)))) pss_dnil)
  (pss_done (ps_dret (pd_ifExp (pd_cmpT (op_eqA hr.units) snd_eq (pd_ix hr.units (pd_var 1) pd_int) (pd_str [116, 105, 109, 101, 115])) (pd_op op_mulA snd_mul (pd_ix hr.units (pd_var 1) pd_int) (pd_meth x.c_Counter x.h_Counter_of_row GCounter_of_row hr (b_Counter_of_row x) (tk_of tk) (pd_var 0) (pd_cons (pd_ix hr.units (pd_var 1) pd_int) pd_nil))) pd_int))))
theorem d_is_built {φis_step : Fn} (x : Fx K mg E) (xT : TabsB K mg base) (hk : 3 ≤ k) (Gis_step : FnD P w K mg base (k + 1) (He.fAd K ("is_step", none)) E.d_is_step ["tree"] φis_step) : FnD P w K mg base (k + 2) (He.fAd K ("is_built", none)) E.d_is_built ["tree"] (defM 2 (m_is_built (adK K) φis_step)) := by
  exact FnD.mk x.F_is_built sc_is_built fun cdv A outer s H E hr =>
    have tk := takes_fn (P := P) (w := w) (K := K) (mg := mg) (base := base) (N := ["tree", "step"]) (qual := "is_built") (scope := defScope (top 19)) (f := He.fAd K ("is_built", none)) (cd := cdv) (A := A) (outer := outer) (s := s) (H := H) (E := E)
    (pss_dcons (ps_dif (pd_bopT (pw_dor (pd_notT (pd_truth (pd_callB call_isiA snd_isi x.n_isinstance (pd_cons (pd_var 0) (pd_cons (pd_ty x.n_tuple) pd_nil))))) (pw_dor (pd_cmpT (op_neA hr.units) snd_ne (pd_callB call_lenA snd_len x.n_len (pd_cons (pd_var 0) pd_nil)) pd_int) (pw_dor (pd_cmpT (op_neA hr.units) snd_ne (pd_ix hr.units (pd_var 0) pd_int) (pd_str [115, 116, 101, 112, 115])) (pw_dor1 (pd_notT (pd_truth (pd_callB call_isiA snd_isi x.n_isinstance (pd_cons (pd_ix hr.units (pd_var 0) pd_int) (pd_cons (pd_ty x.n_tuple) pd_nil)))))))))) (pss_done (ps_dret pd_bl)) pss_dnil)
  (pss_done (ps_dret (pd_callB (cr_all rfl) snd_all x.n_all (pd_cons (pd_lc [("step", 1)] rfl sc_is_built.nd (pi_dvals (pd_ix hr.units (pd_var 0) pd_int)) (blk_of (N := ["tree", "step"]) (sc := defScope (top 19)) (by decide +kernel) rfl rfl) (by decide) (fun _ _ _ _ _ => (pg_dname sc_is_built.nd (i := 1) rfl (Or.inl rfl))) (fun _ _ _ _ _ => pts_dnil) (fun _ _ _ _ _ => (pd_call Gis_step hr x.m_is_step x.F_is_step.kp (b_is_step x) tk_no (pd_cons (pd_var 1) pd_nil)))) pd_nil)))))
theorem d_many_steps {φmany_steps : Fn} (x : Fx K mg E) (xT : TabsB K mg base) (hk : 3 ≤ k) (Gmany_steps : FnD P w K mg base (k + 1) (He.fAd K ("many_steps", none)) E.d_many_steps ["tree"] φmany_steps) : FnD P w K mg base (k + 2) (He.fAd K ("many_steps", none)) E.d_many_steps ["tree"] (defM 3 (m_many_steps (adK K) φmany_steps)) := by
  exact FnD.mk x.F_many_steps sc_many_steps fun cdv A outer s H E hr =>
    have tk := takes_fn (P := P) (w := w) (K := K) (mg := mg) (base := base) (N := ["tree", "inner", "step"]) (qual := "many_steps") (scope := defScope (top 20)) (f := He.fAd K ("many_steps", none)) (cd := cdv) (A := A) (outer := outer) (s := s) (H := H) (E := E)
    (pss_dcons (ps_dsetLc [("step", 2)] (i := 1) rfl sc_many_steps.nd rfl rfl rfl (pi_dvals (pd_ix hr.units (pd_var 0) pd_int)) (blk_of (N := ["tree", "inner", "step"]) (sc := defScope (top 20)) (by decide +kernel) rfl rfl) (by decide) (fun _ _ _ _ _ => (pg_dname sc_many_steps.nd (i := 2) rfl (Or.inl rfl))) (fun _ _ _ _ _ => (pts_done (pd_cmpT (op_eqA hr.units) snd_eq (pd_ix hr.units (pd_var 2) pd_int) (pd_str [116, 105, 109, 101, 115])))) (fun _ _ _ _ _ => (pd_call Gmany_steps hr x.m_many_steps x.F_many_steps.kp (b_many_steps x) tk_no (pd_cons (pd_ix hr.units (pd_var 2) pd_int) pd_nil))))
  (pss_done (ps_dret (pd_op op_addA snd_add (pd_callB call_lenA snd_len x.n_len (pd_cons (pd_ix hr.units (pd_var 0) pd_int) pd_nil)) (pd_callB (cr_sum rfl) snd_sum x.n_sum (pd_cons (pd_var 1) pd_nil))))))
theorem d_deep_of {φdeep_of : Fn} (x : Fx K mg E) (xT : TabsB K mg base) (hk : 3 ≤ k) (Gdeep_of : FnD P w K mg base (k + 1) (He.fAd K ("deep_of", none)) E.d_deep_of ["tree"] φdeep_of) : FnD P w K mg base (k + 2) (He.fAd K ("deep_of", none)) E.d_deep_of ["tree"] (defM 2 (m_deep_of (adK K) φdeep_of)) := by
  exact FnD.mk x.F_deep_of sc_deep_of fun cdv A outer s H E hr =>
    have tk := takes_fn (P := P) (w := w) (K := K) (mg := mg) (base := base) (N := ["tree", "step"]) (qual := "deep_of") (scope := defScope (top 21)) (f := He.fAd K ("deep_of", none)) (cd := cdv) (A := A) (outer := outer) (s := s) (H := H) (E := E)
    (pss_done (ps_dret (pd_maxDf rfl hr.units x.n_max (pd_cons (pd_lc [("step", 1)] rfl sc_deep_of.nd (pi_dvals (pd_ix hr.units (pd_var 0) pd_int)) (blk_of (N := ["tree", "step"]) (sc := defScope (top 21)) (by decide +kernel) rfl rfl) (by decide) (fun _ _ _ _ _ => (pg_dname sc_deep_of.nd (i := 1) rfl (Or.inl rfl))) (fun _ _ _ _ _ => (pts_done (pd_cmpT (op_eqA hr.units) snd_eq (pd_ix hr.units (pd_var 1) pd_int) (pd_str [116, 105, 109, 101, 115])))) (fun _ _ _ _ _ => (pd_op op_addA snd_add pd_int (pd_call Gdeep_of hr x.m_deep_of x.F_deep_of.kp (b_deep_of x) tk_no (pd_cons (pd_ix hr.units (pd_var 1) pd_int) pd_nil))))) pd_nil) (pk_dcons pd_int pk_dnil))))
theorem d_Counter_of_name {φrow_of : Fn} {φCounter_of_row : Fn} (x : Fx K mg E) (xT : TabsB K mg base) (hk : 3 ≤ k) (Grow_of : FnD P w K mg base (k + 1) (He.fAd K ("row_of", none)) E.d_row_of ["book", "name"] φrow_of) (GCounter_of_row : FnD P w K mg base (k + 1) (He.fAd K ("Counter", some "of_row")) E.d_Counter_of_row ["self", "tree"] φCounter_of_row) : FnD P w K mg base (k + 2) (He.fAd K ("Counter", some "of_name")) E.d_Counter_of_name ["self", "name"] (defM 3 (m_Counter_of_name (adK K) φrow_of φCounter_of_row)) := by
  exact FnD.mk x.F_Counter_of_name sc_Counter_of_name fun cdv A outer s H E hr =>
    have tk := takes_fn (P := P) (w := w) (K := K) (mg := mg) (base := base) (N := ["self", "name", "tree"]) (qual := "Counter.of_name") (scope := defScope (clsDef (top 28) 1)) (f := He.fAd K ("Counter", some "of_name")) (cd := cdv) (A := A) (outer := outer) (s := s) (H := H) (E := E)
    (pss_dcons (ps_dif (pd_cmpT (op_inA hr.units) snd_in (pd_var 1) (pd_fld x.c_Counter x.a_Counter_known (pd_var 0))) (pss_done (ps_dret (pd_ix hr.units (pd_fld x.c_Counter x.a_Counter_known (pd_var 0)) (pd_var 1)))) pss_dnil)
  (pss_dcons (ps_dset (i := 2) sc_Counter_of_name.nd rfl (Or.inl rfl) (pd_call Grow_of hr x.m_row_of x.F_row_of.kp (b_row_of x) (tk_of tk) (pd_cons (pd_fld x.c_Counter x.a_Counter_book (pd_var 0)) (pd_cons (pd_var 1) pd_nil))))
  (pss_dcons (ps_dif (pd_cmpT (op_inA hr.units) snd_in (pd_var 1) (pd_fld x.c_Counter x.a_Counter_open_names (pd_var 0))) (pss_done (ps_draise rfl tk (pmd_mk (x.o_Ring) grx_Ring (i_Ring_init x (by omega)) hr x.g_Ring (pd_cons (pd_var 1) pd_nil)))) pss_dnil)
  (pss_dcons (ps_dexpr (pd_lm PySem.F.slot_list_append PySem.F.type_list_append mt_append snd_append (pd_fld x.c_Counter x.a_Counter_open_names (pd_var 0)) (pd_cons (pd_var 1) pd_nil)))
  (pss_dcons (ps_dsetx hr.units (pd_fld x.c_Counter x.a_Counter_known (pd_var 0)) (pd_var 1) (pd_meth x.c_Counter x.h_Counter_of_row GCounter_of_row hr (b_Counter_of_row x) (tk_of tk) (pd_var 0) (pd_cons (pd_var 2) pd_nil)))
  (pss_dcons (ps_dexpr (pd_lm0 PySem.F.slot_list_pop PySem.F.type_list_pop mt_pop snd_pop (pd_fld x.c_Counter x.a_Counter_open_names (pd_var 0))))
  (pss_done (ps_dret (pd_ix hr.units (pd_fld x.c_Counter x.a_Counter_known (pd_var 0)) (pd_var 1))))))))))
theorem d_is_step {φare_letters : Fn} {φis_name : Fn} {φis_times : Fn} {φis_built : Fn} (x : Fx K mg E) (xT : TabsB K mg base) (hk : 3 ≤ k) (Gare_letters : FnD P w K mg base (k + 1) (He.fAd K ("are_letters", none)) E.d_are_letters ["text", "least"] φare_letters) (Gis_name : FnD P w K mg base (k + 1) (He.fAd K ("is_name", none)) E.d_is_name ["name"] φis_name) (Gis_times : FnD P w K mg base (k + 1) (He.fAd K ("is_times", none)) E.d_is_times ["many"] φis_times) (Gis_built : FnD P w K mg base (k + 1) (He.fAd K ("is_built", none)) E.d_is_built ["tree"] φis_built) : FnD P w K mg base (k + 2) (He.fAd K ("is_step", none)) E.d_is_step ["tree"] (defM 1 (m_is_step (adK K) φare_letters φis_name φis_times φis_built)) := by
  exact FnD.mk x.F_is_step sc_is_step fun cdv A outer s H E hr =>
    have tk := takes_fn (P := P) (w := w) (K := K) (mg := mg) (base := base) (N := ["tree"]) (qual := "is_step") (scope := defScope (top 18)) (f := He.fAd K ("is_step", none)) (cd := cdv) (A := A) (outer := outer) (s := s) (H := H) (E := E)
    (pss_dcons (ps_dif (pd_bopT (pw_dor (pd_notT (pd_truth (pd_callB call_isiA snd_isi x.n_isinstance (pd_cons (pd_var 0) (pd_cons (pd_ty x.n_tuple) pd_nil))))) (pw_dor (pd_cmpT op_ltA snd_lt (pd_callB call_lenA snd_len x.n_len (pd_cons (pd_var 0) pd_nil)) pd_int) (pw_dor1 (pd_notT (pd_truth (pd_callB call_isiA snd_isi x.n_isinstance (pd_cons (pd_ix hr.units (pd_var 0) pd_int) (pd_cons (pd_ty x.n_str) pd_nil))))))))) (pss_done (ps_dret pd_bl)) pss_dnil)
  (pss_dcons (ps_dif (pd_cmpT (op_eqA hr.units) snd_eq (pd_ix hr.units (pd_var 0) pd_int) (pd_str [99, 97, 108, 108])) (pss_done (ps_dret (pd_and (pd_cmp (op_eqA hr.units) snd_eq (pd_callB call_lenA snd_len x.n_len (pd_cons (pd_var 0) pd_nil)) pd_int) (pd_one (pd_call Gare_letters hr x.m_are_letters x.F_are_letters.kp (b_are_letters x) (tk_of tk) (pd_cons (pd_ix hr.units (pd_var 0) pd_int) (pd_cons pd_int pd_nil))))))) pss_dnil)
  (pss_dcons (ps_dif (pd_cmpT (op_eqA hr.units) snd_eq (pd_ix hr.units (pd_var 0) pd_int) (pd_str [116, 117, 114, 110])) (pss_done (ps_dret (pd_and (pd_cmp (op_eqA hr.units) snd_eq (pd_callB call_lenA snd_len x.n_len (pd_cons (pd_var 0) pd_nil)) pd_int) (pd_one (pd_call Gare_letters hr x.m_are_letters x.F_are_letters.kp (b_are_letters x) (tk_of tk) (pd_cons (pd_ix hr.units (pd_var 0) pd_int) (pd_cons pd_int pd_nil))))))) pss_dnil)
  (pss_dcons (ps_dif (pd_cmpT (op_eqA hr.units) snd_eq (pd_ix hr.units (pd_var 0) pd_int) (pd_str [114, 111, 119])) (pss_done (ps_dret (pd_and (pd_cmp (op_eqA hr.units) snd_eq (pd_callB call_lenA snd_len x.n_len (pd_cons (pd_var 0) pd_nil)) pd_int) (pd_and (pd_callB call_isiA snd_isi x.n_isinstance (pd_cons (pd_ix hr.units (pd_var 0) pd_int) (pd_cons (pd_ty x.n_str) pd_nil))) (pd_one (pd_call Gis_name hr x.m_is_name x.F_is_name.kp (b_is_name x) (tk_of tk) (pd_cons (pd_ix hr.units (pd_var 0) pd_int) pd_nil))))))) pss_dnil)
  (pss_done (ps_dret (pd_and (pd_cmp (op_eqA hr.units) snd_eq (pd_ix hr.units (pd_var 0) pd_int) (pd_str [116, 105, 109, 101, 115])) (pd_and (pd_cmp (op_eqA hr.units) snd_eq (pd_callB call_lenA snd_len x.n_len (pd_cons (pd_var 0) pd_nil)) pd_int) (pd_and (pd_call Gis_times hr x.m_is_times x.F_is_times.kp (b_is_times x) (tk_of tk) (pd_cons (pd_ix hr.units (pd_var 0) pd_int) pd_nil)) (pd_one (pd_call Gis_built hr x.m_is_built x.F_is_built.kp (b_is_built x) (tk_of tk) (pd_cons (pd_ix hr.units (pd_var 0) pd_int) pd_nil))))))))))))
theorem d_row_of  (x : Fx K mg E) (xT : TabsB K mg base) (hk : 3 ≤ k) : FnD P w K mg base (k + 2) (He.fAd K ("row_of", none)) E.d_row_of ["book", "name"] (defM 2 (m_row_of (adK K) )) := by
  exact FnD.mk x.F_row_of sc_row_of fun cdv A outer s H E hr =>
    have tk := takes_fn (P := P) (w := w) (K := K) (mg := mg) (base := base) (N := ["book", "name"]) (qual := "row_of") (scope := defScope (top 27)) (f := He.fAd K ("row_of", none)) (cd := cdv) (A := A) (outer := outer) (s := s) (H := H) (E := E)
    (pss_dcons (ps_dif (pd_cmpT (op_ninA hr.units) snd_nin (pd_var 1) (pd_var 0)) (pss_done (ps_draise rfl tk (pmd_mkX (x.o_NoRow) grx_NoRow (i_NoRow_init x (by omega)) hr x.g_NoRow (pd_cons (pd_var 1) pd_nil)))) pss_dnil)
  (pss_done (ps_dret (pd_ix hr.units (pd_var 0) (pd_var 1)))))
theorem d_are_letters  (x : Fx K mg E) (xT : TabsB K mg base) (hk : 3 ≤ k) : FnD P w K mg base (k + 2) (He.fAd K ("are_letters", none)) E.d_are_letters ["text", "least"] (defM 3 (m_are_letters (adK K) )) := by
  exact FnD.mk x.F_are_letters sc_are_letters fun cdv A outer s H E hr =>
    have tk := takes_fn (P := P) (w := w) (K := K) (mg := mg) (base := base) (N := ["text", "least", "sign"]) (qual := "are_letters") (scope := defScope (top 16)) (f := He.fAd K ("are_letters", none)) (cd := cdv) (A := A) (outer := outer) (s := s) (H := H) (E := E)
    (pss_done (ps_dret (pd_and (pd_callB call_isiA snd_isi x.n_isinstance (pd_cons (pd_var 0) (pd_cons (pd_ty x.n_str) pd_nil))) (pd_and (pd_chain op_leA op_leA snd_le snd_le (pd_var 1) (pd_callB call_lenA snd_len x.n_len (pd_cons (pd_var 0) pd_nil)) (pd_globI x.i_MOST_SIDES.choose_spec)) (pd_one (pd_callB (cr_all rfl) snd_all x.n_all (pd_cons (pd_lc [("sign", 2)] rfl sc_are_letters.nd (pi_dvals (pd_var 0)) (blk_of (N := ["text", "least", "sign"]) (sc := defScope (top 16)) (by decide +kernel) rfl rfl) (by decide) (fun _ _ _ _ _ => (pg_dname sc_are_letters.nd (i := 2) rfl (Or.inl rfl))) (fun _ _ _ _ _ => pts_dnil) (fun _ _ _ _ _ => (pd_cmp (op_inA hr.units) snd_in (pd_var 2) (pd_globS s_LETTERS x.s_LETTERS.choose_spec)))) pd_nil)))))))
theorem d_is_name  (x : Fx K mg E) (xT : TabsB K mg base) (hk : 3 ≤ k) : FnD P w K mg base (k + 2) (He.fAd K ("is_name", none)) E.d_is_name ["name"] (defM 2 (m_is_name (adK K) )) := by
  exact FnD.mk x.F_is_name sc_is_name fun cdv A outer s H E hr =>
    have tk := takes_fn (P := P) (w := w) (K := K) (mg := mg) (base := base) (N := ["name", "sign"]) (qual := "is_name") (scope := defScope (top 15)) (f := He.fAd K ("is_name", none)) (cd := cdv) (A := A) (outer := outer) (s := s) (H := H) (E := E)
    (pss_done (ps_dret (pd_and (pd_chain op_leA op_leA snd_le snd_le pd_int (pd_callB call_lenA snd_len x.n_len (pd_cons (pd_var 0) pd_nil)) (pd_globI x.i_MOST_NAME.choose_spec)) (pd_one (pd_callB (cr_all rfl) snd_all x.n_all (pd_cons (pd_lc [("sign", 1)] rfl sc_is_name.nd (pi_dvals (pd_var 0)) (blk_of (N := ["name", "sign"]) (sc := defScope (top 15)) (by decide +kernel) rfl rfl) (by decide) (fun _ _ _ _ _ => (pg_dname sc_is_name.nd (i := 1) rfl (Or.inl rfl))) (fun _ _ _ _ _ => pts_dnil) (fun _ _ _ _ _ => (pd_cmp (op_inA hr.units) snd_in (pd_var 1) (pd_globS s_SMALL x.s_SMALL.choose_spec)))) pd_nil))))))
theorem d_is_times  (x : Fx K mg E) (xT : TabsB K mg base) (hk : 3 ≤ k) : FnD P w K mg base (k + 2) (He.fAd K ("is_times", none)) E.d_is_times ["many"] (defM 1 (m_is_times (adK K) )) := by
  exact FnD.mk x.F_is_times sc_is_times fun cdv A outer s H E hr =>
    have tk := takes_fn (P := P) (w := w) (K := K) (mg := mg) (base := base) (N := ["many"]) (qual := "is_times") (scope := defScope (top 17)) (f := He.fAd K ("is_times", none)) (cd := cdv) (A := A) (outer := outer) (s := s) (H := H) (E := E)
    (pss_done (ps_dret (pd_and (pd_callB call_isiA snd_isi x.n_isinstance (pd_cons (pd_var 0) (pd_cons (pd_ty x.n_int) pd_nil))) (pd_and (pd_not (pd_callB call_isiA snd_isi x.n_isinstance (pd_cons (pd_var 0) (pd_cons (pd_ty x.n_bool) pd_nil)))) (pd_one (pd_chain op_leA op_leA snd_le snd_le pd_int (pd_var 0) (pd_globI x.i_MOST_TIMES.choose_spec)))))))
theorem p_law_start (x : Fx K mg E) (xT : TabsB K mg base) (h : 5 ≤ k) : FnOk P w K mg base (L2.CX P w) k (He.fAd K ("_law_start", none)) E.d_law_start ["_law_script"] (spStart K) := by
  obtain ⟨k, rfl⟩ : ∃ j, k = j + 1 := ⟨k - 1, by omega⟩
  exact start_ok x.F_law_start sc_law_start fun cdv A outer s H E hr => pss_cons (ps_set (i := 1) sc_law_start.nd rfl (Or.inl rfl) pe_int) (pss_cons (ps_for (passes_of rfl) rfl (pi_list (pe_slice sl_list (pe_var (i := 0) rfl (Or.inl rfl)) po_none (po_some pe_int))) (pg_name (i := 2) sc_law_start.nd rfl (Or.inl rfl)) (pss_one (ps_set (i := 1) sc_law_start.nd rfl (Or.inl rfl) (pe_op op_mod (pe_op op_add (pe_op op_add (pe_op op_mul (pe_var (i := 1) rfl (Or.inl rfl)) pe_int) (pe_op op_mod (pe_var (i := 2) rfl (Or.inl rfl)) pe_int)) pe_int) pe_int)))) (pss_one (ps_ret (pe_lst (pa_cons (pe_callTy call_list_of rfl x.n_list (by decide +kernel) (pa_cons (pe_slice sl_list (pe_var (i := 0) rfl (Or.inl rfl)) po_none (po_some pe_int)) pa_nil)) (pa_cons pe_int (pa_cons pe_int (pa_cons (pe_var (i := 1) rfl (Or.inl rfl)) (pa_cons pe_int pa_nil)))))))))
theorem p_law_letters (x : Fx K mg E) (xT : TabsB K mg base) (h : 5 ≤ k) : FnD P w K mg base k (He.fAd K ("_law_letters", none)) E.d_law_letters [] (φlaw_letters (adK K)) := by
  obtain ⟨k, rfl⟩ : ∃ j, k = j + 2 := ⟨k - 2, by omega⟩
  exact d_law_letters x xT (by omega) 
theorem p_law_draw (x : Fx K mg E) (xT : TabsB K mg base) (h : 5 ≤ k) : FnD P w K mg base k (He.fAd K ("_law_draw", none)) E.d_law_draw ["_law_d", "_law_many"] (φlaw_draw (adK K)) := by
  obtain ⟨k, rfl⟩ : ∃ j, k = j + 2 := ⟨k - 2, by omega⟩
  exact d_law_draw x xT (by omega) 
theorem p_law_names (x : Fx K mg E) (xT : TabsB K mg base) (h : 6 ≤ k) : FnD P w K mg base k (He.fAd K ("_law_names", none)) E.d_law_names ["_law_d", "_law_many"] (φlaw_names (adK K)) := by
  obtain ⟨k, rfl⟩ : ∃ j, k = j + 2 := ⟨k - 2, by omega⟩
  exact d_law_names x xT (by omega) (p_law_letters x xT (by omega)) (p_law_draw x xT (by omega))
theorem p_law_of (x : Fx K mg E) (xT : TabsB K mg base) (h : 6 ≤ k) : FnD P w K mg base k (He.fAd K ("_law_of", none)) E.d_law_of ["_law_d", "_law_some"] (φlaw_of (adK K)) := by
  obtain ⟨k, rfl⟩ : ∃ j, k = j + 2 := ⟨k - 2, by omega⟩
  exact d_law_of x xT (by omega) (p_law_draw x xT (by omega))
theorem p_law_flat_tree (x : Fx K mg E) (xT : TabsB K mg base) (h : 5 ≤ k) : FnD P w K mg base k (He.fAd K ("_law_flat_tree", none)) E.d_law_flat_tree ["_law_steps"] (φlaw_flat_tree (adK K)) := by
  obtain ⟨k, rfl⟩ : ∃ j, k = j + 2 := ⟨k - 2, by omega⟩
  exact d_law_flat_tree x xT (by omega) 
theorem p_law_number (x : Fx K mg E) (xT : TabsB K mg base) (h : 7 ≤ k) : FnD P w K mg base k (He.fAd K ("_law_number", none)) E.d_law_number ["_law_d"] (φlaw_number (adK K)) := by
  obtain ⟨k, rfl⟩ : ∃ j, k = j + 2 := ⟨k - 2, by omega⟩
  exact d_law_number x xT (by omega) (p_law_draw x xT (by omega)) (p_law_of x xT (by omega))
theorem p_law_tower (x : Fx K mg E) (xT : TabsB K mg base) (h : 8 ≤ k) : FnD P w K mg base k (He.fAd K ("_law_tower", none)) E.d_law_tower ["_law_d", "_law_names_here", "_law_k"] (φlaw_tower (adK K)) := by
  obtain ⟨k, rfl⟩ : ∃ j, k = j + 2 := ⟨k - 2, by omega⟩
  exact d_law_tower x xT (by omega) (p_law_draw x xT (by omega)) (p_law_of x xT (by omega)) (p_law_flat_tree x xT (by omega)) (p_law_number x xT (by omega))
theorem pg_law_count (x : Fx K mg E) (xT : TabsB K mg base) : ∀ (n k : Nat), 5 + n ≤ k → FnD P w K mg base k (He.fAd K ("_law_count", none)) E.d_law_count ["_law_book_it", "_law_known", "_law_tree"] (φn_law_count (adK K) n)
  | 0, k, h => FnD.stuck
  | n + 1, k, h => by
    obtain ⟨k, rfl⟩ : ∃ j, k = j + 2 := ⟨k - 2, by omega⟩
    have ih := pg_law_count x xT n (k + 1) (by omega)
    exact d_law_count x xT (by omega) ih
theorem p_law_count (x : Fx K mg E) (xT : TabsB K mg base) (h : 35 ≤ k) : FnD P w K mg base k (He.fAd K ("_law_count", none)) E.d_law_count ["_law_book_it", "_law_known", "_law_tree"] (φlaw_count (adK K)) := (pg_law_count x xT 30 k (by omega))
theorem p_are_letters (x : Fx K mg E) (xT : TabsB K mg base) (h : 5 ≤ k) : FnD P w K mg base k (He.fAd K ("are_letters", none)) E.d_are_letters ["text", "least"] (φare_letters (adK K)) := by
  obtain ⟨k, rfl⟩ : ∃ j, k = j + 2 := ⟨k - 2, by omega⟩
  exact d_are_letters x xT (by omega) 
theorem p_is_name (x : Fx K mg E) (xT : TabsB K mg base) (h : 5 ≤ k) : FnD P w K mg base k (He.fAd K ("is_name", none)) E.d_is_name ["name"] (φis_name (adK K)) := by
  obtain ⟨k, rfl⟩ : ∃ j, k = j + 2 := ⟨k - 2, by omega⟩
  exact d_is_name x xT (by omega) 
theorem p_is_times (x : Fx K mg E) (xT : TabsB K mg base) (h : 5 ≤ k) : FnD P w K mg base k (He.fAd K ("is_times", none)) E.d_is_times ["many"] (φis_times (adK K)) := by
  obtain ⟨k, rfl⟩ : ∃ j, k = j + 2 := ⟨k - 2, by omega⟩
  exact d_is_times x xT (by omega) 
theorem pg_is_built_is_step (x : Fx K mg E) (xT : TabsB K mg base) : ∀ (n k : Nat), 6 + n ≤ k → FnD P w K mg base k (He.fAd K ("is_built", none)) E.d_is_built ["tree"] (φn_is_built (adK K) n) ∧ FnD P w K mg base k (He.fAd K ("is_step", none)) E.d_is_step ["tree"] (φn_is_step (adK K) n)
  | 0, k, h => ⟨FnD.stuck, FnD.stuck⟩
  | n + 1, k, h => by
    obtain ⟨k, rfl⟩ : ∃ j, k = j + 2 := ⟨k - 2, by omega⟩
    have ih := pg_is_built_is_step x xT n (k + 1) (by omega)
    exact ⟨d_is_built x xT (by omega) ih.2, d_is_step x xT (by omega) (p_are_letters x xT (by omega)) (p_is_name x xT (by omega)) (p_is_times x xT (by omega)) ih.1⟩
theorem p_is_built (x : Fx K mg E) (xT : TabsB K mg base) (h : 46 ≤ k) : FnD P w K mg base k (He.fAd K ("is_built", none)) E.d_is_built ["tree"] (φis_built (adK K)) := (pg_is_built_is_step x xT 40 k (by omega)).1
theorem pg_many_steps (x : Fx K mg E) (xT : TabsB K mg base) : ∀ (n k : Nat), 5 + n ≤ k → FnD P w K mg base k (He.fAd K ("many_steps", none)) E.d_many_steps ["tree"] (φn_many_steps (adK K) n)
  | 0, k, h => FnD.stuck
  | n + 1, k, h => by
    obtain ⟨k, rfl⟩ : ∃ j, k = j + 2 := ⟨k - 2, by omega⟩
    have ih := pg_many_steps x xT n (k + 1) (by omega)
    exact d_many_steps x xT (by omega) ih
theorem p_many_steps (x : Fx K mg E) (xT : TabsB K mg base) (h : 45 ≤ k) : FnD P w K mg base k (He.fAd K ("many_steps", none)) E.d_many_steps ["tree"] (φmany_steps (adK K)) := (pg_many_steps x xT 40 k (by omega))
theorem pg_deep_of (x : Fx K mg E) (xT : TabsB K mg base) : ∀ (n k : Nat), 5 + n ≤ k → FnD P w K mg base k (He.fAd K ("deep_of", none)) E.d_deep_of ["tree"] (φn_deep_of (adK K) n)
  | 0, k, h => FnD.stuck
  | n + 1, k, h => by
    obtain ⟨k, rfl⟩ : ∃ j, k = j + 2 := ⟨k - 2, by omega⟩
    have ih := pg_deep_of x xT n (k + 1) (by omega)
    exact d_deep_of x xT (by omega) ih
theorem p_deep_of (x : Fx K mg E) (xT : TabsB K mg base) (h : 45 ≤ k) : FnD P w K mg base k (He.fAd K ("deep_of", none)) E.d_deep_of ["tree"] (φdeep_of (adK K)) := (pg_deep_of x xT 40 k (by omega))
theorem p_is_row (x : Fx K mg E) (xT : TabsB K mg base) (h : 47 ≤ k) : FnD P w K mg base k (He.fAd K ("is_row", none)) E.d_is_row ["tree"] (φis_row (adK K)) := by
  obtain ⟨k, rfl⟩ : ∃ j, k = j + 2 := ⟨k - 2, by omega⟩
  exact d_is_row x xT (by omega) (p_is_built x xT (by omega)) (p_many_steps x xT (by omega)) (p_deep_of x xT (by omega))
theorem p_look_row (x : Fx K mg E) (xT : TabsB K mg base) (h : 48 ≤ k) : FnD P w K mg base k (He.fAd K ("look_row", none)) E.d_look_row ["tree"] (φlook_row (adK K)) := by
  obtain ⟨k, rfl⟩ : ∃ j, k = j + 2 := ⟨k - 2, by omega⟩
  exact d_look_row x xT (by omega) (p_is_row x xT (by omega))
theorem p_Counter_init (x : Fx K mg E) (xT : TabsB K mg base) (h : 5 ≤ k) : FnD P w K mg base k (He.fAd K ("Counter", some "__init__")) E.d_Counter_init ["self", "book"] (φCounter_init (adK K)) := by
  obtain ⟨k, rfl⟩ : ∃ j, k = j + 2 := ⟨k - 2, by omega⟩
  exact d_Counter_init x xT (by omega) 
theorem p_row_of (x : Fx K mg E) (xT : TabsB K mg base) (h : 5 ≤ k) : FnD P w K mg base k (He.fAd K ("row_of", none)) E.d_row_of ["book", "name"] (φrow_of (adK K)) := by
  obtain ⟨k, rfl⟩ : ∃ j, k = j + 2 := ⟨k - 2, by omega⟩
  exact d_row_of x xT (by omega) 
theorem pg_Counter_of_name_Counter_of_row_Counter_of_step (x : Fx K mg E) (xT : TabsB K mg base) : ∀ (n k : Nat), 6 + n ≤ k → FnD P w K mg base k (He.fAd K ("Counter", some "of_name")) E.d_Counter_of_name ["self", "name"] (φn_Counter_of_name (adK K) n) ∧ FnD P w K mg base k (He.fAd K ("Counter", some "of_row")) E.d_Counter_of_row ["self", "tree"] (φn_Counter_of_row (adK K) n) ∧ FnD P w K mg base k (He.fAd K ("Counter", some "of_step")) E.d_Counter_of_step ["self", "step"] (φn_Counter_of_step (adK K) n)
  | 0, k, h => ⟨FnD.stuck, FnD.stuck, FnD.stuck⟩
  | n + 1, k, h => by
    obtain ⟨k, rfl⟩ : ∃ j, k = j + 2 := ⟨k - 2, by omega⟩
    have ih := pg_Counter_of_name_Counter_of_row_Counter_of_step x xT n (k + 1) (by omega)
    exact ⟨d_Counter_of_name x xT (by omega) (p_row_of x xT (by omega)) ih.2.1, d_Counter_of_row x xT (by omega) ih.2.2, d_Counter_of_step x xT (by omega) ih.1 ih.2.1⟩
theorem p_Counter_of_row (x : Fx K mg E) (xT : TabsB K mg base) (h : 46 ≤ k) : FnD P w K mg base k (He.fAd K ("Counter", some "of_row")) E.d_Counter_of_row ["self", "tree"] (φCounter_of_row (adK K)) := (pg_Counter_of_name_Counter_of_row_Counter_of_step x xT 40 k (by omega)).2.1
theorem p_Counter_of_step (x : Fx K mg E) (xT : TabsB K mg base) (h : 46 ≤ k) : FnD P w K mg base k (He.fAd K ("Counter", some "of_step")) E.d_Counter_of_step ["self", "step"] (φCounter_of_step (adK K)) := (pg_Counter_of_name_Counter_of_row_Counter_of_step x xT 40 k (by omega)).2.2
theorem p_many_done (x : Fx K mg E) (xT : TabsB K mg base) (h : 49 ≤ k) : FnD P w K mg base k (He.fAd K ("many_done", none)) E.d_many_done ["tree", "book"] (φmany_done (adK K)) := by
  obtain ⟨k, rfl⟩ : ∃ j, k = j + 2 := ⟨k - 2, by omega⟩
  exact d_many_done x xT (by omega) (p_look_row x xT (by omega)) (p_Counter_init x xT (by omega)) (p_Counter_of_row x xT (by omega))
theorem pg_law_same (x : Fx K mg E) (xT : TabsB K mg base) : ∀ (n k : Nat), 5 + n ≤ k → FnD P w K mg base k (He.fAd K ("_law_same", none)) E.d_law_same ["_law_x", "_law_due"] (φn_law_same (adK K) n)
  | 0, k, h => FnD.stuck
  | n + 1, k, h => by
    obtain ⟨k, rfl⟩ : ∃ j, k = j + 2 := ⟨k - 2, by omega⟩
    have ih := pg_law_same x xT n (k + 1) (by omega)
    exact d_law_same x xT (by omega) ih
theorem p_law_same (x : Fx K mg E) (xT : TabsB K mg base) (h : 45 ≤ k) : FnD P w K mg base k (He.fAd K ("_law_same", none)) E.d_law_same ["_law_x", "_law_due"] (φlaw_same (adK K)) := (pg_law_same x xT 40 k (by omega))
theorem pg_Counter_set_out (x : Fx K mg E) (xT : TabsB K mg base) : ∀ (n k : Nat), 47 + n ≤ k → FnD P w K mg base k (He.fAd K ("Counter", some "set_out")) E.d_Counter_set_out ["self", "tree"] (φn_Counter_set_out (adK K) n)
  | 0, k, h => FnD.stuck
  | n + 1, k, h => by
    obtain ⟨k, rfl⟩ : ∃ j, k = j + 2 := ⟨k - 2, by omega⟩
    have ih := pg_Counter_set_out x xT n (k + 1) (by omega)
    exact d_Counter_set_out x xT (by omega) (p_Counter_of_step x xT (by omega)) ih
theorem p_Counter_set_out (x : Fx K mg E) (xT : TabsB K mg base) (h : 87 ≤ k) : FnD P w K mg base k (He.fAd K ("Counter", some "set_out")) E.d_Counter_set_out ["self", "tree"] (φCounter_set_out (adK K)) := (pg_Counter_set_out x xT 40 k (by omega))
theorem p_spelled (x : Fx K mg E) (xT : TabsB K mg base) (h : 88 ≤ k) : FnD P w K mg base k (He.fAd K ("spelled", none)) E.d_spelled ["tree", "book", "most"] (φspelled (adK K)) := by
  obtain ⟨k, rfl⟩ : ∃ j, k = j + 2 := ⟨k - 2, by omega⟩
  exact d_spelled x xT (by omega) (p_look_row x xT (by omega)) (p_Counter_init x xT (by omega)) (p_Counter_of_row x xT (by omega)) (p_Counter_set_out x xT (by omega))
theorem p_law (x : Fx K mg E) (xT : TabsB K mg base) (h : 91 ≤ k) : FnOk P w K mg base (L2.CX P w) k (He.fAd K ("law", none)) E.d_law ["_law_script"] (spLaw K [((He.cT K ("law", none)).2, "law.<locals>.<lambda>")] 11 (mlaw (adK K))) := by
  obtain ⟨k, rfl⟩ : ∃ j, k = j + 4 := ⟨k - 4, by omega⟩
  exact d_law x xT (by omega) (p_law_start x xT (by omega)) (p_law_names x xT (by omega)) (p_law_tower x xT (by omega)) (p_law_count x xT (by omega)) (p_many_done x xT (by omega)) (p_law_same x xT (by omega)) (p_spelled x xT (by omega)) (p_law_draw x xT (by omega)) (p_law_flat_tree x xT (by omega))
end
end K31
namespace SL
open PySem PySem.Spec L2
open PyProof.Rows hiding St
section
variable {fa : List He.Fa} {fn : List He.DefD} {ex : PySem.W.Frag → Bool}
end
end SL
namespace SL
section
open PySem PySem.W PySem.Calls PyProof.Rows HandSHeadRun
end
end SL
namespace K31
open PySem PySem.Spec L2 SL NC
open PyProof.Rows hiding St
theorem fx_of {K : PySem.W.Frag} {h : Heap} {mg : Str → Option Value} (X : K.In h) (G : h.Ns mainGlobals mg) (c : SaysY fa fn ex K) : ∃ E, Fx K mg E := by
  have cd := c.d
  have r := c.more
  unfold ex at r
  obtain ⟨e0, r⟩ := Bool.and_eq_true_iff.mp r
  obtain ⟨e1, r⟩ := Bool.and_eq_true_iff.mp r
  obtain ⟨e2, r⟩ := Bool.and_eq_true_iff.mp r
  obtain ⟨e3, r⟩ := Bool.and_eq_true_iff.mp r
  obtain ⟨e4, r⟩ := Bool.and_eq_true_iff.mp r
  obtain ⟨e5, r⟩ := Bool.and_eq_true_iff.mp r
  obtain ⟨e6, r⟩ := Bool.and_eq_true_iff.mp r
  obtain ⟨e7, r⟩ := Bool.and_eq_true_iff.mp r
  obtain ⟨e8, r⟩ := Bool.and_eq_true_iff.mp r
  obtain ⟨e9, r⟩ := Bool.and_eq_true_iff.mp r
  obtain ⟨fd_0, F_law⟩ := cd.def_ 0 (d := dd_law) rfl
  obtain ⟨fd_1, F_law_start⟩ := cd.def_ 1 (d := dd_law_start) rfl
  obtain ⟨fd_2, F_law_names⟩ := cd.def_ 2 (d := dd_law_names) rfl
  obtain ⟨fd_3, F_law_tower⟩ := cd.def_ 3 (d := dd_law_tower) rfl
  obtain ⟨fd_4, F_law_count⟩ := cd.def_ 4 (d := dd_law_count) rfl
  obtain ⟨fd_5, F_law_told⟩ := cd.def_ 5 (d := dd_law_told) rfl
  obtain ⟨fd_6, F_many_done⟩ := cd.def_ 6 (d := dd_many_done) rfl
  obtain ⟨fd_7, F_law_same⟩ := cd.def_ 7 (d := dd_law_same) rfl
  obtain ⟨fd_8, F_spelled⟩ := cd.def_ 8 (d := dd_spelled) rfl
  obtain ⟨fd_9, F_law_draw⟩ := cd.def_ 9 (d := dd_law_draw) rfl
  obtain ⟨fd_10, F_law_flat_tree⟩ := cd.def_ 10 (d := dd_law_flat_tree) rfl
  obtain ⟨fd_11, F_law_letters⟩ := cd.def_ 11 (d := dd_law_letters) rfl
  obtain ⟨fd_12, F_law_of⟩ := cd.def_ 12 (d := dd_law_of) rfl
  obtain ⟨fd_13, F_law_number⟩ := cd.def_ 13 (d := dd_law_number) rfl
  obtain ⟨fd_14, F_look_row⟩ := cd.def_ 14 (d := dd_look_row) rfl
  obtain ⟨fd_15, F_Counter_init⟩ := cd.def_ 15 (d := dd_Counter_init) rfl
  obtain ⟨fd_16, F_Counter_of_row⟩ := cd.def_ 16 (d := dd_Counter_of_row) rfl
  obtain ⟨fd_17, F_Counter_set_out⟩ := cd.def_ 17 (d := dd_Counter_set_out) rfl
  obtain ⟨fd_18, F_is_row⟩ := cd.def_ 18 (d := dd_is_row) rfl
  obtain ⟨fd_19, F_Counter_of_step⟩ := cd.def_ 19 (d := dd_Counter_of_step) rfl
  obtain ⟨fd_20, F_is_built⟩ := cd.def_ 20 (d := dd_is_built) rfl
  obtain ⟨fd_21, F_many_steps⟩ := cd.def_ 21 (d := dd_many_steps) rfl
  obtain ⟨fd_22, F_deep_of⟩ := cd.def_ 22 (d := dd_deep_of) rfl
  obtain ⟨fd_23, F_Counter_of_name⟩ := cd.def_ 23 (d := dd_Counter_of_name) rfl
  obtain ⟨fd_24, F_is_step⟩ := cd.def_ 24 (d := dd_is_step) rfl
  obtain ⟨fd_25, F_row_of⟩ := cd.def_ 25 (d := dd_row_of) rfl
  obtain ⟨fd_26, F_are_letters⟩ := cd.def_ 26 (d := dd_are_letters) rfl
  obtain ⟨fd_27, F_is_name⟩ := cd.def_ 27 (d := dd_is_name) rfl
  obtain ⟨fd_28, F_is_times⟩ := cd.def_ 28 (d := dd_is_times) rfl
  obtain ⟨fd_29, F_HallError_init⟩ := cd.def_ 29 (d := dd_HallError_init) rfl
  obtain ⟨fd_30, F_Missing_init⟩ := cd.def_ 30 (d := dd_Missing_init) rfl
  obtain ⟨fd_31, F_BadTree_init⟩ := cd.def_ 31 (d := dd_BadTree_init) rfl
  obtain ⟨fd_32, F_Ring_init⟩ := cd.def_ 32 (d := dd_Ring_init) rfl
  obtain ⟨fd_33, F_TooMany_init⟩ := cd.def_ 33 (d := dd_TooMany_init) rfl
  obtain ⟨fd_34, F_NoRow_init⟩ := cd.def_ 34 (d := dd_NoRow_init) rfl
  exact ⟨⟨fd_0, fd_1, fd_2, fd_3, fd_4, fd_5, fd_6, fd_7, fd_8, fd_9, fd_10, fd_11, fd_12, fd_13, fd_14, fd_15, fd_16, fd_17, fd_18, fd_19, fd_20, fd_21, fd_22, fd_23, fd_24, fd_25, fd_26, fd_27, fd_28, fd_29, fd_30, fd_31, fd_32, fd_33, fd_34⟩, {
    F_law := F_law
    F_law_start := F_law_start
    F_law_names := F_law_names
    F_law_tower := F_law_tower
    F_law_count := F_law_count
    F_law_told := F_law_told
    F_many_done := F_many_done
    F_law_same := F_law_same
    F_spelled := F_spelled
    F_law_draw := F_law_draw
    F_law_flat_tree := F_law_flat_tree
    F_law_letters := F_law_letters
    F_law_of := F_law_of
    F_law_number := F_law_number
    F_look_row := F_look_row
    F_Counter_init := F_Counter_init
    F_Counter_of_row := F_Counter_of_row
    F_Counter_set_out := F_Counter_set_out
    F_is_row := F_is_row
    F_Counter_of_step := F_Counter_of_step
    F_is_built := F_is_built
    F_many_steps := F_many_steps
    F_deep_of := F_deep_of
    F_Counter_of_name := F_Counter_of_name
    F_is_step := F_is_step
    F_row_of := F_row_of
    F_are_letters := F_are_letters
    F_is_name := F_is_name
    F_is_times := F_is_times
    F_HallError_init := F_HallError_init
    F_Missing_init := F_Missing_init
    F_BadTree_init := F_BadTree_init
    F_Ring_init := F_Ring_init
    F_TooMany_init := F_TooMany_init
    F_NoRow_init := F_NoRow_init
    m_law_start := He.glo_ok X G (cd.fact 0 (f := .glo "_law_start") rfl)
    m_law_names := He.glo_ok X G (cd.fact 1 (f := .glo "_law_names") rfl)
    n_range := He.free_ok X G (cd.fact 2 (f := .free "range") rfl)
    m_law_tower := He.glo_ok X G (cd.fact 3 (f := .glo "_law_tower") rfl)
    m_law_count := He.glo_ok X G (cd.fact 4 (f := .glo "_law_count") rfl)
    m_law_told := He.glo_ok X G (cd.fact 5 (f := .glo "_law_told") rfl)
    g_TooMany := He.glo_ok X G (cd.fact 6 (f := .glo "TooMany") rfl)
    m_many_done := He.glo_ok X G (cd.fact 7 (f := .glo "many_done") rfl)
    m_law_same := He.glo_ok X G (cd.fact 8 (f := .glo "_law_same") rfl)
    m_spelled := He.glo_ok X G (cd.fact 9 (f := .glo "spelled") rfl)
    m_law_draw := He.glo_ok X G (cd.fact 10 (f := .glo "_law_draw") rfl)
    n_min := He.free_ok X G (cd.fact 11 (f := .free "min") rfl)
    n_max := He.free_ok X G (cd.fact 12 (f := .free "max") rfl)
    n_list := He.free_ok X G (cd.fact 13 (f := .free "list") rfl)
    n_isinstance := He.free_ok X G (cd.fact 14 (f := .free "isinstance") rfl)
    n_len := He.free_ok X G (cd.fact 15 (f := .free "len") rfl)
    m_law_flat_tree := He.glo_ok X G (cd.fact 16 (f := .glo "_law_flat_tree") rfl)
    i_MOST_DONE := He.int_ok X G (cd.fact 17 (f := .int "MOST_DONE" 1000000000000000000000000000000000000000000000000000000000000) rfl)
    i_MOST_LISTED := He.int_ok X G (cd.fact 18 (f := .int "MOST_LISTED" 400) rfl)
    m_law_letters := He.glo_ok X G (cd.fact 19 (f := .glo "_law_letters") rfl)
    m_law_of := He.glo_ok X G (cd.fact 20 (f := .glo "_law_of") rfl)
    m_law_number := He.glo_ok X G (cd.fact 21 (f := .glo "_law_number") rfl)
    m_look_row := He.glo_ok X G (cd.fact 22 (f := .glo "look_row") rfl)
    k_Counter := He.mkr_ok (cd.fact 23 (f := .mkr "Counter") rfl)
    g_Counter := He.glo_ok X G (cd.fact 24 (f := .glo "Counter") rfl)
    c_Counter := He.cls_ok (cd.fact 25 (f := .cls "Counter") rfl)
    h_Counter_of_row := He.meth_ok (cd.fact 26 (f := .meth "Counter" "of_row") rfl)
    n_tuple := He.free_ok X G (cd.fact 27 (f := .free "tuple") rfl)
    n_all := He.free_ok X G (cd.fact 28 (f := .free "all") rfl)
    n_bool := He.free_ok X G (cd.fact 29 (f := .free "bool") rfl)
    n_str := He.free_ok X G (cd.fact 30 (f := .free "str") rfl)
    h_Counter_set_out := He.meth_ok (cd.fact 31 (f := .meth "Counter" "set_out") rfl)
    m_is_row := He.glo_ok X G (cd.fact 32 (f := .glo "is_row") rfl)
    g_BadTree := He.glo_ok X G (cd.fact 33 (f := .glo "BadTree") rfl)
    a_Counter_book := He.noat_ok (cd.fact 34 (f := .noat "Counter" "book") rfl)
    a_Counter_known := He.noat_ok (cd.fact 35 (f := .noat "Counter" "known") rfl)
    a_Counter_open_names := He.noat_ok (cd.fact 36 (f := .noat "Counter" "open_names") rfl)
    h_Counter_of_step := He.meth_ok (cd.fact 37 (f := .meth "Counter" "of_step") rfl)
    m_is_built := He.glo_ok X G (cd.fact 38 (f := .glo "is_built") rfl)
    m_many_steps := He.glo_ok X G (cd.fact 39 (f := .glo "many_steps") rfl)
    i_MOST_STEPS := He.int_ok X G (cd.fact 40 (f := .int "MOST_STEPS" 60) rfl)
    m_deep_of := He.glo_ok X G (cd.fact 41 (f := .glo "deep_of") rfl)
    i_MOST_DEEP := He.int_ok X G (cd.fact 42 (f := .int "MOST_DEEP" 12) rfl)
    h_Counter_of_name := He.meth_ok (cd.fact 43 (f := .meth "Counter" "of_name") rfl)
    m_is_step := He.glo_ok X G (cd.fact 44 (f := .glo "is_step") rfl)
    n_sum := He.free_ok X G (cd.fact 45 (f := .free "sum") rfl)
    m_row_of := He.glo_ok X G (cd.fact 46 (f := .glo "row_of") rfl)
    g_Ring := He.glo_ok X G (cd.fact 47 (f := .glo "Ring") rfl)
    m_are_letters := He.glo_ok X G (cd.fact 48 (f := .glo "are_letters") rfl)
    m_is_name := He.glo_ok X G (cd.fact 49 (f := .glo "is_name") rfl)
    m_is_times := He.glo_ok X G (cd.fact 50 (f := .glo "is_times") rfl)
    g_NoRow := He.glo_ok X G (cd.fact 51 (f := .glo "NoRow") rfl)
    i_MOST_SIDES := He.int_ok X G (cd.fact 52 (f := .int "MOST_SIDES" 12) rfl)
    s_LETTERS := He.str_ok X G (cd.fact 53 (f := .str "LETTERS" "abcdefghijklmnopqrstuvwxyzABCDEFGHIJKLMNOPQRSTUVWXYZ") rfl)
    i_MOST_NAME := He.int_ok X G (cd.fact 54 (f := .int "MOST_NAME" 8) rfl)
    s_SMALL := He.str_ok X G (cd.fact 55 (f := .str "SMALL" "abcdefghijklmnopqrstuvwxyz") rfl)
    n_int := He.free_ok X G (cd.fact 56 (f := .free "int") rfl)
    i_MOST_TIMES := He.int_ok X G (cd.fact 57 (f := .int "MOST_TIMES" 1000000000000000000000000000000) rfl)
    n_ValueError := He.free_ok X G (cd.fact 58 (f := .free "ValueError") rfl)
    n_LookupError := He.free_ok X G (cd.fact 59 (f := .free "LookupError") rfl)
    g_HallError := He.glo_ok X G (cd.fact 60 (f := .glo "HallError") rfl)
    g_Missing := He.glo_ok X G (cd.fact 61 (f := .glo "Missing") rfl)
    m_law := He.glo_ok X G (cd.fact 62 (f := .glo "law") rfl)
    w_law_law_told := e0
    u_law_law_told := e1
    o_TooMany := oexIB_ok e2 (bb_TooMany_init F_TooMany_init)
    o_BadTree := oexIB_ok e3 (bb_BadTree_init F_BadTree_init)
    o_Ring := oexIB_ok e4 (bb_Ring_init F_Ring_init)
    o_NoRow := oxIB_ok e5 (bb_NoRow_init F_NoRow_init)
    v_VE := veiB_ok e6
    v_LookupError := bxiB_ok e7
    r_HallError := crB_ok e8
    r_Missing := crB_ok e9 }⟩
end K31
namespace Hal
open SL
def Wls (ws : List Nat) : Prop := ws.Pairwise (· < ·) ∧ (∀ c ∈ ws, 97 ≤ c ∧ c ≤ 122) ∧ 1 ≤ ws.length ∧ ws.length ≤ 12
abbrev Sd (ws : List Nat) (s : Nat) : Prop := loL s ∈ ws
section
variable {ws : List Nat} {s t : Nat}
theorem sd_cases (h : Wls ws) (k : Sd ws s) : (97 ≤ s ∧ s ≤ 122 ∧ loL s = s ∧ swL s = s - 32) ∨ (65 ≤ s ∧ s ≤ 90 ∧ loL s = s + 32 ∧ swL s = s + 32) := by
  have hb := h.2.1 _ k
  by_cases c : 65 ≤ s ∧ s ≤ 90
  · refine .inr ⟨c.1, c.2, ?_, ?_⟩
    · unfold loL; rw [if_pos c]
    · unfold swL; rw [if_pos c]
  · have e : loL s = s := by unfold loL; rw [if_neg c]
    rw [e] at hb
    refine .inl ⟨hb.1, hb.2, e, ?_⟩
    unfold swL
    rw [if_neg c, if_pos hb]
theorem lo_sw (h : Wls ws) (k : Sd ws s) : loL (swL s) = loL s := by
  rcases sd_cases h k with ⟨a, b, c, d⟩ | ⟨a, b, c, d⟩
  · rw [c, d]
    unfold loL
    rw [if_pos (by omega)]
    omega
  · rw [c, d]
    unfold loL
    rw [if_neg (by omega)]
theorem sd_sw (h : Wls ws) (k : Sd ws s) : Sd ws (swL s) := by
  show loL (swL s) ∈ ws
  rw [lo_sw h k]
  exact k
theorem sw_sw (h : Wls ws) (k : Sd ws s) : swL (swL s) = s := by
  rcases sd_cases h k with ⟨a, b, c, d⟩ | ⟨a, b, c, d⟩ <;> rcases sd_cases h (sd_sw h k) with ⟨a', b', c', d'⟩ | ⟨a', b', c', d'⟩ <;> rw [d'] <;> omega
theorem sw_ne (h : Wls ws) (k : Sd ws s) : swL s ≠ s := by
  rcases sd_cases h k with ⟨a, b, c, d⟩ | ⟨a, b, c, d⟩ <;> omega
theorem same_wall (h : Wls ws) (k : Sd ws s) (k2 : Sd ws t) (e : loL s = loL t) : s = t ∨ s = swL t := by
  rcases sd_cases h k with ⟨a, b, c, d⟩ | ⟨a, b, c, d⟩ <;> rcases sd_cases h k2 with ⟨a', b', c', d'⟩ | ⟨a', b', c', d'⟩ <;> rw [c, c'] at e <;> omega
theorem sd_small (h : Wls ws) (k : s ∈ ws) : Sd ws s ∧ loL s = s ∧ swL s = s - 32 ∧ upL s = s - 32 ∧ Sd ws (s - 32) ∧ loL (s - 32) = s := by
  have hb := h.2.1 _ k
  have e : loL s = s := by unfold loL; rw [if_neg (by omega)]
  have e2 : loL (s - 32) = s := by unfold loL; rw [if_pos (by omega)]; omega
  refine ⟨by show loL s ∈ ws; rw [e]; exact k, e, ?_, ?_, by show loL (s - 32) ∈ ws; rw [e2]; exact k, e2⟩
  · unfold swL; rw [if_neg (by omega), if_pos hb]
  · unfold upL; rw [if_pos hb]
end
def Br (ws b : List Nat) : Prop := ∃ x y, b = [x, y] ∧ Sd ws x ∧ Sd ws y ∧ loL x < loL y
def Brs (ws : List Nat) (bars : List (List Nat)) : Prop := (∀ b ∈ bars, Br ws b) ∧ bars.Nodup
def Eg (bars : List (List Nat)) (s t : Nat) : Prop := [s, swL t] ∈ bars ∨ [swL t, s] ∈ bars
inductive Rch (ws : List Nat) (bars : List (List Nat)) (s : Nat) : Nat → Prop where
  | self : Rch ws bars s s
  | step {t u : Nat} (h : Rch ws bars s t) (e : Eg bars t u) (k : Sd ws u) : Rch ws bars s u
section
variable {ws : List Nat} {bars : List (List Nat)} {s t : Nat} {r : List Nat}
def Rm (ws r : List Nat) : Prop := r.map loL = ws
def Av (bars : List (List Nat)) (r : List Nat) : Prop := ∀ b ∈ bars, ∃ c ∈ b, c ∉ r
theorem rm_sd (h : Rm ws r) (k : s ∈ r) : Sd ws s := by
  unfold Rm at h
  show loL s ∈ ws
  rw [← h]
  exact List.mem_map_of_mem k
theorem rm_one (hw : Wls ws) (h : Rm ws r) (k : Sd ws s) : s ∈ r ∨ swL s ∈ r := by
  unfold Rm at h
  have k' : loL s ∈ r.map loL := by rw [h]; exact k
  obtain ⟨x, hx, e⟩ := List.mem_map.mp k'
  rcases same_wall hw (rm_sd h hx) k e with z | z
  · left; rw [← z]; exact hx
  · right; rw [← z]; exact hx
theorem inj_of_nodup {f : Nat → Nat} : ∀ {l : List Nat}, (l.map f).Nodup → ∀ x ∈ l, ∀ y ∈ l, f x = f y → x = y
  | [], _, x, hx, _, _, _ => by simp at hx
  | a :: l, h, x, hx, y, hy, e => by
    rw [List.map_cons, List.nodup_cons] at h
    rcases List.mem_cons.mp hx with hx | hx <;> rcases List.mem_cons.mp hy with hy | hy
    · rw [hx, hy]
    · exact absurd (show f a ∈ l.map f by rw [← hx, e]; exact List.mem_map_of_mem hy) h.1
    · exact absurd (show f a ∈ l.map f by rw [← hy, ← e]; exact List.mem_map_of_mem hx) h.1
    · exact inj_of_nodup h.2 x hx y hy e
theorem rm_not (hw : Wls ws) (h : Rm ws r) (k : s ∈ r) : swL s ∉ r := fun z => by
  have hs := rm_sd h k
  have nd : (r.map loL).Nodup := by
    unfold Rm at h
    rw [h]
    exact hw.1.imp (fun h => Nat.ne_of_lt h)
  exact sw_ne hw hs (inj_of_nodup nd _ z _ k (lo_sw hw hs))
theorem closed (hw : Wls ws) (h : Rm ws r) (a : Av bars r) (k : s ∈ r) (e : Eg bars s t) (ht : Sd ws t) : t ∈ r := by
  rcases rm_one hw h ht with z | z
  · exact z
  · rcases e with e | e
    · obtain ⟨c, hc, hn⟩ := a _ e
      rcases List.mem_cons.mp hc with q | q
      · rw [q] at hn; exact absurd k hn
      · rw [List.mem_singleton.mp q] at hn; exact absurd z hn
    · obtain ⟨c, hc, hn⟩ := a _ e
      rcases List.mem_cons.mp hc with q | q
      · rw [q] at hn; exact absurd z hn
      · rw [List.mem_singleton.mp q] at hn; exact absurd k hn
theorem closedR (hw : Wls ws) (h : Rm ws r) (a : Av bars r) (k : s ∈ r) (e : Rch ws bars s t) : t ∈ r := by
  induction e with
  | self => exact k
  | step _ e ht ih => exact closed hw h a ih e ht
def Good (ws : List Nat) (bars : List (List Nat)) : Prop := ∀ s, Sd ws s → ¬ Rch ws bars s (swL s) ∧ ∀ t, Sd ws t → Rch ws bars s t → Rch ws bars t s → t = s
theorem rch_sd (hs : Sd ws s) (h : Rch ws bars s t) : Sd ws t := by
  cases h with
  | self => exact hs
  | step _ _ k => exact k
end
def sdR (a b : Nat) : Prop := loL a < loL b ∨ (loL a = loL b ∧ a ≤ b)
structure HF (ws : List Nat) (bars : List (List Nat)) (F : Nat → List Nat) : Prop where
  mem : ∀ s, Sd ws s → ∀ t, t ∈ F s ↔ Rch ws bars s t
  len : ∀ s, (F s).length ≤ 24
  nd : ∀ s, (F s).Nodup
  srt : ∀ s, (F s).Pairwise sdR
theorem perm_pw {R : Nat → Nat → Prop} (anti : ∀ a b, R a b → R b a → a = b) : ∀ {xs ys : List Nat}, xs.Perm ys → xs.Pairwise R → ys.Pairwise R → xs = ys
  | [], ys, p, _, _ => (List.nil_perm.mp p).symm ▸ rfl
  | x :: xs, [], p, _, _ => absurd (p.length_eq) (by simp)
  | x :: xs, y :: ys, p, h1, h2 => by
    have e : x = y := by
      have mx : x ∈ y :: ys := p.mem_iff.mp List.mem_cons_self
      have my : y ∈ x :: xs := p.mem_iff.mpr List.mem_cons_self
      rcases List.mem_cons.mp mx with e | mx
      · exact e
      · rcases List.mem_cons.mp my with e | my
        · exact e.symm
        · exact anti _ _ (List.rel_of_pairwise_cons h1 my) (List.rel_of_pairwise_cons h2 mx)
    subst e
    rw [perm_pw anti ((List.perm_cons x).mp p) (List.pairwise_cons.mp h1).2 (List.pairwise_cons.mp h2).2]
def stepR (acc : List (List Nat)) (w : Nat) : List (List Nat) := (acc.map fun b => [b ++ [w - 32], b ++ [w]]).flatten
def allR (ws : List Nat) : List (List Nat) := ws.foldl stepR [[]]
theorem snoc_ind {α : Type} {P : List α → Prop} (h0 : P []) (h1 : ∀ xs x, P xs → P (xs ++ [x])) (l : List α) : P l := by
  have : ∀ l : List α, P l.reverse := fun l => by
    induction l with
    | nil => exact h0
    | cons x l ih => rw [List.reverse_cons]; exact h1 _ _ ih
  have h := this l.reverse
  rwa [List.reverse_reverse] at h
theorem allR_snoc (ws : List Nat) (w : Nat) : allR (ws ++ [w]) = stepR (allR ws) w := by simp [allR, List.foldl_append]
theorem mem_stepR {acc : List (List Nat)} {w : Nat} {r : List Nat} : r ∈ stepR acc w ↔ ∃ b ∈ acc, r = b ++ [w - 32] ∨ r = b ++ [w] := by
  unfold stepR
  rw [List.mem_flatten]
  constructor
  · rintro ⟨l, hl, hr⟩
    obtain ⟨b, hb, rfl⟩ := List.mem_map.mp hl
    exact ⟨b, hb, by simpa using hr⟩
  · rintro ⟨b, hb, h⟩
    exact ⟨_, List.mem_map_of_mem hb, by simpa using h⟩
theorem snoc_inj {b c : List Nat} {x y : Nat} (h : b ++ [x] = c ++ [y]) : b = c ∧ x = y := by
  have h1 := List.append_inj' h rfl
  exact ⟨h1.1, by simpa using h1.2⟩
theorem mem_allR : ∀ {ws : List Nat}, (∀ c ∈ ws, 97 ≤ c ∧ c ≤ 122) → ∀ r, r ∈ allR ws ↔ r.map loL = ws := fun {ws} => by
  refine snoc_ind (P := fun ws => (∀ c ∈ ws, 97 ≤ c ∧ c ≤ 122) → ∀ r, r ∈ allR ws ↔ r.map loL = ws) ?_ ?_ ws
  · intro _ r
    simp [allR]
  · intro ws w ih hc r
    have ih := ih (fun c h => hc c (List.mem_append_left _ h))
    have hw := hc w (by simp)
    have e1 : loL w = w := by unfold loL; rw [if_neg (by omega)]
    have e2 : loL (w - 32) = w := by unfold loL; rw [if_pos (by omega)]; omega
    rw [allR_snoc, mem_stepR]
    constructor
    · rintro ⟨b, hb, rfl | rfl⟩
      · rw [List.map_append, (ih b).mp hb]; simp [e2]
      · rw [List.map_append, (ih b).mp hb]; simp [e1]
    · intro h
      have hr : r ≠ [] := fun z => by rw [z] at h; simp at h
      have e := List.dropLast_concat_getLast hr
      rw [← e, List.map_append] at h
      obtain ⟨h1, h2⟩ := snoc_inj (x := loL (r.getLast hr)) (y := w) (by rw [List.map_singleton] at h; exact h)
      refine ⟨r.dropLast, (ih _).mpr h1, ?_⟩
      have : r.getLast hr = w - 32 ∨ r.getLast hr = w := by
        unfold loL at h2
        split at h2 <;> omega
      rcases this with z | z
      · left; rw [← z]; exact e.symm
      · right; rw [← z]; exact e.symm
def pw (ok : List Nat → Nat → Bool) : List Nat → List Nat → Bool
  | _, [] => true
  | pre, x :: r => ok pre x && pw ok (pre ++ [x]) r
section
variable {ws : List Nat} {bars : List (List Nat)} {r : List Nat} {F : Nat → List Nat}
theorem bar_eg (hw : Wls ws) (hb : Brs ws bars) {x y : Nat} (h : [x, y] ∈ bars) : Eg bars x (swL y) ∧ Sd ws (swL y) ∧ loL x < loL y := by
  obtain ⟨x', y', e, h1, h2, h3⟩ := hb.1 _ h
  simp at e
  obtain ⟨rfl, rfl⟩ := e
  exact ⟨.inl (by rw [sw_sw hw h2]; exact h), sd_sw hw h2, h3⟩
def lawR (ws : List Nat) (bars : List (List Nat)) : List (List Nat) := (allR ws).filter fun r => !(bars.any fun b => b.all fun c => decide (c ∈ r))
theorem lawR_test : (!(bars.any fun b => b.all fun c => decide (c ∈ r))) = true ↔ Av bars r := by
  simp only [Bool.not_eq_true', List.any_eq_false, List.all_eq_true, decide_eq_true_eq, Bool.not_eq_true, List.all_eq_false, Av]
  constructor
  · intro h b hb
    have := h b hb
    exact Classical.byContradiction fun z => this fun c hc => Classical.byContradiction fun q => z ⟨c, hc, q⟩
  · intro h b hb z
    obtain ⟨c, hc, q⟩ := h b hb
    exact q (z c hc)
theorem lawR_mem (hw : Wls ws) : r ∈ lawR ws bars ↔ Rm ws r ∧ Av bars r := by
  unfold lawR
  rw [List.mem_filter, lawR_test, mem_allR hw.2.1]
  exact Iff.rfl
end
def apart : List Nat → List Nat → Nat
  | x :: a, y :: b => (if x = y then 0 else 1) + apart a b
  | _, _ => 0
section
variable {ws : List Nat} {bars : List (List Nat)} {r g : List Nat}
open Classical in
/-- a side that is in g alone and forces no other such -/
theorem least (hw : Wls ws) (gd : Good ws bars) (hg : Rm ws g) : ∀ (n : Nat) (s : Nat), s ∈ g → s ∉ r → ((g.filter fun t => decide (t ∉ r ∧ Rch ws bars s t)).length ≤ n) → ∃ s, s ∈ g ∧ s ∉ r ∧ ∀ t, t ∈ g → t ∉ r → Rch ws bars s t → t = s
  | 0, s, hs, hr, h => by
    have : s ∈ g.filter fun t => decide (t ∉ r ∧ Rch ws bars s t) := List.mem_filter.mpr ⟨hs, decide_eq_true ⟨hr, .self⟩⟩
    have := List.length_pos_of_mem this
    omega
  | n + 1, s, hs, hr, h => by
    by_cases hx : ∃ t, t ∈ g ∧ t ∉ r ∧ Rch ws bars s t ∧ t ≠ s
    · obtain ⟨t, ht, htr, hst, hne⟩ := hx
      refine least hw gd hg n t ht htr ?_
      have trans : ∀ {u : Nat}, Rch ws bars t u → Rch ws bars s u := fun h => by
        induction h with
        | self => exact hst
        | step _ e k ih => exact .step ih e k
      have sub : (g.filter fun u => decide (u ∉ r ∧ Rch ws bars t u)).length < (g.filter fun u => decide (u ∉ r ∧ Rch ws bars s u)).length := by
        have key : ∀ l : List Nat, (l.filter fun u => decide (u ∉ r ∧ Rch ws bars t u)).length ≤ (l.filter fun u => decide (u ∉ r ∧ Rch ws bars s u)).length := fun l => by
          induction l with
          | nil => simp
          | cons u l ih =>
            rw [List.filter_cons, List.filter_cons]
            by_cases h1 : u ∉ r ∧ Rch ws bars t u
            · rw [if_pos (decide_eq_true h1), if_pos (decide_eq_true ⟨h1.1, trans h1.2⟩)]
              simp only [List.length_cons]; omega
            · rw [if_neg (by simpa using h1)]
              split
              · simp only [List.length_cons]; omega
              · exact ih
        have key2 : ∀ l : List Nat, s ∈ l → (l.filter fun u => decide (u ∉ r ∧ Rch ws bars t u)).length < (l.filter fun u => decide (u ∉ r ∧ Rch ws bars s u)).length := fun l => by
          induction l with
          | nil => intro h; simp at h
          | cons u l ih =>
            intro hm
            rw [List.filter_cons, List.filter_cons]
            by_cases hu : u = s
            · subst hu
              have h1 : ¬ (u ∉ r ∧ Rch ws bars t u) := fun z => hne ((gd u (rm_sd hg hs)).2 t (rm_sd hg ht) hst z.2)
              rw [if_neg (by simpa using h1), if_pos (decide_eq_true ⟨hr, .self⟩)]
              have := key l
              simp only [List.length_cons]; omega
            · have ih := ih ((List.mem_cons.mp hm).resolve_left (fun e => hu e.symm))
              by_cases h1 : u ∉ r ∧ Rch ws bars t u
              · rw [if_pos (decide_eq_true h1), if_pos (decide_eq_true ⟨h1.1, trans h1.2⟩)]
                simp only [List.length_cons]; omega
              · rw [if_neg (by simpa using h1)]
                split
                · simp only [List.length_cons]; omega
                · exact ih
        exact key2 g hs
      omega
    · refine ⟨s, hs, hr, fun t ht htr hst => ?_⟩
      exact Classical.byContradiction fun z => hx ⟨t, ht, htr, hst, z⟩
end
section
variable {ws : List Nat} {bars : List (List Nat)} {s t u : Nat} {r q S P : List Nat} {F : Nat → List Nat}
theorem rch_one (e : Eg bars s t) (k : Sd ws t) : Rch ws bars s t := .step .self e k
def Pt (ws P : List Nat) : Prop := (∀ c ∈ P, Sd ws c) ∧ (P.map loL).Pairwise (· < ·)
def Sh (ws : List Nat) (bars : List (List Nat)) (P : List Nat) (t : Nat) : Prop := ∃ s ∈ P, Rch ws bars s t
structure Cl (ws : List Nat) (bars : List (List Nat)) (S : List Nat) : Prop where
  sd : ∀ t ∈ S, Sd ws t
  cl : ∀ t ∈ S, ∀ u, Rch ws bars t u → u ∈ S
  no : ∀ t ∈ S, swL t ∉ S
def Tog (ws : List Nat) (bars : List (List Nat)) (P : List Nat) : Prop := ∀ s ∈ P, ∀ t ∈ P, ¬ Rch ws bars s (swL t)
def wr (r S : List Nat) : List Nat := r.map fun c => if swL c ∈ S then swL c else c
theorem wr_in (c : Cl ws bars S) (hw : Wls ws) (hr : Rm ws r) (ht : t ∈ S) : t ∈ wr r S := by
  have hs := c.sd t ht
  unfold wr
  rw [List.mem_map]
  rcases rm_one hw hr hs with h | h
  · refine ⟨t, h, ?_⟩
    rw [if_neg (c.no t ht)]
  · refine ⟨swL t, h, ?_⟩
    rw [sw_sw hw hs, if_pos ht]
theorem wr_mem (h : t ∈ wr r S) (hw : Wls ws) (hr : Rm ws r) : (t ∈ S ∨ (t ∈ r ∧ swL t ∉ S)) := by
  unfold wr at h
  obtain ⟨c, hc, e⟩ := List.mem_map.mp h
  split at e
  · rename_i h1; subst e; exact .inl h1
  · rename_i h1; subst e; exact .inr ⟨hc, h1⟩
theorem wr_rm (hw : Wls ws) (hr : Rm ws r) : Rm ws (wr r S) := by
  unfold Rm wr
  rw [List.map_map]
  have h : r.map loL = ws := hr
  conv => rhs; rw [← h]
  refine List.map_congr_left fun c hc => ?_
  show loL (if swL c ∈ S then swL c else c) = loL c
  split
  · exact lo_sw hw (rm_sd hr hc)
  · rfl
theorem wr_av (hw : Wls ws) (hb : Brs ws bars) (c : Cl ws bars S) (hr : Rm ws r) (ar : Av bars r) : Av bars (wr r S) := fun b hbm => by
  obtain ⟨x, y, rfl, hx, hy, _⟩ := hb.1 b hbm
  apply Classical.byContradiction
  intro hno
  have h1 : x ∈ wr r S := Classical.byContradiction fun z => hno ⟨x, by simp, z⟩
  have h2 : y ∈ wr r S := Classical.byContradiction fun z => hno ⟨y, by simp, z⟩
  have e1 : Eg bars x (swL y) := .inl (by rw [sw_sw hw hy]; exact hbm)
  have e2 : Eg bars y (swL x) := .inr (by rw [sw_sw hw hx]; exact hbm)
  have nox : swL x ∉ S := fun z => by
    have := wr_in c hw hr z
    exact rm_not hw (wr_rm hw hr) h1 this
  have noy : swL y ∉ S := fun z => by
    have := wr_in c hw hr z
    exact rm_not hw (wr_rm hw hr) h2 this
  rcases wr_mem h1 hw hr with h1 | ⟨h1, _⟩
  · exact noy (c.cl x h1 _ (rch_one e1 (sd_sw hw hy)))
  · rcases wr_mem h2 hw hr with h2 | ⟨h2, _⟩
    · exact nox (c.cl y h2 _ (rch_one e2 (sd_sw hw hx)))
    · obtain ⟨z, hz, hn⟩ := ar _ hbm
      simp at hz
      rcases hz with rfl | rfl
      · exact hn h1
      · exact hn h2
theorem nodup_perm {a b : List Nat} (ha : a.Nodup) (hb : b.Nodup) (h : ∀ x, x ∈ a ↔ x ∈ b) : a.Perm b := (List.perm_ext_iff_of_nodup ha hb).mpr h
theorem pw_and (f g : List Nat → Nat → Bool) : ∀ (r pre : List Nat), pw (fun b x => f b x && g b x) pre r = (pw f pre r && pw g pre r)
  | [], _ => rfl
  | x :: r, pre => by
    simp only [pw, pw_and f g r]
    cases f pre x <;> cases g pre x <;> cases pw f (pre ++ [x]) r <;> simp
end
end Hal
namespace NC
open PySem PySem.Spec L2 SL Hal
local macro_rules
  | `(tactic| infer_instance) => `(tactic| first
    | ((with_reducible first
        | refine wf_seq ?_ | refine wf_if ?_ | refine wp_ifM ?_ | refine wp_appN ?_ | refine wf_asg ?_ | refine wf_ret ?_ | refine wf_retN ?_ | refine wf_expr ?_ | refine wf_nxM ?_ | refine wf_ctM ?_ | refine wf_bkM ?_ | refine wf_asgT ?_ | refine wf_raise ?_
        | refine wp_op2 ?_ | refine wp_op1 ?_ | refine wp_callG ?_ | refine wp_cons ?_ | refine wp_nil ?_ | refine wp_c ?_ | refine wp_cmpB ?_ | refine wp_trM ?_ | refine wp_notB ?_ | refine wp_andB ?_ | refine wp_orB ?_ | refine wp_andM ?_ | refine wp_orM ?_ | refine wp_notM ?_ | refine wp_ch ?_ | refine wp_sl ?_ | refine wp_soO ?_ | refine wp_noO ?_ | refine wp_fmt ?_ | refine wp_callKG ?_ | refine wp_yes ?_ | refine wp_mkx ?_ | refine wp_bM ?_ | refine wp_freeze ?_ | refine wf_par ?_ | refine wf_asgU ?_
        | refine gw_addI ?_ | refine gw_subI ?_ | refine gw_ltI ?_ | refine gw_leI ?_ | refine gw_gtI ?_ | refine gw_geI ?_ | refine gw_eqI ?_ | refine gw_neI ?_ | refine gw_eqS ?_ | refine gw_neS ?_ | refine gw_inC ?_ | refine gw_ninC ?_ | refine gw_ltS ?_ | refine gw_inL ?_ | refine gw_ninL ?_ | refine gw_sorted ?_ | refine gw_sortedT ?_ | refine gw_keys ?_ | refine gw_eqB ?_ | refine gw_neB ?_
        | refine gb_ltI ?_ | refine gb_leI ?_ | refine gb_gtI ?_ | refine gb_geI ?_ | refine gb_eqI ?_ | refine gb_neI ?_ | refine gb_eqS ?_ | refine gb_neS ?_ | refine gb_inC ?_ | refine gb_ninC ?_ | refine gb_inL ?_ | refine gb_ninL ?_ | refine gb_bl ?_ | refine gt_bl ?_ | refine gt_int ?_ | refine gt_lst ?_ | refine gt_tup ?_
        | refine gw_asI ?_ | refine gw_slT ?_ | refine gw_slL ?_ | refine gw_lenL ?_ | refine gw_lenT ?_ | refine gw_tuple ?_ | refine gw_tupleT ?_ | refine gw_tupleEnd ?_ | refine gw_lenEnd ?_ | refine gw_all ?_ | refine gw_any ?_ | refine gw_sum ?_ | refine gw_intI ?_ | refine gw_intB ?_ | refine gw_ix0L ?_ | refine gw_ix0T ?_ | refine gw_ix1L ?_ | refine gw_ix1T ?_ | refine gw_ix2L ?_ | refine gw_ix2T ?_))
    | ((with_reducible apply wp_v); (· rfl))
    | (with_reducible refine wp_appA ?_)
    | (with_reducible refine wp_mtS ?_)
    | (refine wp_fO (by rfl) (by rfl) ?_)
    | (refine wp_mO (by rfl) (by rfl) ?_)
    | (with_reducible first | refine gw_addS ?_ | refine gw_addL ?_ | refine gw_addT ?_ | refine gw_mulR ?_ | refine gw_mulL ?_ | refine gw_modI ?_ | refine gw_fdivI ?_ | refine gw_tup ?_ | refine gw_lst ?_ | refine gw_lenS ?_ | refine gw_slTo ?_ | refine gw_slFrom ?_ | refine gw_slFT ?_ | refine gw_slS ?_ | refine gw_pow ?_ | refine gw_swap ?_ | refine gw_isup ?_ | refine gw_upper1 ?_ | refine gw_lower1 ?_ | refine gw_upper ?_ | refine gw_lower ?_ | refine gw_str ?_ | refine gw_mulS ?_)
    | (refine ⟨rfl, ?_⟩))
  | `(tactic| sizeOf_list_dec) => `(tactic| (refine wp_def ?_; simp only [startD, List.map_cons, List.map_nil, List.length_cons, List.length_nil, Nat.reduceAdd, Nat.reduceSub, List.replicate_succ, List.replicate_zero, List.cons_append, List.nil_append, Nat.zero_add]))
def w_call : List Nat := [99, 97, 108, 108]
def w_turn : List Nat := [116, 117, 114, 110]
def w_row : List Nat := [114, 111, 119]
def w_times : List Nat := [116, 105, 109, 101, 115]
def w_steps : List Nat := [115, 116, 101, 112, 115]
def glue (ws : List (List Nat)) : List Nat := if ws = [] then [45] else joinL [32] ws
inductive Rw where
  | nil
  | call (x : List Nat) (r : Rw)
  | turn (x : List Nat) (r : Rw)
  | row (x : List Nat) (r : Rw)
  | times (n : Nat) (t r : Rw)
namespace Rw
def its : Rw → List SL.D
  | nil => []
  | call x r => .tup [.str w_call, .str x] :: its r
  | turn x r => .tup [.str w_turn, .str x] :: its r
  | row x r => .tup [.str w_row, .str x] :: its r
  | times n t r => .tup [.str w_times, .int n, .tup [.str w_steps, .tup (its t)]] :: its r
def wds : Rw → List (List Nat)
  | nil => []
  | call x r => ([46] ++ x) :: wds r
  | turn x r => ([126] ++ x) :: wds r
  | row x r => ([60] ++ x ++ [62]) :: wds r
  | times n t r => ([40] ++ glue (wds t) ++ [41, 42] ++ strI n) :: wds r
def cnt : Rw → Nat
  | nil => 0
  | call _ r => cnt r + 1
  | turn _ r => cnt r + 1
  | row _ r => cnt r + 1
  | times _ t r => cnt t + cnt r + 1
def dp : Rw → Nat
  | nil => 0
  | call _ r => dp r
  | turn _ r => dp r
  | row _ r => dp r
  | times _ t r => max (dp t + 1) (dp r)
def wt : Rw → Nat
  | nil => 1
  | call x r => x.length + 2 + wt r
  | turn x r => x.length + 2 + wt r
  | row x r => x.length + 3 + wt r
  | times n t r => wt t + (strI n).length + 4 + wt r
def ok : Rw → Prop
  | nil => True
  | call x r => x.length ≤ 12 ∧ (∀ c ∈ x, c ∈ s_LETTERS) ∧ ok r
  | turn x r => 1 ≤ x.length ∧ x.length ≤ 12 ∧ (∀ c ∈ x, c ∈ s_LETTERS) ∧ ok r
  | row x r => 1 ≤ x.length ∧ x.length ≤ 8 ∧ (∀ c ∈ x, c ∈ s_SMALL) ∧ ok r
  | times n t r => n ≤ 10 ^ 30 ∧ ok t ∧ ok r
end Rw
def tD (t : Rw) : SL.D := .tup [.str w_steps, .tup t.its]
def txt (t : Rw) : List Nat := glue t.wds
theorem its_wds : ∀ t : Rw, t.its.length = t.wds.length
  | .nil => rfl
  | .call _ r => congrArg (· + 1) (its_wds r)
  | .turn _ r => congrArg (· + 1) (its_wds r)
  | .row _ r => congrArg (· + 1) (its_wds r)
  | .times _ _ r => congrArg (· + 1) (its_wds r)
theorem joinL_len (s : List Nat) : ∀ ls : List (List Nat), (joinL s ls).length ≤ (ls.map List.length).sum + ls.length * s.length
  | [] => by simp [joinL]
  | [x] => by simp [joinL]
  | x :: y :: r => by
    have := joinL_len s (y :: r)
    have e : (x :: y :: r).length * s.length = (y :: r).length * s.length + s.length := by simp [Nat.add_mul]
    simp only [joinL, List.length_append, List.map_cons, List.sum_cons] at this ⊢
    rw [e]
    omega
theorem glue_len (ws : List (List Nat)) : (glue ws).length ≤ (ws.map List.length).sum + ws.length + 1 := by
  unfold glue
  split
  · simp
  · have := joinL_len [32] ws
    simp only [List.length_cons, List.length_nil] at this
    omega
theorem wds_len : ∀ t : Rw, (t.wds.map List.length).sum + t.wds.length + 1 ≤ t.wt
  | .nil => by simp [Rw.wds, Rw.wt]
  | .call x r => by have := wds_len r; simp [Rw.wds, Rw.wt]; omega
  | .turn x r => by have := wds_len r; simp [Rw.wds, Rw.wt]; omega
  | .row x r => by have := wds_len r; simp [Rw.wds, Rw.wt]; omega
  | .times n t r => by
    have := wds_len r
    have h1 := wds_len t
    have h2 := glue_len t.wds
    simp [Rw.wds, Rw.wt]
    omega
theorem its_len (t : Rw) : t.its.length < t.wt := by
  rw [its_wds]
  have := wds_len t
  omega
section
variable {A : Ad} {φ : Fn} {S : Store} {x : List Nat}
theorem seq_no {nc : MB} {m1 m2 : MS} {δ : DEnv} {S S1 : Store} (h : nc δ S = .ok false S1) : seqM (ifSM nc m1 nxM) m2 δ S = m2 δ S1 := seq_nx (if_fnx h)
theorem sgn_at {x : List Nat} {k : Nat} {d : SL.D} (h : (SL.signs x)[k]? = some d) : ∃ c, c ∈ x ∧ d = .str [c] := by
  have h' : (x.map fun c => SL.D.str [c])[k]? = some d := h
  rw [List.getElem?_map] at h'
  cases e : x[k]? with
  | none => rw [e] at h'; cases h'
  | some c =>
    rw [e] at h'
    cases h'
    exact ⟨c, List.mem_of_getElem? e, rfl⟩
theorem all_bl {xs : List SL.D} (h : ∀ (k : Nat) (y : SL.D), xs[k]? = some y → y = SL.D.bl true) {S : Store} : allG S [.lst xs] = some (.bl true) := by
  obtain ⟨bs, f1, f2⟩ := bs_all h
  show (match asBs xs with | some bs => some (SL.D.bl (bs.all id)) | none => none) = _
  rw [f1]
  simp [f2]
theorem are_ok {least : Int} (hx : x.length ≤ 12) (hl : least ≤ x.length) (ha : ∀ c ∈ x, c ∈ s_LETTERS) : φare_letters A [.str x, .int least] S = .ok (.bl true) S := by
  have hf : φare_letters A [.str x, .int least] S = finD S (m_are_letters A [some (.str x), some (.int least), none] S) := rfl
  rw [hf]
  have hc := comp_gen (mi := srcV (vM 0)) (el := op2M inG (vM 2) (cM (.str s_LETTERS))) (i := 2) (δ := [some (.str x), some (.int least), none]) (S := S) (S1 := S) (src := .vals (.str x)) (ds := SL.signs x) (Inv := fun S0 => S0 = S) (P := fun k y => y = SL.D.bl true) rfl rfl (fun S0 h => by rw [h]) (fun S0 h => by rw [h]; exact Settles.same) (fun S0 t' h => rfl) (by unfold SL.signs; simp; omega) (fun k d hd S0 acc hI => by
    obtain ⟨c, hcm, rfl⟩ := sgn_at hd
    refine ⟨.bl true, S0, hI, rfl, rfl, ?_⟩
    simp only [op2M, vM, cM, gInC, ha c hcm, decide_true, bind_ok, RO_some, List.set_cons_succ, List.set_cons_zero, List.getElem?_cons_zero, List.getElem?_cons_succ])
  obtain ⟨xs, S2, rfl, e2, e3, e4, e5⟩ := hc
  have l0 : lenG S2 [.str x] = some (.int x.length) := gLenS (by omega)
  have h12 : (x.length : Int) ≤ 12 := by omega
  have : m_are_letters A [some (.str x), some (.int least), none] S2 = .rt (.bl true) S2 := by
    unfold m_are_letters
    refine ret_ok ?_
    rw [andM_t (callG_ok (two_ok (v_ok rfl) c_ok) rfl)]
    rw [andM_t (ch_t (v_ok (d := .int least) rfl) (callG_ok (one_ok (v_ok rfl)) l0) (gLeI.trans (by rw [decide_eq_true hl])) c_ok (gLeI.trans (by rw [decide_eq_true h12])))]
    exact callG_ok (one_ok e5) (all_bl e3)
  rw [this]
  exact rt_fin rfl
theorem name_ok (h1 : 1 ≤ x.length) (hx : x.length ≤ 8) (ha : ∀ c ∈ x, c ∈ s_SMALL) : φis_name A [.str x] S = .ok (.bl true) S := by
  have hf : φis_name A [.str x] S = finD S (m_is_name A [some (.str x), none] S) := rfl
  rw [hf]
  have hc := comp_gen (mi := srcV (vM 0)) (el := op2M inG (vM 1) (cM (.str s_SMALL))) (i := 1) (δ := [some (.str x), none]) (S := S) (S1 := S) (src := .vals (.str x)) (ds := SL.signs x) (Inv := fun S0 => S0 = S) (P := fun k y => y = SL.D.bl true) rfl rfl (fun S0 h => by rw [h]) (fun S0 h => by rw [h]; exact Settles.same) (fun S0 t' h => rfl) (by unfold SL.signs; simp; omega) (fun k d hd S0 acc hI => by
    obtain ⟨c, hcm, rfl⟩ := sgn_at hd
    refine ⟨.bl true, S0, hI, rfl, rfl, ?_⟩
    simp only [op2M, vM, cM, gInC, ha c hcm, decide_true, bind_ok, RO_some, List.set_cons_succ, List.set_cons_zero, List.getElem?_cons_zero, List.getElem?_cons_succ])
  obtain ⟨xs, S2, rfl, e2, e3, e4, e5⟩ := hc
  have l0 : lenG S2 [.str x] = some (.int x.length) := gLenS (by omega)
  have h1' : (1 : Int) ≤ x.length := by omega
  have h8 : (x.length : Int) ≤ 8 := by omega
  have : m_is_name A [some (.str x), none] S2 = .rt (.bl true) S2 := by
    unfold m_is_name
    refine ret_ok ?_
    rw [andM_t (ch_t c_ok (callG_ok (one_ok (v_ok rfl)) l0) (gLeI.trans (by rw [decide_eq_true h1'])) c_ok (gLeI.trans (by rw [decide_eq_true h8])))]
    exact callG_ok (one_ok e5) (all_bl e3)
  rw [this]
  exact rt_fin rfl
theorem times_ok {n : Nat} (hn : n ≤ 10 ^ 30) : φis_times A [.int n] S = .ok (.bl true) S := by
  have hf : φis_times A [.int n] S = finD S (m_is_times A [some (.int n)] S) := rfl
  rw [hf]
  have h0 : (0 : Int) ≤ n := by omega
  have h1 : (n : Int) ≤ 1000000000000000000000000000000 := by
    have : (10 ^ 30 : Nat) = 1000000000000000000000000000000 := by decide
    omega
  have : m_is_times A [some (.int n)] S = .rt (.bl true) S := by
    unfold m_is_times
    refine ret_ok ?_
    rw [andM_t (callG_ok (two_ok (v_ok rfl) c_ok) rfl)]
    rw [andM_t (notM_ok (b := false) (callG_ok (two_ok (v_ok rfl) c_ok) rfl))]
    exact ch_t (g := leG) (g' := leG) c_ok (v_ok rfl) (gLeI.trans (by rw [decide_eq_true h0])) c_ok (gLeI.trans (by rw [decide_eq_true h1]))
  rw [this]
  exact rt_fin rfl
theorem ist_call (hx : x.length ≤ 12) (ha : ∀ c ∈ x, c ∈ s_LETTERS) : defM 1 (m_is_step A (φare_letters A) (φis_name A) (φis_times A) φ) [.tup [.str w_call, .str x]] S = .ok (.bl true) S := by
  show finD S (m_is_step A (φare_letters A) (φis_name A) (φis_times A) φ [some (.tup [.str w_call, .str x])] S) = _
  unfold m_is_step
  have e : andM (op2M eqG (callG lenG (consM (vM 0) nilM)) (cM (.int 2))) (appM 2 (φare_letters A) (consM (op2M ixG (vM 0) (cM (.int 1))) (consM (cM (.int 0)) nilM)) []) [some (.tup [.str w_call, .str x])] S = .ok (.bl true) S := by
    rw [andM_t (S1 := S) rfl]
    exact (app_is (xs := [.str x, .int 0]) (S1 := S) rfl rfl).trans (are_ok hx (by omega) ha)
  rw [seq_no (S1 := S) rfl, seq_rt (if_t (S1 := S) rfl |>.trans (ret_ok e))]
  exact rt_fin rfl
theorem ist_turn (h1 : 1 ≤ x.length) (hx : x.length ≤ 12) (ha : ∀ c ∈ x, c ∈ s_LETTERS) : defM 1 (m_is_step A (φare_letters A) (φis_name A) (φis_times A) φ) [.tup [.str w_turn, .str x]] S = .ok (.bl true) S := by
  show finD S (m_is_step A (φare_letters A) (φis_name A) (φis_times A) φ [some (.tup [.str w_turn, .str x])] S) = _
  unfold m_is_step
  have e : andM (op2M eqG (callG lenG (consM (vM 0) nilM)) (cM (.int 2))) (appM 2 (φare_letters A) (consM (op2M ixG (vM 0) (cM (.int 1))) (consM (cM (.int 1)) nilM)) []) [some (.tup [.str w_turn, .str x])] S = .ok (.bl true) S := by
    rw [andM_t (S1 := S) rfl]
    exact (app_is (xs := [.str x, .int 1]) (S1 := S) rfl rfl).trans (are_ok hx (by omega) ha)
  rw [seq_no (S1 := S) rfl, seq_no (S1 := S) rfl, seq_rt (if_t (S1 := S) rfl |>.trans (ret_ok e))]
  exact rt_fin rfl
theorem ist_row (h1 : 1 ≤ x.length) (hx : x.length ≤ 8) (ha : ∀ c ∈ x, c ∈ s_SMALL) : defM 1 (m_is_step A (φare_letters A) (φis_name A) (φis_times A) φ) [.tup [.str w_row, .str x]] S = .ok (.bl true) S := by
  show finD S (m_is_step A (φare_letters A) (φis_name A) (φis_times A) φ [some (.tup [.str w_row, .str x])] S) = _
  unfold m_is_step
  have e : andM (op2M eqG (callG lenG (consM (vM 0) nilM)) (cM (.int 2))) (andM (callG isiA (consM (op2M ixG (vM 0) (cM (.int 1))) (consM (cM (.raw (.ty "str"))) nilM))) (appM 1 (φis_name A) (consM (op2M ixG (vM 0) (cM (.int 1))) nilM) [])) [some (.tup [.str w_row, .str x])] S = .ok (.bl true) S := by
    rw [andM_t (S1 := S) rfl, andM_t (S1 := S) rfl]
    exact (app_is (xs := [.str x]) (S1 := S) rfl rfl).trans (name_ok h1 hx ha)
  rw [seq_no (S1 := S) rfl, seq_no (S1 := S) rfl, seq_no (S1 := S) rfl, seq_rt (if_t (S1 := S) rfl |>.trans (ret_ok e))]
  exact rt_fin rfl
theorem ist_times {n : Nat} {t : Rw} (hn : n ≤ 10 ^ 30) (hf : φ [tD t] S = .ok (.bl true) S) : defM 1 (m_is_step A (φare_letters A) (φis_name A) (φis_times A) φ) [.tup [.str w_times, .int n, tD t]] S = .ok (.bl true) S := by
  show finD S (m_is_step A (φare_letters A) (φis_name A) (φis_times A) φ [some (.tup [.str w_times, .int n, tD t])] S) = _
  unfold m_is_step
  rw [seq_no (S1 := S) rfl, seq_no (S1 := S) rfl, seq_no (S1 := S) rfl, seq_no (S1 := S) rfl]
  have e : andM (op2M eqG (op2M ixG (vM 0) (cM (.int 0))) (cM (.str [116, 105, 109, 101, 115]))) (andM (op2M eqG (callG lenG (consM (vM 0) nilM)) (cM (.int 3))) (andM (appM 1 (φis_times A) (consM (op2M ixG (vM 0) (cM (.int 1))) nilM) []) (appM 1 φ (consM (op2M ixG (vM 0) (cM (.int 2))) nilM) []))) [some (.tup [.str w_times, .int n, tD t])] S = .ok (.bl true) S := by
    rw [andM_t (S1 := S) rfl, andM_t (S1 := S) rfl]
    have e1 : appM 1 (φis_times A) (consM (op2M ixG (vM 0) (cM (.int 1))) nilM) [] [some (.tup [.str w_times, .int n, tD t])] S = .ok (.bl true) S := (app_is (xs := [.int n]) (S1 := S) rfl rfl).trans (times_ok hn)
    rw [andM_t e1]
    exact (app_is (xs := [tD t]) (S1 := S) rfl rfl).trans hf
  rw [ret_ok e]
  exact rt_fin rfl
end
theorem built_at {A : Ad} {φ : Fn} : ∀ (r : Rw), r.ok → (∀ t : Rw, t.dp + 1 ≤ r.dp → t.wt ≤ r.wt → t.ok → ∀ S, φ [tD t] S = .ok (.bl true) S) → ∀ (k : Nat) (d : SL.D), r.its[k]? = some d → ∀ S, defM 1 (m_is_step A (φare_letters A) (φis_name A) (φis_times A) φ) [d] S = .ok (.bl true) S
  | .nil, _, _, k, d, h, S => by simp [Rw.its] at h
  | .call x r, ho, hs, 0, d, h, S => by cases h; exact ist_call ho.1 ho.2.1
  | .turn x r, ho, hs, 0, d, h, S => by cases h; exact ist_turn ho.1 ho.2.1 ho.2.2.1
  | .row x r, ho, hs, 0, d, h, S => by cases h; exact ist_row ho.1 ho.2.1 ho.2.2.1
  | .times n t r, ho, hs, 0, d, h, S => by
    cases h
    exact ist_times ho.1 (hs t (by simp only [Rw.dp]; omega) (by simp only [Rw.wt]; omega) ho.2.1 S)
  | .call x r, ho, hs, k + 1, d, h, S => built_at r ho.2.2 (fun t h1 h2 h3 => hs t h1 (by simp only [Rw.wt]; omega) h3) k d h S
  | .turn x r, ho, hs, k + 1, d, h, S => built_at r ho.2.2.2 (fun t h1 h2 h3 => hs t h1 (by simp only [Rw.wt]; omega) h3) k d h S
  | .row x r, ho, hs, k + 1, d, h, S => built_at r ho.2.2.2 (fun t h1 h2 h3 => hs t h1 (by simp only [Rw.wt]; omega) h3) k d h S
  | .times n t r, ho, hs, k + 1, d, h, S => built_at r ho.2.2 (fun t' h1 h2 h3 => hs t' (by simp only [Rw.dp]; omega) (by simp only [Rw.wt]; omega) h3) k d h S
theorem built_ok {A : Ad} : ∀ (n : Nat) (t : Rw), 2 * t.dp + 1 < n → t.ok → t.wt ≤ 400000 → ∀ S, (grp_is_built_is_step A n).1 [tD t] S = .ok (.bl true) S
  | 0, t, h, _, _, _ => by omega
  | 1, t, h, _, _, _ => by omega
  | n + 2, t, h, ho, hw, S => by
    have hf : (grp_is_built_is_step A (n + 2)).1 [tD t] S = finD S (m_is_built A (defM 1 (m_is_step A (φare_letters A) (φis_name A) (φis_times A) (grp_is_built_is_step A n).1)) [some (tD t), none] S) := rfl
    rw [hf]
    have hi := its_len t
    have hc := comp_gen (mi := srcV (op2M ixG (vM 0) (cM (.int 1)))) (el := appM 1 (defM 1 (m_is_step A (φare_letters A) (φis_name A) (φis_times A) (grp_is_built_is_step A n).1)) (consM (vM 1) nilM) []) (i := 1) (δ := [some (tD t), none]) (S := S) (S1 := S) (src := .vals (.tup t.its)) (ds := t.its) (Inv := fun S0 => S0 = S) (P := fun k x => x = SL.D.bl true) rfl rfl (fun S0 h => by rw [h]) (fun S0 h => by rw [h]; exact Settles.same) (fun S0 t' h => rfl) (by omega) (fun k d hd S0 acc hI => by
      have h2 := built_at (A := A) (φ := (grp_is_built_is_step A n).1) t ho (fun t' h1 h2 h3 S => built_ok n t' (by omega) h3 (by omega) S) k d hd
      exact ⟨.bl true, S0, hI, rfl, rfl, (app_is (one_ok (v_ok rfl)) rfl).trans (h2 _)⟩)
    obtain ⟨xs, S2, rfl, e2, e3, e4, e5⟩ := hc
    unfold m_is_built
    rw [seq_no (S1 := S2) rfl, ret_ok (callG_ok (one_ok e5) (all_bl e3))]
    exact rt_fin rfl
def prT (g : Rw → SL.D) : Rw → List (SL.D × Option SL.D)
  | .nil => []
  | .call x r => (.tup [.str w_call, .str x], none) :: prT g r
  | .turn x r => (.tup [.str w_turn, .str x], none) :: prT g r
  | .row x r => (.tup [.str w_row, .str x], none) :: prT g r
  | .times n t r => (.tup [.str w_times, .int n, tD t], some (g t)) :: prT g r
theorem prs_its (g : Rw → SL.D) : ∀ t : Rw, t.its = (prT g t).map (·.1)
  | .nil => rfl
  | .call _ r => congrArg (_ :: ·) (prs_its g r)
  | .turn _ r => congrArg (_ :: ·) (prs_its g r)
  | .row _ r => congrArg (_ :: ·) (prs_its g r)
  | .times _ _ r => congrArg (_ :: ·) (prs_its g r)
def sbT : Rw → List Rw
  | .nil => []
  | .call _ r => sbT r
  | .turn _ r => sbT r
  | .row _ r => sbT r
  | .times _ t r => t :: sbT r
theorem prs_sub (g : Rw → SL.D) : ∀ t : Rw, (prT g t).filterMap (·.2) = (sbT t).map g
  | .nil => rfl
  | .call _ r => prs_sub g r
  | .turn _ r => prs_sub g r
  | .row _ r => prs_sub g r
  | .times _ t r => congrArg (g t :: ·) (prs_sub g r)
theorem prs_mem {g : Rw → SL.D} {d : SL.D} {f : Option SL.D} : ∀ {r : Rw}, (d, f) ∈ prT g r → (∃ w x, w ≠ w_times ∧ d = .tup [.str w, .str x] ∧ f = none) ∨ ∃ n t, t ∈ sbT r ∧ d = .tup [.str w_times, .int n, tD t] ∧ f = some (g t)
  | .nil, h => by cases h
  | .call x r, h => by
    rcases List.mem_cons.mp h with h | h
    · cases h; exact .inl ⟨_, _, by decide, rfl, rfl⟩
    · exact prs_mem (r := r) h
  | .turn x r, h => by
    rcases List.mem_cons.mp h with h | h
    · cases h; exact .inl ⟨_, _, by decide, rfl, rfl⟩
    · exact prs_mem (r := r) h
  | .row x r, h => by
    rcases List.mem_cons.mp h with h | h
    · cases h; exact .inl ⟨_, _, by decide, rfl, rfl⟩
    · exact prs_mem (r := r) h
  | .times n t r, h => by
    rcases List.mem_cons.mp h with h | h
    · cases h; exact .inr ⟨_, _, by simp [sbT], rfl, rfl⟩
    · rcases prs_mem (r := r) h with h | ⟨n, t', h1, h2⟩
      · exact .inl h
      · exact .inr ⟨n, t', by simp [sbT, h1], h2⟩
theorem sub_in {t : Rw} : ∀ {r : Rw}, r.ok → t ∈ sbT r → t.ok ∧ t.dp + 1 ≤ r.dp ∧ t.wt ≤ r.wt
  | .nil, _, h => by cases h
  | .call x r, ho, h => by have := sub_in ho.2.2 h; simp only [Rw.dp, Rw.wt]; exact ⟨this.1, this.2.1, by omega⟩
  | .turn x r, ho, h => by have := sub_in ho.2.2.2 h; simp only [Rw.dp, Rw.wt]; exact ⟨this.1, this.2.1, by omega⟩
  | .row x r, ho, h => by have := sub_in ho.2.2.2 h; simp only [Rw.dp, Rw.wt]; exact ⟨this.1, this.2.1, by omega⟩
  | .times n t' r, ho, h => by
    simp only [Rw.dp, Rw.wt]
    rcases List.mem_cons.mp h with rfl | h
    · exact ⟨ho.2.1, by omega, by omega⟩
    · have := sub_in ho.2.2 h
      exact ⟨this.1, by omega, by omega⟩
theorem cnt_sub : ∀ t : Rw, t.cnt = t.its.length + ((sbT t).map Rw.cnt).sum
  | .nil => rfl
  | .call _ r => by have := cnt_sub r; simp only [Rw.cnt, Rw.its, sbT, List.length_cons]; omega
  | .turn _ r => by have := cnt_sub r; simp only [Rw.cnt, Rw.its, sbT, List.length_cons]; omega
  | .row _ r => by have := cnt_sub r; simp only [Rw.cnt, Rw.its, sbT, List.length_cons]; omega
  | .times _ t r => by have := cnt_sub r; simp only [Rw.cnt, Rw.its, sbT, List.length_cons, List.map_cons, List.sum_cons]; omega
theorem asIs_map : ∀ ls : List Int, asIs (ls.map SL.D.int) = some ls
  | [] => rfl
  | x :: ls => by simp [asIs, asIs_map ls]
theorem test_ok {n : Nat} {i : Nat} {d : SL.D} {f : Option SL.D} {g : Rw → SL.D} {r : Rw} {δ : DEnv} {S : Store} (h : (d, f) ∈ prT g r) (hv : δ[i]? = some (some d)) : cmpB eqG (op2M ixG (vM i) (cM (.int 0))) (cM (.str [116, 105, 109, 101, 115])) δ S = .ok f.isSome S := by
  rcases prs_mem h with ⟨w, x, hw, rfl, rfl⟩ | ⟨n, t, _, rfl, rfl⟩
  · exact cmp_ok (op2_ok (v_ok hv) c_ok rfl) c_ok (gEqS.trans (by rw [decide_eq_false (show ¬ w = [116, 105, 109, 101, 115] from hw)]; rfl))
  · exact cmp_ok (op2_ok (v_ok hv) c_ok rfl) c_ok rfl
theorem many_ok {A : Ad} : ∀ (n : Nat) (t : Rw), t.dp < n → t.ok → t.wt ≤ 400000 → ∀ S, grp_many_steps A n [tD t] S = .ok (.int t.cnt) S
  | 0, t, h, _, _, _ => by omega
  | n + 1, t, h, ho, hw, S => by
    have hf : grp_many_steps A (n + 1) [tD t] S = finD S (m_many_steps A (grp_many_steps A n) [some (tD t), none, none] S) := rfl
    rw [hf]
    have hi := its_len t
    have hc := comp_flt (mi := srcV (op2M ixG (vM 0) (cM (.int 1)))) (tst := cmpB eqG (op2M ixG (vM 2) (cM (.int 0))) (cM (.str [116, 105, 109, 101, 115]))) (el := appM 1 (grp_many_steps A n) (consM (op2M ixG (vM 2) (cM (.int 2))) nilM) []) (i := 2) (δ := [some (tD t), none, none]) (S := S) (src := .vals (.tup t.its)) (prs_its (fun t => .int t.cnt) t) rfl (fun t' => rfl) (by omega) (fun d f hm acc => by
      refine ⟨test_ok (n := 0) hm rfl, fun x hx => ?_⟩
      rcases prs_mem hm with ⟨w, y, hw, rfl, rfl⟩ | ⟨m, t', ht, rfl, rfl⟩
      · cases hx
      · cases hx
        obtain ⟨h1, h2, h3⟩ := sub_in ho ht
        exact ⟨rfl, (app_is (one_ok (op2_ok (v_ok rfl) c_ok rfl)) rfl).trans (many_ok n t' (by omega) h1 (by omega) _)⟩)
    rw [prs_sub] at hc
    unfold m_many_steps
    rw [seq_nx (asg_ok hc)]
    have e1 : sumG S [.lst ((sbT t).map fun t => SL.D.int t.cnt)] = some (.int (((sbT t).map fun t => (t.cnt : Int)).sum)) := by
      show (match asIs ((sbT t).map fun t => SL.D.int t.cnt) with | some bs => some (SL.D.int bs.sum) | none => none) = _
      rw [show ((sbT t).map fun t => SL.D.int t.cnt) = ((sbT t).map fun t => (t.cnt : Int)).map SL.D.int by rw [List.map_map]; rfl, asIs_map]
    have e2 : ((t.its.length : Int) + (((sbT t).map fun t => (t.cnt : Int)).sum)) = (t.cnt : Int) := by
      rw [cnt_sub t]
      have : ∀ l : List Rw, (l.map fun t => (t.cnt : Int)).sum = (((l.map Rw.cnt).sum : Nat) : Int) := fun l => by
        induction l with
        | nil => rfl
        | cons a l ih => simp only [List.map_cons, List.sum_cons, ih, Int.natCast_add]
      rw [this, Int.natCast_add]
    have e3 : retM (op2M addG (callG lenG (consM (op2M ixG (vM 0) (cM (.int 1))) nilM)) (callG sumG (consM (vM 1) nilM))) [some (tD t), some (.lst ((sbT t).map fun t => SL.D.int t.cnt)), none] S = .rt (.int t.cnt) S :=
      ret_ok (op2_ok (callG_ok (one_ok (op2_ok (v_ok rfl) c_ok rfl)) rfl) (callG_ok (one_ok (v_ok rfl)) e1) (gAddI.trans (by rw [e2])))
    show finD S (retM _ [some (tD t), some (.lst ((sbT t).map fun t => SL.D.int t.cnt)), none] S) = _
    rw [e3]
    exact rt_fin rfl
theorem maxOf_max : ∀ (ys : List Int) (y : Int), PySem.W.maxOf y ys = ys.foldl max y
  | [], y => rfl
  | z :: ys, y => by
    have h := maxOf_max ys (if PySem.W.DatumOrd.lt y z = true then z else y)
    have e : (if PySem.W.DatumOrd.lt y z = true then z else y) = max y z := by
      show (if decide (y < z) = true then z else y) = max y z
      by_cases k : y < z
      · rw [if_pos (decide_eq_true k)]; omega
      · rw [if_neg (by simpa using k)]; omega
    show List.foldl _ (if PySem.W.DatumOrd.lt y z = true then z else y) ys = ys.foldl max (max y z)
    rw [← e]
    exact h
theorem fold_max : ∀ (ys : List Nat) (a : Nat), (ys.map fun (n : Nat) => (n : Int)).foldl max (a : Int) = ((ys.foldl max a : Nat) : Int)
  | [], a => rfl
  | y :: ys, a => by
    rw [List.map_cons, List.foldl_cons, List.foldl_cons, show max (a : Int) (y : Int) = ((max a y : Nat) : Int) by omega]
    exact fold_max ys _
theorem fold_acc : ∀ (ys : List Nat) (a : Nat), ys.foldl max a = max a (ys.foldl max 0)
  | [], a => by simp
  | y :: ys, a => by rw [List.foldl_cons, List.foldl_cons, fold_acc ys (max a y), fold_acc ys (max 0 y)]; omega
theorem dp_sub : ∀ t : Rw, t.dp = ((sbT t).map fun t => t.dp + 1).foldl max 0
  | .nil => rfl
  | .call _ r => dp_sub r
  | .turn _ r => dp_sub r
  | .row _ r => dp_sub r
  | .times _ t r => by
    rw [sbT, List.map_cons, List.foldl_cons, fold_acc, ← dp_sub r, Rw.dp]
    omega
theorem deep_max (ls : List Nat) : maxI (ls.map fun (n : Nat) => (n : Int)) 0 = ((ls.foldl max 0 : Nat) : Int) := by
  cases ls with
  | nil => rfl
  | cons y ys =>
    show PySem.W.maxOf (y : Int) (ys.map fun (n : Nat) => (n : Int)) = _
    rw [maxOf_max, fold_max, List.foldl_cons, Nat.zero_max]
theorem deep_ok {A : Ad} : ∀ (n : Nat) (t : Rw), t.dp < n → t.ok → t.wt ≤ 400000 → ∀ S, grp_deep_of A n [tD t] S = .ok (.int t.dp) S
  | 0, t, h, _, _, _ => by omega
  | n + 1, t, h, ho, hw, S => by
    have hf : grp_deep_of A (n + 1) [tD t] S = finD S (m_deep_of A (grp_deep_of A n) [some (tD t), none] S) := rfl
    rw [hf]
    have hi := its_len t
    have hc := comp_flt (mi := srcV (op2M ixG (vM 0) (cM (.int 1)))) (tst := cmpB eqG (op2M ixG (vM 1) (cM (.int 0))) (cM (.str [116, 105, 109, 101, 115]))) (el := op2M addG (cM (.int 1)) (appM 1 (grp_deep_of A n) (consM (op2M ixG (vM 1) (cM (.int 2))) nilM) [])) (i := 1) (δ := [some (tD t), none]) (S := S) (src := .vals (.tup t.its)) (prs_its (fun t => .int ((t.dp + 1 : Nat) : Int)) t) rfl (fun t' => rfl) (by omega) (fun d f hm acc => by
      refine ⟨test_ok (n := 0) hm rfl, fun x hx => ?_⟩
      rcases prs_mem hm with ⟨w, y, hw, rfl, rfl⟩ | ⟨m, t', ht, rfl, rfl⟩
      · cases hx
      · cases hx
        obtain ⟨h1, h2, h3⟩ := sub_in ho ht
        have e : appM 1 (grp_deep_of A n) (consM (op2M ixG (vM 1) (cM (.int 2))) nilM) [] (([some (tD t), none].set 1 none).set 1 (some (.tup [.str w_times, .int m, tD t']))) (S ++ [.lst acc]) = _ := (app_is (xs := [tD t']) (S1 := S ++ [.lst acc]) rfl rfl).trans (deep_ok n t' (by omega) h1 (by omega) (S ++ [.lst acc]))
        exact ⟨rfl, op2_ok c_ok e (gAddI.trans (by congr 2; omega))⟩)
    rw [prs_sub] at hc
    have e1 : maxDfG S [.lst ((sbT t).map fun t => SL.D.int ((t.dp + 1 : Nat) : Int))] [.int 0] = some (.int t.dp) := by
      show (match asIs ((sbT t).map fun t => SL.D.int ((t.dp + 1 : Nat) : Int)) with | some ns => some (SL.D.int (maxI ns 0)) | none => none) = _
      rw [show ((sbT t).map fun t => SL.D.int ((t.dp + 1 : Nat) : Int)) = (((sbT t).map fun t => t.dp + 1).map fun (n : Nat) => (n : Int)).map SL.D.int by simp only [List.map_map]; rfl, asIs_map]
      show some (SL.D.int (maxI _ 0)) = _
      rw [deep_max, ← dp_sub]
    unfold m_deep_of
    rw [ret_ok (callKG_ok (one_ok hc) (one_ok c_ok) e1)]
    exact rt_fin rfl
def isRow (t : Rw) : Bool := decide (t.cnt ≤ 60) && decide (t.dp ≤ 12)
theorem row_is {A : Ad} {t : Rw} {S : Store} (ho : t.ok) (hw : t.wt ≤ 400000) (hd : t.dp ≤ 18) : φis_row A [tD t] S = .ok (.bl (isRow t)) S := by
  have hf : φis_row A [tD t] S = finD S (m_is_row A (φis_built A) (φmany_steps A) (φdeep_of A) [some (tD t)] S) := rfl
  rw [hf]
  have e1 : appM 1 (φis_built A) (consM (vM 0) nilM) [] [some (tD t)] S = .ok (.bl true) S := (app_is (one_ok (v_ok rfl)) rfl).trans (built_ok 40 t (by omega) ho hw S)
  have e2 : appM 1 (φmany_steps A) (consM (vM 0) nilM) [] [some (tD t)] S = .ok (.int t.cnt) S := (app_is (one_ok (v_ok rfl)) rfl).trans (many_ok 40 t (by omega) ho hw S)
  have e3 : appM 1 (φdeep_of A) (consM (vM 0) nilM) [] [some (tD t)] S = .ok (.int t.dp) S := (app_is (one_ok (v_ok rfl)) rfl).trans (deep_ok 40 t (by omega) ho hw S)
  have : m_is_row A (φis_built A) (φmany_steps A) (φdeep_of A) [some (tD t)] S = .rt (.bl (isRow t)) S := by
    unfold m_is_row
    refine ret_ok ?_
    rw [andM_t e1]
    refine andM_bl (op2_ok e2 c_ok (gLeI.trans ?_)) fun _ => op2_ok e3 c_ok (gLeI.trans ?_)
    · congr 2
      exact decide_eq_decide.mpr (by omega)
    · congr 2
      exact decide_eq_decide.mpr (by omega)
  rw [this]
  exact rt_fin rfl
end NC
namespace NC
open PySem PySem.Spec L2 SL Hal
local macro_rules
  | `(tactic| infer_instance) => `(tactic| first
    | ((with_reducible first
        | refine wf_seq ?_ | refine wf_asg ?_ | refine wf_ret ?_ | refine wf_retN ?_ | refine wf_expr ?_ | refine wf_nxM ?_ | refine wf_ctM ?_ | refine wf_bkM ?_ | refine wf_asgT ?_ | refine wf_raise ?_
        | refine wp_op2 ?_ | refine wp_op1 ?_ | refine wp_callG ?_ | refine wp_cons ?_ | refine wp_nil ?_ | refine wp_c ?_ | refine wp_cmpB ?_ | refine wp_trM ?_ | refine wp_notB ?_ | refine wp_andB ?_ | refine wp_orB ?_ | refine wp_andM ?_ | refine wp_orM ?_ | refine wp_notM ?_ | refine wp_ch ?_ | refine wp_sl ?_ | refine wp_soO ?_ | refine wp_noO ?_ | refine wp_fmt ?_ | refine wp_callKG ?_ | refine wp_yes ?_ | refine wp_mkx ?_ | refine wp_bM ?_ | refine wp_freeze ?_ | refine wf_par ?_ | refine wf_asgU ?_
        | refine gw_addI ?_ | refine gw_subI ?_ | refine gw_ltI ?_ | refine gw_leI ?_ | refine gw_gtI ?_ | refine gw_geI ?_ | refine gw_eqI ?_ | refine gw_neI ?_ | refine gw_eqS ?_ | refine gw_neS ?_ | refine gw_inC ?_ | refine gw_ninC ?_ | refine gw_ltS ?_ | refine gw_inL ?_ | refine gw_ninL ?_ | refine gw_sorted ?_ | refine gw_keys ?_ | refine gw_eqB ?_ | refine gw_neB ?_
        | refine gb_ltI ?_ | refine gb_leI ?_ | refine gb_gtI ?_ | refine gb_geI ?_ | refine gb_eqI ?_ | refine gb_neI ?_ | refine gb_eqS ?_ | refine gb_neS ?_ | refine gb_inC ?_ | refine gb_ninC ?_ | refine gb_inL ?_ | refine gb_ninL ?_ | refine gb_bl ?_ | refine gt_bl ?_ | refine gt_int ?_ | refine gt_lst ?_ | refine gt_tup ?_
        | refine gw_asI ?_ | refine gw_slT ?_ | refine gw_slL ?_ | refine gw_lenL ?_ | refine gw_lenT ?_ | refine gw_tuple ?_ | refine gw_tupleT ?_ | refine gw_tupleEnd ?_ | refine gw_lenEnd ?_ | refine gw_all ?_ | refine gw_any ?_ | refine gw_sum ?_ | refine gw_intI ?_ | refine gw_intB ?_ | refine gw_ix0L ?_ | refine gw_ix0T ?_ | refine gw_ix1L ?_ | refine gw_ix1T ?_ | refine gw_ix2L ?_ | refine gw_ix2T ?_))
    | ((with_reducible apply wp_v); (· rfl))
    | (with_reducible refine wp_appA ?_)
    | (with_reducible refine wp_mtS ?_)
    | (with_reducible first | refine gw_addS ?_ | refine gw_addL ?_ | refine gw_addT ?_ | refine gw_mulR ?_ | refine gw_mulL ?_ | refine gw_modI ?_ | refine gw_fdivI ?_ | refine gw_tup ?_ | refine gw_lst ?_ | refine gw_lenS ?_ | refine gw_slTo ?_ | refine gw_slFrom ?_ | refine gw_slFT ?_ | refine gw_slS ?_ | refine gw_pow ?_ | refine gw_swap ?_ | refine gw_isup ?_ | refine gw_upper1 ?_ | refine gw_lower1 ?_ | refine gw_upper ?_ | refine gw_lower ?_ | refine gw_str ?_ | refine gw_mulS ?_)
    | (refine ⟨rfl, ?_⟩))
  | `(tactic| sizeOf_list_dec) => `(tactic| (refine wp_def ?_; simp only [startD, List.map_cons, List.map_nil, List.length_cons, List.length_nil, Nat.reduceAdd, Nat.reduceSub, List.replicate_succ, List.replicate_zero, List.cons_append, List.nil_append, Nat.zero_add]))
section
variable {A : Ad} {U S : Store} {Q : SL.D → Store → Prop} {X : Ex → Store → Prop} {ws : List Nat} {c : Nat} {bars : List (List Nat)}
end
section
variable {A : Ad} {U S : Store} {Q : SL.D → Store → Prop} {X : Ex → Store → Prop} {ws : List Nat} {c : Nat} {bars : List (List Nat)}
end
section
variable {A : Ad} {U S : Store} {Q : SL.D → Store → Prop} {X : Ex → Store → Prop} {ws : List Nat} {c : Nat} {bars : List (List Nat)}
end
section
variable {A : Ad} {U S : Store} {Q : SL.D → Store → Prop} {X : Ex → Store → Prop} {ws : List Nat} {c : Nat} {bars : List (List Nat)}
inductive Rg (g : Nat → List Nat) (s : Nat) : Nat → Prop where
  | self : Rg g s s
  | step {t u : Nat} (h : Rg g s t) (e : u ∈ g t) : Rg g s u
theorem nodup_le : ∀ {K L : List Nat}, K.Nodup → (∀ x ∈ K, x ∈ L) → K.length ≤ L.length
  | [], L, _, _ => Nat.zero_le _
  | x :: K, L, hn, h => by
    have hx := h x (by simp)
    have hn' := List.nodup_cons.mp hn
    have := nodup_le (K := K) (L := L.erase x) hn'.2 fun y hy => (List.mem_erase_of_ne (fun e => hn'.1 (by rw [← e]; exact hy))).mpr (h y (List.mem_cons_of_mem _ hy))
    rw [List.length_erase_of_mem hx] at this
    have hp : 0 < L.length := List.length_pos_of_mem hx
    rw [List.length_cons]
    omega
structure ChI (sd : List Nat) (g : Nat → List Nat) (s : Nat) (K W : List Nat) (ch : Nat → List Nat) : Prop where
  nd : K.Nodup
  sub : ∀ k ∈ K, k ∈ sd
  wk : ∀ k ∈ W, k ∈ K
  hs : s ∈ K
  rch : ∀ k ∈ K, Rg g s k
  len : ∀ k ∈ K, (ch k).length ≤ K.length
end
section
variable {A : Ad} {U S : Store} {Q : SL.D → Store → Prop} {X : Ex → Store → Prop} {ws : List Nat} {c : Nat} {bars : List (List Nat)}
def TabIn (A : Ad) (S : Store) : Prop := TabAt S A.t_in_order "in_order.<locals>.<lambda>"
theorem TabIn.app {t : Store} (h : TabIn A S) : TabIn A (S ++ t) := TabAt.app h
end
section
variable {A : Ad} {U S S' : Store} {Q : SL.D → Store → Prop} {X : Ex → Store → Prop} {ws : List Nat} {c : Nat} {bars : List (List Nat)} {F : Nat → List Nat}
theorem wp_defO {n : Nat} {m : MS} {ds : List SL.D} (h : wf (m (startD n ds) S) (fun _ S' => wp (finO S .non S') Q X) (fun d S' => wp (finO S d S') Q X) (fun x _ S' => wp (finX S x S') Q X) noB noB) : wp (defO n m ds S) Q X := by
  unfold defO
  cases e : m (startD n ds) S with
  | nx δ S' => rw [e] at h; exact h
  | rt d S' => rw [e] at h; exact h
  | exc x δ S' => rw [e] at h; exact h
  | bk δ S' => rw [e] at h; exact h.elim
  | ct δ S' => rw [e] at h; exact h.elim
  | stuck => rw [e] at h; exact h.elim
theorem wp_finO {m : Nat} {t : Store} {ds : List SL.D} (hm : S.length ≤ m) (e : (S ++ t)[m]? = some (.lst ds)) (ho : okL 0 ds = true) (k : Q (.loc S.length) (S ++ [.lst ds])) : wp (finO S (.loc m) (S ++ t)) Q X := by
  unfold finO freshL
  simp only [if_pos hm, e, if_pos (okL_up _ S.length ho)]
  rw [if_pos Settles.app, List.take_left]
  exact k
end
section
variable {A : Ad} {U S S' : Store} {Q : SL.D → Store → Prop} {X : Ex → Store → Prop} {ws : List Nat} {c : Nat} {bars : List (List Nat)} {F : Nat → List Nat}
abbrev lets : List Nat := [97, 98, 99, 100, 101, 102, 103, 104, 105, 106, 107, 108, 109, 110, 111, 112, 113, 114, 115, 116, 117, 118, 119, 120, 121, 122]
theorem letters_wd (k : Q (.str lets) S) : wp (φlaw_letters A [] S) Q X := by
  sizeOf_list_dec
  unfold m_law_letters
  repeat infer_instance
  exact wp_finS rfl k
end
section
variable {A : Ad} {U S S' : Store} {Q : SL.D → Store → Prop} {X : Ex → Store → Prop} {ws : List Nat} {c : Nat} {bars : List (List Nat)} {F : Nat → List Nat}
theorem rng_at {lo cc : Int} {n k : Nat} {d : SL.D} (h : ((List.range n).map fun (i : Nat) => SL.D.int (lo + (i : Int) * cc))[k]? = some d) : k < n ∧ d = .int (lo + (k : Int) * cc) := by
  rw [List.getElem?_map] at h
  by_cases hk : k < n
  · rw [List.getElem?_range hk] at h
    exact ⟨hk, by simpa using h.symm⟩
  · rw [List.getElem?_eq_none (by simpa using hk)] at h
    simp at h
end
section
variable {A : Ad} {U S S' : Store} {Q : SL.D → Store → Prop} {X : Ex → Store → Prop} {ws : List Nat} {c : Nat} {bars : List (List Nat)} {F : Nat → List Nat}
end
section
variable {A : Ad} {U S S' : Store} {Q : SL.D → Store → Prop} {X : Ex → Store → Prop} {ws : List Nat} {c : Nat} {bars : List (List Nat)} {F : Nat → List Nat}
end
section
variable {A : Ad} {U S S' : Store} {Q : SL.D → Store → Prop} {X : Ex → Store → Prop} {ws : List Nat} {c : Nat} {bars : List (List Nat)} {F : Nat → List Nat}
theorem of_wd {ds : List SL.D} (h : Dw U S) (hc : okL 0 ds = true) (k : ∀ d S', Dw U S' → d ∈ ds → Q d S') (hn : ds ≠ [] := by simp) (hl : ds.length < 2 ^ 64 := by first | assumption | (simp only [List.length_cons, List.length_nil]; omega)) : wp (φlaw_of A [.loc 0, .lst ds] S) Q X := wd_of h hc k hn hl
theorem same_eq (A : Ad) : ∀ n, grp_law_same A n = sameN n
  | 0 => rfl
  | n + 1 => by
    show defM 3 (m_law_same A (grp_law_same A n)) = defM 3 (sameM (sameN n))
    rw [same_eq A n]
    rfl
theorem same_wd {x : SL.D} (h : pl 40 x) (k : Q (.bl true) S) : wp (φlaw_same A [x, x] S) Q X := by
  refine wp_ok (S := S) ?_ k
  show grp_law_same A 40 [x, x] S = _
  rw [same_eq]
  exact same_ok 40 x h S
end
section
variable {A : Ad} {U S S' : Store} {Q : SL.D → Store → Prop} {X : Ex → Store → Prop} {ws : List Nat} {c : Nat} {bars : List (List Nat)} {F : Nat → List Nat}
end
end NC
namespace NC
open PySem PySem.Spec L2 SL Hal
local macro_rules
  | `(tactic| infer_instance) => `(tactic| first
    | ((with_reducible first
        | refine wf_seq ?_ | refine wf_if ?_ | refine wp_ifM ?_ | refine wp_appN ?_ | refine wf_asg ?_ | refine wf_ret ?_ | refine wf_retN ?_ | refine wf_expr ?_ | refine wf_nxM ?_ | refine wf_ctM ?_ | refine wf_bkM ?_ | refine wf_asgT ?_ | refine wf_raise ?_
        | refine wp_op2 ?_ | refine wp_op1 ?_ | refine wp_callG ?_ | refine wp_cons ?_ | refine wp_nil ?_ | refine wp_c ?_ | refine wp_cmpB ?_ | refine wp_trM ?_ | refine wp_notB ?_ | refine wp_andB ?_ | refine wp_orB ?_ | refine wp_andM ?_ | refine wp_orM ?_ | refine wp_notM ?_ | refine wp_ch ?_ | refine wp_sl ?_ | refine wp_soO ?_ | refine wp_noO ?_ | refine wp_fmt ?_ | refine wp_callKG ?_ | refine wp_yes ?_ | refine wp_mkx ?_ | refine wp_bM ?_ | refine wp_freeze ?_ | refine wf_par ?_ | refine wf_asgU ?_
        | refine gw_addI ?_ | refine gw_subI ?_ | refine gw_ltI ?_ | refine gw_leI ?_ | refine gw_gtI ?_ | refine gw_geI ?_ | refine gw_eqI ?_ | refine gw_neI ?_ | refine gw_eqS ?_ | refine gw_neS ?_ | refine gw_inC ?_ | refine gw_ninC ?_ | refine gw_ltS ?_ | refine gw_inL ?_ | refine gw_ninL ?_ | refine gw_sorted ?_ | refine gw_sortedT ?_ | refine gw_keys ?_ | refine gw_eqB ?_ | refine gw_neB ?_
        | refine gb_ltI ?_ | refine gb_leI ?_ | refine gb_gtI ?_ | refine gb_geI ?_ | refine gb_eqI ?_ | refine gb_neI ?_ | refine gb_eqS ?_ | refine gb_neS ?_ | refine gb_inC ?_ | refine gb_ninC ?_ | refine gb_inL ?_ | refine gb_ninL ?_ | refine gb_bl ?_ | refine gt_bl ?_ | refine gt_int ?_ | refine gt_lst ?_ | refine gt_tup ?_
        | refine gw_asI ?_ | refine gw_slT ?_ | refine gw_slL ?_ | refine gw_lenL ?_ | refine gw_lenT ?_ | refine gw_tuple ?_ | refine gw_tupleT ?_ | refine gw_tupleEnd ?_ | refine gw_lenEnd ?_ | refine gw_all ?_ | refine gw_any ?_ | refine gw_sum ?_ | refine gw_intI ?_ | refine gw_intB ?_ | refine gw_ix0L ?_ | refine gw_ix0T ?_ | refine gw_ix1L ?_ | refine gw_ix1T ?_ | refine gw_ix2L ?_ | refine gw_ix2T ?_))
    | ((with_reducible apply wp_v); (· rfl))
    | (with_reducible refine wp_appA ?_)
    | (with_reducible refine wp_mtS ?_)
    | (refine wp_fO (by rfl) (by rfl) ?_)
    | (refine wp_mO (by rfl) (by rfl) ?_)
    | (with_reducible first | refine gw_addS ?_ | refine gw_addL ?_ | refine gw_addT ?_ | refine gw_mulR ?_ | refine gw_mulL ?_ | refine gw_modI ?_ | refine gw_fdivI ?_ | refine gw_tup ?_ | refine gw_lst ?_ | refine gw_lenS ?_ | refine gw_slTo ?_ | refine gw_slFrom ?_ | refine gw_slFT ?_ | refine gw_slS ?_ | refine gw_pow ?_ | refine gw_swap ?_ | refine gw_isup ?_ | refine gw_upper1 ?_ | refine gw_lower1 ?_ | refine gw_upper ?_ | refine gw_lower ?_ | refine gw_str ?_ | refine gw_mulS ?_)
    | (refine ⟨rfl, ?_⟩))
  | `(tactic| sizeOf_list_dec) => `(tactic| (refine wp_def ?_; simp only [startD, List.map_cons, List.map_nil, List.length_cons, List.length_nil, Nat.reduceAdd, Nat.reduceSub, List.replicate_succ, List.replicate_zero, List.cons_append, List.nil_append, Nat.zero_add]))
section
variable {A : Ad} {U S S' : Store} {Q : SL.D → Store → Prop} {X : Ex → Store → Prop} {ws : List Nat} {c : Nat} {bars : List (List Nat)} {F : Nat → List Nat} {P r : List Nat}
end
section
variable {A : Ad} {U S S' : Store} {Q : SL.D → Store → Prop} {X : Ex → Store → Prop} {ws : List Nat} {c : Nat} {bars : List (List Nat)} {F : Nat → List Nat} {P r : List Nat}
theorem rm_len' (hr : Rm ws r) : r.length = ws.length := by
  have h : r.map loL = ws := hr
  rw [← h, List.length_map]
end
section
variable {A : Ad} {U S S' : Store} {Q : SL.D → Store → Prop} {X : Ex → Store → Prop} {ws : List Nat} {c : Nat} {bars : List (List Nat)} {F : Nat → List Nat} {P r : List Nat}
end
section
variable {A : Ad} {U S S' : Store} {Q : SL.D → Store → Prop} {X : Ex → Store → Prop}
structure Vw (S : Store) (x : SL.D) (t : String) (xs : List SL.D) : Prop where
  q : ∀ g, asQ (S ++ g) x = some xs
  dc : ∀ g, asDct (S ++ g) x = none
  ty : ∀ g, tyN (S ++ g) x = some t
  ln : ∀ g, lenN (S ++ g) x = some xs.length
  ns : ∀ l, x ≠ .str l
theorem Vw.lst (xs : List SL.D) : Vw S (.lst xs) "list" xs := ⟨fun _ => rfl, fun _ => rfl, fun _ => rfl, fun _ => rfl, fun l h => by cases h⟩
theorem Vw.tup (xs : List SL.D) : Vw S (.tup xs) "tuple" xs := ⟨fun _ => rfl, fun _ => rfl, fun _ => rfl, fun _ => rfl, fun l h => by cases h⟩
theorem Vw.loc {m : Nat} {xs : List SL.D} (e : S[m]? = some (.lst xs)) : Vw S (.loc m) "list" xs := by
  have e2 : ∀ g : Store, (S ++ g)[m]? = some (.lst xs) := fun g => by rw [List.getElem?_append_left (List.getElem?_eq_some_iff.mp e).1]; exact e
  exact ⟨fun g => by simp only [asQ, asL, e2], fun g => by simp only [asDct, e2], fun g => by simp only [tyN, e2], fun g => by simp only [lenN, asL, e2], fun l h => by cases h⟩
def Rs (S : Store) : Nat → SL.D → SL.D → Prop
  | 0, _, _ => False
  | n + 1, x, d => (x = d ∧ pl (n + 1) d) ∨ ∃ t xs ds, Vw S x t xs ∧ Vw S d t ds ∧ (t = "list" ∨ t = "tuple") ∧ xs.length = ds.length ∧ ds.length ≤ 100000 ∧ ∀ (i : Nat) x' d', xs[i]? = some x' → ds[i]? = some d' → Rs S n x' d'
theorem Rs.rf {n : Nat} {d : SL.D} (h : pl (n + 1) d) : Rs S (n + 1) d d := .inl ⟨rfl, h⟩
theorem Rs.loc {n m : Nat} {xs : List SL.D} (e : S[m]? = some (.lst xs)) (hl : xs.length ≤ 100000) (hp : ∀ x ∈ xs, pl (n + 1) x) : Rs S (n + 2) (.loc m) (.lst xs) :=
  .inr ⟨"list", xs, xs, .loc e, .lst xs, .inl rfl, rfl, hl, fun i x' d' h1 h2 => by
    rw [h1] at h2
    cases h2
    exact .rf (hp _ (List.mem_of_getElem? h1))⟩
end
section
variable {A : Ad} {U S S' : Store} {Q : SL.D → Store → Prop} {X : Ex → Store → Prop} {ws : List Nat} {c : Nat} {bars : List (List Nat)} {F : Nat → List Nat} {P r f : List Nat}
end
section
variable {A : Ad} {U S S' : Store} {Q : SL.D → Store → Prop} {X : Ex → Store → Prop} {ws : List Nat} {c : Nat} {bars : List (List Nat)} {F : Nat → List Nat} {P r x : List Nat}
def nb (r : List Nat) (i : Nat) : List Nat := r.take i ++ [swL (r[i]?.getD 0)] ++ r.drop (i + 1)
theorem nd_lenG {α : Type} [DecidableEq α] : ∀ {a b : List α}, a.Nodup → (∀ x ∈ a, x ∈ b) → a.length ≤ b.length
  | [], _, _, _ => Nat.zero_le _
  | x :: a, b, nd, h => by
    have nd' := List.nodup_cons.mp nd
    have h1 := nd_lenG (b := b.erase x) nd'.2 fun y hy => by
      have hne : y ≠ x := fun e => nd'.1 (e ▸ hy)
      exact (List.mem_erase_of_ne hne).mpr (h y (List.mem_cons_of_mem _ hy))
    have hx : x ∈ b := h x (by simp)
    rw [List.length_erase_of_mem hx] at h1
    have := List.length_pos_of_mem hx
    rw [List.length_cons]
    omega
end
section
variable {ws : List Nat} {bars : List (List Nat)} {Ts : List (List Nat)} {g r x a : List Nat} {s p : Nat}
def tx (Ts : List (List Nat)) (p : Nat) : List Nat := Ts[p]?.getD []
def wnB (Ts : List (List Nat)) (a : List Nat) (w : Nat) : Bool := a.any fun p => (tx Ts p).any fun s => decide (loL s = w)
def gdB (Ts : List (List Nat)) (g a : List Nat) (p : Nat) : Bool := (tx Ts p).all fun s => decide (s ∈ g) || wnB Ts a (loL s)
def nxP (Ts : List (List Nat)) (g a : List Nat) : List Nat := (List.range Ts.length).filter fun p => !decide (p ∈ a) && gdB Ts g a p
def stp (Ts : List (List Nat)) (g a : List Nat) : List Nat := match nxP Ts g a with
  | [] => a
  | p :: _ => a ++ [p]
def tbN (Ts : List (List Nat)) (g : List Nat) : Nat → List Nat
  | 0 => []
  | n + 1 => stp Ts g (tbN Ts g n)
def tb (Ts : List (List Nat)) (g : List Nat) : List Nat := tbN Ts g Ts.length
def run (Ts : List (List Nat)) (x : List Nat) (ps : List Nat) : List Nat := ps.foldl (fun y p => wr y (tx Ts p)) x
inductive OkL (Ts : List (List Nat)) (g : List Nat) : List Nat → Prop where
  | nil : OkL Ts g []
  | snoc {a : List Nat} {p : Nat} (h : OkL Ts g a) (k : gdB Ts g a p = true) : OkL Ts g (a ++ [p])
theorem wr_keep (h : s ∈ x) {S : List Nat} (k : swL s ∉ S) : s ∈ wr x S := List.mem_map.mpr ⟨s, h, if_neg k⟩
end
section
variable {A : Ad} {U S S' : Store} {Q : SL.D → Store → Prop} {X : Ex → Store → Prop} {ws : List Nat} {c : Nat} {bars : List (List Nat)} {F : Nat → List Nat} {P r g f : List Nat} {Ts Ps : List (List Nat)}
open Classical in
noncomputable def clo (ws : List Nat) (bars : List (List Nat)) (P : List Nat) : List Nat := if h : ∃ f : List Nat, f.Nodup ∧ f.Pairwise sdR ∧ ∀ t, t ∈ f ↔ Sh ws bars P t then h.choose else []
abbrev nI (l : List Nat) : List Int := l.map fun i => ((i : Nat) : Int)
end
section
variable {A : Ad} {U S S' : Store} {Q : SL.D → Store → Prop} {X : Ex → Store → Prop} {ws : List Nat} {c : Nat} {bars : List (List Nat)} {F : Nat → List Nat} {P r g f : List Nat} {Ts Ps Qs R : List (List Nat)}
structure Clo (ws : List Nat) (bars : List (List Nat)) (P : List Nat) : Prop where
  pt : Pt ws P
  ex : ∃ q ∈ lawR ws bars, ∀ c ∈ P, c ∈ q
  tg : Tog ws bars P
  cl : Cl ws bars (clo ws bars P)
  nd : (clo ws bars P).Nodup
  srt : (clo ws bars P).Pairwise sdR
  mem : ∀ t, t ∈ clo ws bars P ↔ Sh ws bars P t
def Clos (ws : List Nat) (bars : List (List Nat)) (Ps : List (List Nat)) : Prop := ∀ P ∈ Ps, Clo ws bars P
noncomputable def ld (ws : List Nat) (bars : List (List Nat)) (Qs : List (List Nat)) (x : List Nat) : List Nat := Qs.foldl (fun y P => wr y (clo ws bars P)) x
theorem ld_room (hw : Wls ws) (hb : Brs ws bars) : ∀ {Qs : List (List Nat)} {x : List Nat}, Clos ws bars Qs → x ∈ lawR ws bars → ld ws bars Qs x ∈ lawR ws bars
  | [], _, _, h => h
  | P :: Qs, x, hQ, h => by
    obtain ⟨rm, av⟩ := (lawR_mem hw).mp h
    have hP := hQ P (List.mem_cons_self ..)
    exact ld_room hw hb (Qs := Qs) (x := wr x (clo ws bars P)) (fun q hq => hQ q (List.mem_cons_of_mem _ hq)) ((lawR_mem hw).mpr ⟨wr_rm hw rm, wr_av hw hb hP.cl rm av⟩)
def kT (l : List Nat) : Key := .inr (sOf l)
theorem kT_inj {a b : List Nat} (h : kT a = kT b) : a = b := by
  unfold kT at h
  injection h with h
  have := congrArg (fun s : Str => s.cps.toList) h
  simpa [sOf] using this
theorem lookK_mapT {f : List Nat → SL.D} {x : List Nat} : ∀ {l : List (List Nat)}, x ∈ l → lookK (l.map kT) (l.map f) (kT x) = some (f x)
  | [], h => by simp at h
  | y :: l, h => by
    simp only [List.map_cons, lookK]
    by_cases e : y = x
    · subst e; simp
    · rw [if_neg (fun z => e (kT_inj z))]
      exact lookK_mapT ((List.mem_cons.mp h).resolve_left (fun z => e z.symm))
theorem memK_mapT {x : List Nat} {l : List (List Nat)} : memK (l.map kT) (kT x) = decide (x ∈ l) := by
  induction l with
  | nil => rfl
  | cons y l ih =>
    have e : memK ((y :: l).map kT) (kT x) = (decide (kT y = kT x) || memK (l.map kT) (kT x)) := rfl
    rw [e, ih]
    by_cases h : y = x
    · subst h; simp
    · have : kT y ≠ kT x := fun z => h (kT_inj z)
      have h' : x ≠ y := fun z => h z.symm
      simp [this, h, h']
theorem wp_finDc {ks : List Key} {xs : List SL.D} {t : Store} (h : okL 0 xs = true) (k : Q (.dct ks xs) S) : wp (finV S (.loc S.length) (S ++ (.dct ks xs :: t))) Q X := by
  refine wp_ok (fin_cut (e := .dct ks xs) ?_ rfl Settles.same) k
  have e1 : (S ++ (Cell.dct ks xs :: t))[S.length]? = some (.dct ks xs) := by simp
  have ho : ¬ okD S.length (.loc S.length) = true := by simp [okD]
  unfold fz fzN
  rw [if_neg ho]
  simp only [e1, allO_cl (okL_up _ _ h)]
end
end NC
namespace NC
open PySem PySem.Spec L2 SL Hal
local macro_rules
  | `(tactic| infer_instance) => `(tactic| first
    | ((with_reducible first
        | refine wf_seq ?_ | refine wf_asg ?_ | refine wf_ret ?_ | refine wf_retN ?_ | refine wf_expr ?_ | refine wf_nxM ?_ | refine wf_ctM ?_ | refine wf_bkM ?_ | refine wf_asgT ?_ | refine wf_raise ?_
        | refine wp_op2 ?_ | refine wp_op1 ?_ | refine wp_callG ?_ | refine wp_cons ?_ | refine wp_nil ?_ | refine wp_c ?_ | refine wp_cmpB ?_ | refine wp_trM ?_ | refine wp_notB ?_ | refine wp_andB ?_ | refine wp_orB ?_ | refine wp_andM ?_ | refine wp_orM ?_ | refine wp_notM ?_ | refine wp_ch ?_ | refine wp_sl ?_ | refine wp_soO ?_ | refine wp_noO ?_ | refine wp_fmt ?_ | refine wp_callKG ?_ | refine wp_yes ?_ | refine wp_mkx ?_ | refine wp_bM ?_ | refine wp_freeze ?_ | refine wf_par ?_ | refine wf_asgU ?_
        | refine gw_addI ?_ | refine gw_subI ?_ | refine gw_ltI ?_ | refine gw_leI ?_ | refine gw_gtI ?_ | refine gw_geI ?_ | refine gw_eqI ?_ | refine gw_neI ?_ | refine gw_eqS ?_ | refine gw_neS ?_ | refine gw_inC ?_ | refine gw_ninC ?_ | refine gw_ltS ?_ | refine gw_inL ?_ | refine gw_ninL ?_ | refine gw_sorted ?_ | refine gw_keys ?_ | refine gw_eqB ?_ | refine gw_neB ?_
        | refine gb_ltI ?_ | refine gb_leI ?_ | refine gb_gtI ?_ | refine gb_geI ?_ | refine gb_eqI ?_ | refine gb_neI ?_ | refine gb_eqS ?_ | refine gb_neS ?_ | refine gb_inC ?_ | refine gb_ninC ?_ | refine gb_inL ?_ | refine gb_ninL ?_ | refine gb_bl ?_ | refine gt_bl ?_ | refine gt_int ?_ | refine gt_lst ?_ | refine gt_tup ?_
        | refine gw_asI ?_ | refine gw_slT ?_ | refine gw_slL ?_ | refine gw_lenL ?_ | refine gw_lenT ?_ | refine gw_tuple ?_ | refine gw_tupleT ?_ | refine gw_tupleEnd ?_ | refine gw_lenEnd ?_ | refine gw_all ?_ | refine gw_any ?_ | refine gw_sum ?_ | refine gw_intI ?_ | refine gw_intB ?_ | refine gw_ix0L ?_ | refine gw_ix0T ?_ | refine gw_ix1L ?_ | refine gw_ix1T ?_ | refine gw_ix2L ?_ | refine gw_ix2T ?_))
    | ((with_reducible apply wp_v); (· rfl))
    | (with_reducible refine wp_appA ?_)
    | (with_reducible refine wp_mtS ?_)
    | (with_reducible first | refine gw_addS ?_ | refine gw_addL ?_ | refine gw_addT ?_ | refine gw_mulR ?_ | refine gw_mulL ?_ | refine gw_modI ?_ | refine gw_fdivI ?_ | refine gw_tup ?_ | refine gw_lst ?_ | refine gw_lenS ?_ | refine gw_slTo ?_ | refine gw_slFrom ?_ | refine gw_slFT ?_ | refine gw_slS ?_ | refine gw_pow ?_ | refine gw_swap ?_ | refine gw_isup ?_ | refine gw_upper1 ?_ | refine gw_lower1 ?_ | refine gw_upper ?_ | refine gw_lower ?_ | refine gw_str ?_ | refine gw_mulS ?_)
    | (refine ⟨rfl, ?_⟩))
  | `(tactic| sizeOf_list_dec) => `(tactic| (refine wp_def ?_; simp only [startD, List.map_cons, List.map_nil, List.length_cons, List.length_nil, Nat.reduceAdd, Nat.reduceSub, List.replicate_succ, List.replicate_zero, List.cons_append, List.nil_append, Nat.zero_add]))
section
variable {A : Ad} {U S S' : Store} {Q : SL.D → Store → Prop} {X : Ex → Store → Prop} {ws : List Nat} {c : Nat} {bars : List (List Nat)} {F : Nat → List Nat}
structure Way (R : List (List Nat)) (r g : List Nat) (L : List (List Nat)) (j : Nat) : Prop where
  len : L.length = j + 1
  fst : L[0]? = some r
  lst : ∃ h, L[j]? = some h ∧ apart h g + j = apart r g
  mem : ∀ x ∈ L, x ∈ R
  one : ∀ (i : Nat) (a b : List Nat), L[i]? = some a → L[i + 1]? = some b → apart a b = 1
end
end NC
namespace NC
open PySem PySem.Spec L2 SL Hal
local macro_rules
  | `(tactic| infer_instance) => `(tactic| first
    | ((with_reducible first
        | refine wf_seq ?_ | refine wf_if ?_ | refine wp_ifM ?_ | refine wp_appN ?_ | refine wf_asg ?_ | refine wf_ret ?_ | refine wf_retN ?_ | refine wf_expr ?_ | refine wf_nxM ?_ | refine wf_ctM ?_ | refine wf_bkM ?_ | refine wf_asgT ?_ | refine wf_raise ?_
        | refine wp_op2 ?_ | refine wp_op1 ?_ | refine wp_callG ?_ | refine wp_cons ?_ | refine wp_nil ?_ | refine wp_c ?_ | refine wp_cmpB ?_ | refine wp_trM ?_ | refine wp_notB ?_ | refine wp_andB ?_ | refine wp_orB ?_ | refine wp_andM ?_ | refine wp_orM ?_ | refine wp_notM ?_ | refine wp_ch ?_ | refine wp_sl ?_ | refine wp_soO ?_ | refine wp_noO ?_ | refine wp_fmt ?_ | refine wp_callKG ?_ | refine wp_yes ?_ | refine wp_mkx ?_ | refine wp_bM ?_ | refine wp_freeze ?_ | refine wf_par ?_ | refine wf_asgU ?_
        | refine gw_addI ?_ | refine gw_subI ?_ | refine gw_ltI ?_ | refine gw_leI ?_ | refine gw_gtI ?_ | refine gw_geI ?_ | refine gw_eqI ?_ | refine gw_neI ?_ | refine gw_eqS ?_ | refine gw_neS ?_ | refine gw_inC ?_ | refine gw_ninC ?_ | refine gw_ltS ?_ | refine gw_inL ?_ | refine gw_ninL ?_ | refine gw_sorted ?_ | refine gw_sortedT ?_ | refine gw_keys ?_ | refine gw_eqB ?_ | refine gw_neB ?_
        | refine gb_ltI ?_ | refine gb_leI ?_ | refine gb_gtI ?_ | refine gb_geI ?_ | refine gb_eqI ?_ | refine gb_neI ?_ | refine gb_eqS ?_ | refine gb_neS ?_ | refine gb_inC ?_ | refine gb_ninC ?_ | refine gb_inL ?_ | refine gb_ninL ?_ | refine gb_bl ?_ | refine gt_bl ?_ | refine gt_int ?_ | refine gt_lst ?_ | refine gt_tup ?_
        | refine gw_asI ?_ | refine gw_slT ?_ | refine gw_slL ?_ | refine gw_lenL ?_ | refine gw_lenT ?_ | refine gw_tuple ?_ | refine gw_tupleT ?_ | refine gw_tupleEnd ?_ | refine gw_lenEnd ?_ | refine gw_all ?_ | refine gw_any ?_ | refine gw_sum ?_ | refine gw_intI ?_ | refine gw_intB ?_ | refine gw_ix0L ?_ | refine gw_ix0T ?_ | refine gw_ix1L ?_ | refine gw_ix1T ?_ | refine gw_ix2L ?_ | refine gw_ix2T ?_))
    | ((with_reducible apply wp_v); (· rfl))
    | (with_reducible refine wp_appA ?_)
    | (with_reducible refine wp_mtS ?_)
    | (refine wp_fO (by rfl) (by rfl) ?_)
    | (refine wp_mO (by rfl) (by rfl) ?_)
    | (with_reducible first | refine gw_addS ?_ | refine gw_addL ?_ | refine gw_addT ?_ | refine gw_mulR ?_ | refine gw_mulL ?_ | refine gw_modI ?_ | refine gw_fdivI ?_ | refine gw_tup ?_ | refine gw_lst ?_ | refine gw_lenS ?_ | refine gw_slTo ?_ | refine gw_slFrom ?_ | refine gw_slFT ?_ | refine gw_slS ?_ | refine gw_pow ?_ | refine gw_swap ?_ | refine gw_isup ?_ | refine gw_upper1 ?_ | refine gw_lower1 ?_ | refine gw_upper ?_ | refine gw_lower ?_ | refine gw_str ?_ | refine gw_mulS ?_)
    | (refine ⟨rfl, ?_⟩))
  | `(tactic| sizeOf_list_dec) => `(tactic| (refine wp_def ?_; simp only [startD, List.map_cons, List.map_nil, List.length_cons, List.length_nil, Nat.reduceAdd, Nat.reduceSub, List.replicate_succ, List.replicate_zero, List.cons_append, List.nil_append, Nat.zero_add]))
section
variable {A : Ad} {U S S' : Store} {Q : SL.D → Store → Prop} {X : Ex → Store → Prop} {ws : List Nat} {c : Nat} {bars : List (List Nat)} {F : Nat → List Nat} {P r g f : List Nat} {Ts Ps Qs R : List (List Nat)}
end
section
variable {A : Ad} {U S S' : Store} {Q : SL.D → Store → Prop} {X : Ex → Store → Prop} {ws : List Nat} {c : Nat} {bars : List (List Nat)} {F : Nat → List Nat} {P r g f : List Nat} {Ts Ps Qs R : List (List Nat)}
abbrev abc : List Nat := lets
def bsh (L : List Nat) : List Nat := (abc.map fun w => L.filter fun s => decide (loL s = w)).flatten
theorem abc_pw : abc.Pairwise (· < ·) := by decide
theorem abc_mem {w : Nat} : w ∈ abc ↔ 97 ≤ w ∧ w ≤ 122 := by
  simp only [abc, List.mem_cons, List.not_mem_nil, or_false]
  omega
end
section
variable {A : Ad} {U S S' : Store} {Q : SL.D → Store → Prop} {X : Ex → Store → Prop} {ws : List Nat} {c : Nat} {bars : List (List Nat)} {F : Nat → List Nat} {P r g f : List Nat} {Ts Ps Qs R : List (List Nat)}
end
section
variable {A : Ad} {U S S' : Store} {Q : SL.D → Store → Prop} {X : Ex → Store → Prop} {ws : List Nat} {c : Nat} {bars : List (List Nat)} {F : Nat → List Nat} {P r g f : List Nat} {Ts Ps Qs R : List (List Nat)} {Pr : List (Nat × Nat)}
inductive Bh (Pr : List (Nat × Nat)) : Nat → Nat → Prop where
  | one {a b : Nat} (h : (a, b) ∈ Pr) : Bh Pr a b
  | more {a b c : Nat} (h : Bh Pr a b) (k : (b, c) ∈ Pr) : Bh Pr a c
def opn (Pr : List (Nat × Nat)) (L : List Nat) : Nat := (Pr.filter fun e => !decide (e.2 ∈ L)).length
structure BhL (Pr : List (Nat × Nat)) (p : Nat) (B : List Nat) : Prop where
  snd : ∀ z ∈ B, Bh Pr p z
  fst : ∀ z, (p, z) ∈ Pr → z ∈ B
structure BhA (Pr : List (Nat × Nat)) (p : Nat) (B : List Nat) : Prop extends BhL Pr p B where
  cls : ∀ z ∈ B, ∀ y, (z, y) ∈ Pr → y ∈ B
theorem BhA.all {p z : Nat} {B : List Nat} (h : BhA Pr p B) (k : Bh Pr p z) : z ∈ B := by
  induction k with
  | one e => exact h.fst _ e
  | more _ e ih => exact h.cls _ ih _ e
structure Prs (n : Nat) (Pr : List (Nat × Nat)) : Prop where
  len : Pr.length ≤ 9
  ok : ∃ rk : Nat → Nat, ∀ p ∈ Pr, p.1 < n ∧ p.2 < n ∧ rk p.1 < rk p.2
end
section
variable {A : Ad} {U S S' : Store} {Q : SL.D → Store → Prop} {X : Ex → Store → Prop} {ws : List Nat} {c : Nat} {bars : List (List Nat)} {F : Nat → List Nat} {P r g f : List Nat} {Ts Ps Qs R : List (List Nat)} {Pr : List (Nat × Nat)}
theorem dec_int (a b : Nat) : decide (((a : Nat) : Int) = ((b : Nat) : Int)) = decide (a = b) := by
  by_cases h : a = b
  · simp [h]
  · have : ¬ ((a : Nat) : Int) = ((b : Nat) : Int) := by omega
    rw [decide_eq_false this, decide_eq_false h]
end
section
variable {A : Ad} {U S S' : Store} {Q : SL.D → Store → Prop} {X : Ex → Store → Prop} {ws : List Nat} {c : Nat} {bars : List (List Nat)} {F : Nat → List Nat} {P r g f L : List Nat} {Ts Ps Qs R : List (List Nat)} {Pr : List (Nat × Nat)} {n : Nat}
end
section
variable {A : Ad} {U S S' : Store} {Q : SL.D → Store → Prop} {X : Ex → Store → Prop} {ws : List Nat} {c : Nat} {bars : List (List Nat)} {F : Nat → List Nat} {P r g f L : List Nat} {Ts Ps Qs R : List (List Nat)} {Pr : List (Nat × Nat)} {n : Nat}
theorem wp_defK {n : Nat} {m : MS} {ds : List SL.D} (h : wf (m (startD n ds) S) (fun _ S' => Q .non S') Q (fun x _ S' => X x S') noB noB) : wp (defK n m ds S) Q X := by
  unfold defK
  cases e : m (startD n ds) S with
  | nx δ S' => rw [e] at h; exact h
  | rt d S' => rw [e] at h; exact h
  | exc x δ S' => rw [e] at h; exact h
  | bk δ S' => rw [e] at h; exact h.elim
  | ct δ S' => rw [e] at h; exact h.elim
  | stuck => rw [e] at h; exact h.elim
end
section
variable {A : Ad} {U S S' : Store} {Q : SL.D → Store → Prop} {X : Ex → Store → Prop} {ws : List Nat} {bars : List (List Nat)} {F : Nat → List Nat} {P r g f L b o : List Nat} {Ts Ps : List (List Nat)} {Pr : List (Nat × Nat)} {n j k p : Nat}
def LsAt (S : Store) (n : Nat) (d : SL.D) (xs : List SL.D) : Prop := d = .lst xs ∨ ∃ m, n ≤ m ∧ d = .loc m ∧ S[m]? = some (.lst xs)
theorem LsAt.app {d : SL.D} {xs : List SL.D} {t : Store} (h : LsAt S n d xs) : LsAt (S ++ t) n d xs := by
  rcases h with rfl | ⟨m, h1, rfl, h2⟩
  · exact .inl rfl
  · exact .inr ⟨m, h1, rfl, by rw [List.getElem?_append_left (List.getElem?_eq_some_iff.mp h2).1]; exact h2⟩
theorem LsAt.asQ {d : SL.D} {xs : List SL.D} (h : LsAt S n d xs) : asQ S d = some xs := by
  rcases h with rfl | ⟨m, h1, rfl, h2⟩
  · rfl
  · simp only [SL.asQ, asL, h2]
theorem LsAt.it {d : SL.D} {xs : List SL.D} (h : LsAt S n d xs) : iterD S d = some xs := by
  rcases h with rfl | ⟨m, h1, rfl, h2⟩
  · rfl
  · show SL.asQ S (.loc m) = _
    simp only [SL.asQ, asL, h2]
theorem LsAt.fin {d : SL.D} {xs : List SL.D} {t : Store} (h : LsAt (S' ++ t) S.length d xs) (ok : okL 0 xs = true) (hl : S'.length = S.length) (hs : Settles S S') (k : Q (.lst xs) S') : wp (finV S d (S' ++ t)) Q X := by
  rcases h with rfl | ⟨m, h1, rfl, h2⟩
  · exact wp_finG ok hl hs k
  · refine wp_ok (fin_cut (e := .lst xs) ?_ hl hs) k
    have ho : ¬ okD S.length (.loc m) = true := by
      simp only [okD, decide_eq_true_eq]
      omega
    unfold fz fzN
    rw [if_neg ho]
    simp only [h2, allO_cl (okL_up _ _ ok)]
theorem at_vw {d : SL.D} {xs : List SL.D} (h : At S d (.lst xs)) : Vw S d "list" xs := by
  rcases h with rfl | ⟨m, ys, rfl, h, e⟩
  · exact .lst xs
  · cases e
    exact .loc h
theorem Rs.at_ {n : Nat} {x y : SL.D} {xs : List SL.D} (hx : At S x (.lst xs)) (hy : At S y (.lst xs)) (hl : xs.length ≤ 100000) (hp : ∀ z ∈ xs, pl (n + 1) z) : Rs S (n + 2) x y :=
  .inr ⟨"list", xs, xs, at_vw hx, at_vw hy, .inl rfl, rfl, hl, fun i x' d' h1 h2 => by
    rw [h1] at h2
    cases h2
    exact .rf (hp _ (List.mem_of_getElem? h1))⟩
inductive LO (n : Nat) (Pr : List (Nat × Nat)) : List Nat → Prop where
  | nil : LO n Pr []
  | snoc {b : List Nat} {k : Nat} (h : LO n Pr b) (hk : k < n) (hn : k ∉ b) (ha : ∀ a, (a, k) ∈ Pr → a ∈ b) : LO n Pr (b ++ [k])
theorem LO.nd (h : LO n Pr o) : o.Nodup := by
  induction h with
  | nil => exact List.nodup_nil
  | snoc h hk hn ha ih =>
    rw [List.nodup_append]
    refine ⟨ih, by simp, fun x hx y hy => ?_⟩
    rw [List.mem_singleton.mp hy]
    exact fun z => hn (by rw [← z]; exact hx)
theorem LO.lt (h : LO n Pr o) : ∀ k ∈ o, k < n := by
  induction h with
  | nil => intro k h; cases h
  | snoc h hk hn ha ih =>
    intro k hkm
    rcases List.mem_append.mp hkm with z | z
    · exact ih k z
    · rw [List.mem_singleton.mp z]; exact hk
theorem LO.of (nd : o.Nodup) (lt : ∀ k ∈ o, k < n) (h : ∀ s x t, o = s ++ x :: t → ∀ a, (a, x) ∈ Pr → a ∈ s) : LO n Pr o := by
  have key : ∀ (m : Nat) (o : List Nat), o.length = m → o.Nodup → (∀ k ∈ o, k < n) → (∀ s x t, o = s ++ x :: t → ∀ a, (a, x) ∈ Pr → a ∈ s) → LO n Pr o := fun m => by
    induction m with
    | zero => intro o hl _ _ _; rw [List.eq_nil_of_length_eq_zero hl]; exact .nil
    | succ m ih =>
      intro o hl nd lt h
      rcases o.eq_nil_or_concat with rfl | ⟨b, k, rfl⟩
      · cases hl
      · rw [List.concat_eq_append] at *
        have nd2 := List.nodup_append.mp nd
        refine .snoc (ih b (by simpa using hl) nd2.1 (fun x hx => lt x (List.mem_append_left _ hx)) fun s x t e a ha => h s x (t ++ [k]) (by rw [e]; simp) a ha) (lt k (by simp)) (fun z => nd2.2.2 k z k (by simp) rfl) fun a ha => h b k [] rfl a ha
  exact key _ o rfl nd lt h
end
section
variable {A : Ad} {U S S' : Store} {Q : SL.D → Store → Prop} {X : Ex → Store → Prop} {ws : List Nat} {bars : List (List Nat)} {F : Nat → List Nat} {P r g f L b o : List Nat} {Ts Ps : List (List Nat)} {Pr : List (Nat × Nat)} {n j k p : Nat}
theorem get_map {α : Type} {f : α → SL.D} {l : List α} {i : Nat} {d : SL.D} (h : (l.map f)[i]? = some d) : ∃ x, l[i]? = some x ∧ d = f x := by
  rw [List.getElem?_map] at h
  cases e : l[i]? with
  | none => rw [e] at h; cases h
  | some x => rw [e] at h; exact ⟨x, rfl, (Option.some.inj h).symm⟩
end
section
variable {A : Ad} {U S S' : Store} {Q : SL.D → Store → Prop} {X : Ex → Store → Prop} {ws : List Nat} {c : Nat} {bars : List (List Nat)} {F : Nat → List Nat} {P r g f L : List Nat} {Ts Ps Qs R : List (List Nat)} {Pr : List (Nat × Nat)} {n : Nat}
end
section
variable {A : Ad} {U S S' : Store} {Q : SL.D → Store → Prop} {X : Ex → Store → Prop} {ws : List Nat} {bars : List (List Nat)} {F : Nat → List Nat} {P r g x y a : List Nat} {Ts Ps : List (List Nat)} {n j k p m : Nat} {al f : Nat → Bool}
end
section
variable {A : Ad} {U S S' : Store} {Q : SL.D → Store → Prop} {X : Ex → Store → Prop} {ws : List Nat} {bars : List (List Nat)} {F : Nat → List Nat} {P r g x y a t : List Nat} {Ts Ps : List (List Nat)} {n j k p m : Nat} {al f : Nat → Bool}
end
section
variable {A : Ad} {U S S' : Store} {Q : SL.D → Store → Prop} {X : Ex → Store → Prop} {ws : List Nat} {bars : List (List Nat)} {F : Nat → List Nat} {P r g x y a t : List Nat} {Ts Ps ks R : List (List Nat)} {n j k p m : Nat} {al f : Nat → Bool}
theorem wf_setD {δ : DEnv} {mo mi mv : ME} {N B C : DEnv → Store → Prop} {RR : SL.D → Store → Prop} {Y : Ex → DEnv → Store → Prop} (h : wp (mv δ S) (fun d S1 => wp (mo δ S1) (fun x S2 => wp (mi δ S2) (fun y S3 => ∃ n kk ds k, x = .loc n ∧ S3[n]? = some (.dct kk ds) ∧ keyD y = some k ∧ kk.length < 1000000 ∧ N δ (S3.set n (.dct (putD kk ds k d).1 (putD kk ds k d).2))) (fun x S1 => Y x δ S1)) (fun x S1 => Y x δ S1)) (fun x S1 => Y x δ S1)) : wf (setXM mo mi mv δ S) N RR Y B C :=
  wf_bind (wp_q h fun d S1 h => wf_bind (wp_q h fun x S2 h => wf_bind (wp_q h fun y S3 h => by
    obtain ⟨n, kk, ds, k, rfl, e, ek, hl, h⟩ := h
    have e1 : locL S3 (.loc n) = none := by simp only [locL, e]
    have e2 : locD S3 (.loc n) = some (n, kk, ds) := by simp only [locD, e]
    simp only [e1, e2, ek]
    rw [if_pos hl]
    exact h)))
theorem ok_strs (L : List (List Nat)) : okL 0 (L.map SL.D.str) = true := okL_iff.mpr fun d hd => by
  obtain ⟨z, _, rfl⟩ := List.mem_map.mp hd
  rfl
end
section
variable {A : Ad} {S S' S1 S2 : Store} {Q : SL.D → Store → Prop} {X : Ex → Store → Prop}
theorem finX_eq {x : Ex} (hl : S'.length = S.length) : finX S x S' = .exc x S' := by
  have e : S'.take S.length = S' := by rw [← hl, List.take_length]
  unfold finX
  split
  · rw [e]
  · rfl
theorem wp_finXE {x : Ex} (hl : S'.length = S.length) (k : X x S') : wp (finX S x S') Q X := wp_exc (finX_eq hl) k
theorem inB_dk {d : SL.D} {ks : List Key} {ds : List SL.D} {a : List Nat} (e : asDct S d = some (ks, ds)) : inB S (.str a) d = some (memK ks (kT a)) := by
  cases d with
  | dct ks' ds' => cases e; rfl
  | loc n =>
    simp only [asDct] at e
    split at e
    · rename_i ks' ds' h
      cases e
      simp [inB, asQ, asL, asT, h, asDct, keyD, kT, sOf]
    · cases e
  | _ => cases e
theorem ix_dct {d : SL.D} {ks : List Key} {ds : List SL.D} {a : List Nat} (e : asDct S d = some (ks, ds)) : ixG S d (.str a) = lookK ks ds (kT a) := by
  cases d with
  | dct ks' ds' => cases e; rfl
  | loc n =>
    simp only [asDct] at e
    split at e
    · rename_i ks' ds' h
      cases e
      simp [ixG, h, asDct, keyD, kT, sOf]
    · cases e
  | _ => cases e
section
variable {d : SL.D} {ns : List (List Nat)} {g : List Nat → SL.D} {a : List Nat} {PP : SL.D → Prop} {PB : Bool → Prop}
theorem gb_inDk (e : asDct S d = some (ns.map kT, ns.map g)) (k : PB (decide (a ∈ ns))) : GW (asB (inG S (.str a) d)) PB := ⟨_, by unfold inG; rw [inB_dk e, memK_mapT]; rfl, k⟩
theorem gb_ninDk (e : asDct S d = some (ns.map kT, ns.map g)) (k : PB (!decide (a ∈ ns))) : GW (asB (ninG S (.str a) d)) PB := ⟨_, by unfold ninG; rw [inB_dk e, memK_mapT]; rfl, k⟩
theorem gw_ixDk (e : asDct S d = some (ns.map kT, ns.map g)) (h : a ∈ ns) (k : PP (g a)) : GW (ixG S d (.str a)) PP := ⟨_, (ix_dct e).trans (lookK_mapT h), k⟩
theorem asDct_loc {c : Nat} {ks : List Key} {ds : List SL.D} (e : S[c]? = some (.dct ks ds)) : asDct S (.loc c) = some (ks, ds) := by simp [asDct, e]
end
def Fr (c : Nat) (S S' : Store) : Prop := S'.length = S.length ∧ ∀ i, i ≠ c + 1 → i ≠ c + 2 → S'[i]? = S[i]?
theorem Fr.refl {c : Nat} : Fr c S S := ⟨rfl, fun _ _ _ => rfl⟩
theorem Fr.trans {c : Nat} (a : Fr c S S1) (b : Fr c S1 S2) : Fr c S S2 := ⟨b.1.trans a.1, fun i h1 h2 => (b.2 i h1 h2).trans (a.2 i h1 h2)⟩
theorem Fr.set1 {c : Nat} {x : Cell} : Fr c S (S.set (c + 1) x) := ⟨by simp, fun i h1 _ => List.getElem?_set_ne (Ne.symm h1)⟩
theorem Fr.set2 {c : Nat} {x : Cell} : Fr c S (S.set (c + 2) x) := ⟨by simp, fun i _ h2 => List.getElem?_set_ne (Ne.symm h2)⟩
structure Kp (c : Nat) (g : List Nat → SL.D) (kn op : List (List Nat)) (S : Store) : Prop where
  nd : kn.Nodup
  dk : S[c + 1]? = some (.dct (kn.map kT) (kn.map g))
  lo : S[c + 2]? = some (.lst (op.map SL.D.str))
theorem Kp.opn {c : Nat} {g : List Nat → SL.D} {kn op op' : List (List Nat)} (h : Kp c g kn op S) : Kp c g kn op' (S.set (c + 2) (.lst (op'.map SL.D.str))) :=
  ⟨h.nd, by rw [List.getElem?_set_ne (by omega)]; exact h.dk, by rw [List.getElem?_set_self (List.getElem?_eq_some_iff.mp h.lo).1]⟩
theorem Kp.put {c : Nat} {g : List Nat → SL.D} {kn op : List (List Nat)} {x : List Nat} (h : Kp c g kn op S) (hx : x ∉ kn) : Kp c g (kn ++ [x]) op (S.set (c + 1) (.dct (putD (kn.map kT) (kn.map g) (kT x) (g x)).1 (putD (kn.map kT) (kn.map g) (kT x) (g x)).2)) := by
  refine ⟨?_, ?_, by rw [List.getElem?_set_ne (by omega)]; exact h.lo⟩
  · rw [List.nodup_append]
    exact ⟨h.nd, by simp, fun a ha b hb e => hx (by rw [List.mem_singleton.mp hb] at e; rw [← e]; exact ha)⟩
  · rw [List.getElem?_set_self (List.getElem?_eq_some_iff.mp h.dk).1]
    unfold putD
    rw [memK_mapT, decide_eq_false hx]
    simp
def nmR : Rw → List (List Nat)
  | .nil => []
  | .call _ r => nmR r
  | .turn _ r => nmR r
  | .row x r => x :: nmR r
  | .times _ t r => nmR t ++ nmR r
def hgtR (H : List Nat → Nat) : Rw → Nat
  | .nil => 1
  | .call _ r => max 2 (hgtR H r)
  | .turn _ r => max 2 (hgtR H r)
  | .row x r => max (H x + 3) (hgtR H r)
  | .times _ t r => max (hgtR H t + 2) (hgtR H r)
theorem hgt_pos {H : List Nat → Nat} : ∀ t : Rw, 1 ≤ hgtR H t
  | .nil => Nat.le_refl _
  | .call _ r => by simp only [hgtR]; omega
  | .turn _ r => by simp only [hgtR]; omega
  | .row _ r => by simp only [hgtR]; omega
  | .times _ t r => by simp only [hgtR]; omega
structure Bok where
  bn : List (List Nat)
  tr : List Nat → Rw
  rk : List Nat → Nat
  H : List Nat → Nat
structure Bok.Ok (B : Bok) : Prop where
  nd : B.bn.Nodup
  len : B.bn.length ≤ 1000
  ok : ∀ x ∈ B.bn, (B.tr x).ok
  wt : ∀ x ∈ B.bn, (B.tr x).wt ≤ 400000
  low : ∀ x ∈ B.bn, ∀ y ∈ nmR (B.tr x), y ∈ B.bn ∧ B.rk y < B.rk x
  hgt : ∀ x ∈ B.bn, hgtR B.H (B.tr x) ≤ B.H x
def BkD (B : Bok) (S : Store) (d : SL.D) : Prop := asDct S d = some (B.bn.map kT, B.bn.map fun x => tD (B.tr x))
abbrev capN : Nat := 10 ^ 60
def cntR (ν : List Nat → Option Nat) : Rw → Nat → Option Nat
  | .nil, a => some a
  | .call _ r, a => if capN < a + 1 then none else cntR ν r (a + 1)
  | .turn _ r, a => if capN < a + 1 then none else cntR ν r (a + 1)
  | .row x r, a => match ν x with
    | none => none
    | some v => if capN < a + v then none else cntR ν r (a + v)
  | .times n t r, a => match cntR ν t 0 with
    | none => none
    | some v => if capN < a + n * v then none else cntR ν r (a + n * v)
theorem cnt_cap {ν : List Nat → Option Nat} : ∀ (t : Rw) {a v : Nat}, a ≤ capN → cntR ν t a = some v → v ≤ capN
  | .nil, a, v, h, e => by cases e; exact h
  | .call _ r, a, v, h, e => by
    unfold cntR at e
    split at e
    · cases e
    · exact cnt_cap r (by omega) e
  | .turn _ r, a, v, h, e => by
    unfold cntR at e
    split at e
    · cases e
    · exact cnt_cap r (by omega) e
  | .row x r, a, v, h, e => by
    unfold cntR at e
    split at e
    · cases e
    · split at e
      · cases e
      · exact cnt_cap r (by omega) e
  | .times n t r, a, v, h, e => by
    unfold cntR at e
    split at e
    · cases e
    · split at e
      · cases e
      · exact cnt_cap r (by omega) e
def hdV (ν : List Nat → Option Nat) : Rw → Option Nat
  | .nil => none
  | .call _ _ => some 1
  | .turn _ _ => some 1
  | .row x _ => ν x
  | .times n t _ => match cntR ν t 0 with
    | none => none
    | some v => some (n * v)
def tlR : Rw → Rw
  | .nil => .nil
  | .call _ r => r
  | .turn _ r => r
  | .row _ r => r
  | .times _ _ r => r
def hdD' : Rw → SL.D
  | .nil => .non
  | .call x _ => .tup [.str w_call, .str x]
  | .turn x _ => .tup [.str w_turn, .str x]
  | .row x _ => .tup [.str w_row, .str x]
  | .times n t _ => .tup [.str w_times, .int n, tD t]
def consR : Rw → Bool
  | .nil => false
  | _ => true
theorem cnt_cons {ν : List Nat → Option Nat} {t : Rw} (h : consR t = true) (a : Nat) : cntR ν t a = match hdV ν t with
    | none => none
    | some v => if capN < a + v then none else cntR ν (tlR t) (a + v) := by
  cases t with
  | nil => cases h
  | call x r => rfl
  | turn x r => rfl
  | row x r => rfl
  | times n t r =>
    show (match cntR ν t 0 with | none => none | some v => if capN < a + n * v then none else cntR ν r (a + n * v)) = match (match cntR ν t 0 with | none => none | some v => some (n * v)) with | none => none | some v => if capN < a + v then none else cntR ν r (a + v)
    cases cntR ν t 0 <;> rfl
theorem nm_tl {t : Rw} {x : List Nat} (h : x ∈ nmR (tlR t)) : x ∈ nmR t := by
  cases t with
  | nil => exact h
  | call _ r => exact h
  | turn _ r => exact h
  | row y r => exact List.mem_cons_of_mem _ h
  | times n t r => exact List.mem_append_right _ h
theorem ok_tl {t : Rw} (h : t.ok) : (tlR t).ok := by
  cases t with
  | nil => exact h
  | call _ r => exact h.2.2
  | turn _ r => exact h.2.2.2
  | row y r => exact h.2.2.2
  | times n t r => exact h.2.2
theorem wt_tl {t : Rw} : (tlR t).wt ≤ t.wt := by
  cases t with
  | nil => exact Nat.le_refl _
  | call _ r => simp only [Rw.wt, tlR]; omega
  | turn _ r => simp only [Rw.wt, tlR]; omega
  | row y r => simp only [Rw.wt, tlR]; omega
  | times n t r => simp only [Rw.wt, tlR]; omega
theorem hgt_tl {H : List Nat → Nat} {t : Rw} : hgtR H (tlR t) ≤ hgtR H t := by
  cases t with
  | nil => exact Nat.le_refl _
  | call _ r => simp only [hgtR, tlR]; omega
  | turn _ r => simp only [hgtR, tlR]; omega
  | row y r => simp only [hgtR, tlR]; omega
  | times n t r => simp only [hgtR, tlR]; omega
theorem its_okL : ∀ t : Rw, okL 0 t.its = true
  | .nil => rfl
  | .call _ r => by simp only [Rw.its, okL, okD, its_okL r, Bool.and_self]
  | .turn _ r => by simp only [Rw.its, okL, okD, its_okL r, Bool.and_self]
  | .row _ r => by simp only [Rw.its, okL, okD, its_okL r, Bool.and_self]
  | .times _ t r => by simp only [Rw.its, okL, okD, its_okL t, its_okL r, Bool.and_self]
theorem td_ok (t : Rw) : okD 0 (tD t) = true := by
  unfold tD
  simp only [okD, okL, its_okL t, Bool.and_self]
end
section
variable {A : Ad} {U S S' : Store} {Q : SL.D → Store → Prop} {X : Ex → Store → Prop} {ws : List Nat} {bars : List (List Nat)} {F : Nat → List Nat} {P r g f L : List Nat} {Ts Ps : List (List Nat)}
theorem ld_in (hw : Wls ws) (hb : Brs ws bars) (h : Clo ws bars P) {x : List Nat} (hx : x ∈ lawR ws bars) : ld ws bars [P] x ∈ lawR ws bars := ld_room hw hb (fun q hq => by rw [List.mem_singleton.mp hq]; exact h) hx
end
section
variable {A : Ad} {U S S' : Store} {Q : SL.D → Store → Prop} {X : Ex → Store → Prop} {ws : List Nat} {bars : List (List Nat)} {F : Nat → List Nat} {P r g x y a t : List Nat} {Ts Ps ks R : List (List Nat)} {n j k p m : Nat} {al f : Nat → Bool}
end
section
variable {A : Ad} {U S S' : Store} {Q : SL.D → Store → Prop} {X : Ex → Store → Prop} {ws : List Nat} {c : Nat} {bars : List (List Nat)} {F : Nat → List Nat} {P r g L t : List Nat} {n : Nat}
structure Trn (ws t : List Nat) : Prop where
  len : t.length = ws.length
  sd : ∀ c ∈ t, Sd ws c
  pm : (t.map loL).Perm ws
def gs (ws t : List Nat) (c : Nat) : Nat := if loL c = c then t.getD (ws.idxOf (loL c)) 0 else swL (t.getD (ws.idxOf (loL c)) 0)
theorem gs_at (hw : Wls ws) (h : Trn ws t) (hc : Sd ws c) : ∃ i s, i < ws.length ∧ ws[i]? = some (loL c) ∧ t[i]? = some s ∧ t.getD (ws.idxOf (loL c)) 0 = s := by
  have hi : ws.idxOf (loL c) < ws.length := List.idxOf_lt_length_iff.mpr hc
  have ht : ws.idxOf (loL c) < t.length := by rw [h.len]; exact hi
  refine ⟨ws.idxOf (loL c), t[ws.idxOf (loL c)], hi, ?_, List.getElem?_eq_getElem ht, ?_⟩
  · rw [List.getElem?_eq_getElem hi, List.getElem_idxOf hi]
  · rw [List.getD_eq_getElem?_getD, List.getElem?_eq_getElem ht]
    rfl
theorem lo_lo (hw : Wls ws) (hc : Sd ws c) : loL (loL c) = loL c := (sd_small hw hc).2.1
theorem gs_sd (hw : Wls ws) (h : Trn ws t) (hc : Sd ws c) : Sd ws (gs ws t c) := by
  obtain ⟨i, s, _, _, hs, e⟩ := gs_at hw h hc
  have h1 := h.sd s (List.mem_of_getElem? hs)
  unfold gs
  rw [e]
  split
  · exact h1
  · exact sd_sw hw h1
theorem gs_sw (hw : Wls ws) (h : Trn ws t) (hc : Sd ws c) : gs ws t (swL c) = swL (gs ws t c) := by
  obtain ⟨i, s, _, _, hs, e⟩ := gs_at hw h hc
  have h1 := h.sd s (List.mem_of_getElem? hs)
  unfold gs
  rw [lo_sw hw hc, e]
  rcases sd_cases hw hc with ⟨a1, a2, a3, a4⟩ | ⟨a1, a2, a3, a4⟩
  · rw [if_pos a3, if_neg (by rw [a3, a4]; omega)]
  · rw [if_pos (by omega), if_neg (by omega), sw_sw hw h1]
theorem gs_lo (hw : Wls ws) (h : Trn ws t) (hc : Sd ws c) : loL (gs ws t c) = loL (gs ws t (loL c)) := by
  obtain ⟨i, s, _, _, hs, e⟩ := gs_at hw h hc
  have h1 := h.sd s (List.mem_of_getElem? hs)
  unfold gs
  rw [lo_lo hw hc, e, if_pos rfl]
  split
  · rfl
  · exact lo_sw hw h1
theorem gs_inj (hw : Wls ws) (h : Trn ws t) {a b : Nat} (ha : Sd ws a) (hb : Sd ws b) (e : gs ws t a = gs ws t b) : a = b := by
  have nd : (t.map loL).Nodup := h.pm.nodup_iff.mpr (hw.1.imp fun h => Nat.ne_of_lt h)
  have hwall : loL a = loL b := by
    obtain ⟨i, s, hi, hwi, hs, e1⟩ := gs_at hw h ha
    obtain ⟨j, u, hj, hwj, hu, e2⟩ := gs_at hw h hb
    have l1 : loL (gs ws t a) = loL s := by
      rw [gs_lo hw h ha]
      unfold gs
      rw [lo_lo hw ha, e1, if_pos rfl]
    have l2 : loL (gs ws t b) = loL u := by
      rw [gs_lo hw h hb]
      unfold gs
      rw [lo_lo hw hb, e2, if_pos rfl]
    have l3 : loL s = loL u := by rw [← l1, ← l2, e]
    have hij : i = j := by
      have q1 : (t.map loL)[i]? = some (loL s) := by rw [List.getElem?_map, hs]; rfl
      have q2 : (t.map loL)[j]? = some (loL u) := by rw [List.getElem?_map, hu]; rfl
      rw [← l3] at q2
      exact (List.getElem?_inj (List.getElem?_eq_some_iff.mp q1).1 nd).mp (q1.trans q2.symm)
    subst hij
    rw [hwi] at hwj
    exact Option.some.inj hwj
  rcases same_wall hw ha hb hwall with rfl | rfl
  · rfl
  · rw [gs_sw hw h hb] at e
    exact absurd e (sw_ne hw (gs_sd hw h hb))
theorem gs_sur (hw : Wls ws) (h : Trn ws t) {b : Nat} (hb : Sd ws b) : ∃ a, Sd ws a ∧ gs ws t a = b := by
  have : loL b ∈ t.map loL := h.pm.mem_iff.mpr hb
  obtain ⟨s, hs, e⟩ := List.mem_map.mp this
  obtain ⟨i, hi⟩ := List.getElem?_of_mem hs
  have hil : i < ws.length := by rw [← h.len]; exact (List.getElem?_eq_some_iff.mp hi).1
  have hwm : ws[i] ∈ ws := List.getElem_mem hil
  obtain ⟨sd1, lo1, _⟩ := sd_small hw hwm
  have nd : ws.Nodup := hw.1.imp fun h => Nat.ne_of_lt h
  have g1 : gs ws t ws[i] = s := by
    unfold gs
    rw [lo1, if_pos rfl, nd.idxOf_getElem i hil, List.getD_eq_getElem?_getD, hi]
    rfl
  rcases same_wall hw hb (h.sd s hs) e.symm with rfl | rfl
  · exact ⟨_, sd1, g1⟩
  · exact ⟨_, sd_sw hw sd1, by rw [gs_sw hw h sd1, g1]⟩
theorem asc_abc {c : Nat} (hw : Wls ws) (hc : Sd ws c) : loL c ∈ abc := abc_mem.mpr (hw.2.1 _ hc)
theorem bshA_perm : ∀ (ab : List Nat), ab.Nodup → ∀ (L : List Nat), (∀ c ∈ L, loL c ∈ ab) → ((ab.map fun w => L.filter fun s => decide (loL s = w)).flatten).Perm L := fun ab nd L => by
  induction L with
  | nil =>
    intro _
    have : (ab.map fun w => ([] : List Nat).filter fun s => decide (loL s = w)).flatten = [] := by
      rw [List.flatten_eq_nil_iff]
      intro l hl
      obtain ⟨w, _, rfl⟩ := List.mem_map.mp hl
      rfl
    rw [this]
  | cons x L ih =>
    intro h
    have hx := h x (List.mem_cons_self ..)
    have ih := ih fun c hc => h c (List.mem_cons_of_mem _ hc)
    refine List.Perm.trans ?_ (ih.cons x)
    obtain ⟨a, b, rfl⟩ := List.append_of_mem hx
    have nd2 := List.nodup_append.mp nd
    have nd3 := List.nodup_cons.mp nd2.2.1
    have ha : ∀ w ∈ a, ((x :: L).filter fun s => decide (loL s = w)) = L.filter fun s => decide (loL s = w) := fun w hw => by
      rw [List.filter_cons_of_neg]
      simp only [decide_eq_true_eq]
      exact fun e => nd2.2.2 w hw (loL x) (List.mem_cons_self ..) e.symm
    have hb : ∀ w ∈ b, ((x :: L).filter fun s => decide (loL s = w)) = L.filter fun s => decide (loL s = w) := fun w hw => by
      rw [List.filter_cons_of_neg]
      simp only [decide_eq_true_eq]
      exact fun e => nd3.1 (by rw [e]; exact hw)
    rw [List.map_append, List.map_append, List.map_cons, List.map_cons, List.map_congr_left ha, List.map_congr_left hb, List.flatten_append, List.flatten_append, List.flatten_cons, List.flatten_cons, List.filter_cons_of_pos (by simp), List.cons_append]
    exact List.perm_middle
theorem bsh_perm (h : ∀ c ∈ L, loL c ∈ abc) : (bsh L).Perm L := bshA_perm abc (by decide) L h
theorem bsh_srt (nd : (L.map loL).Nodup) : (bsh L).Pairwise fun a b => loL a < loL b := by
  have key : ∀ ab : List Nat, ab.Pairwise (· < ·) → ((ab.map fun w => L.filter fun s => decide (loL s = w)).flatten).Pairwise fun a b => loL a < loL b := fun ab => by
    induction ab with
    | nil => intro _; exact List.Pairwise.nil
    | cons w ab ih =>
      intro hp
      have hp2 := List.pairwise_cons.mp hp
      rw [List.map_cons, List.flatten_cons, List.pairwise_append]
      refine ⟨?_, ih hp2.2, fun a ha b hb => ?_⟩
      · have h1 : ∀ (M : List Nat), (M.map loL).Nodup → (M.filter fun s => decide (loL s = w)).length ≤ 1 := fun M => by
          induction M with
          | nil => intro _; exact Nat.zero_le _
          | cons x M ihM =>
            intro hn
            have hn2 := List.nodup_cons.mp hn
            have := ihM hn2.2
            by_cases e : loL x = w
            · rw [List.filter_cons_of_pos (by simpa using e)]
              have : (M.filter fun s => decide (loL s = w)) = [] := List.filter_eq_nil_iff.mpr fun y hy => by
                simp only [decide_eq_true_eq]
                exact fun e2 => hn2.1 (List.mem_map.mpr ⟨y, hy, by rw [e2, e]⟩)
              rw [this]
              simp
            · rw [List.filter_cons_of_neg (by simpa using e)]
              exact this
        have := h1 L nd
        match hM : L.filter fun s => decide (loL s = w) with
        | [] => exact List.Pairwise.nil
        | [x] => exact List.pairwise_singleton _ _
        | x :: y :: l => rw [hM] at this; simp at this
      · have e1 := of_decide_eq_true (List.mem_filter.mp ha).2
        obtain ⟨l, hl, hbl⟩ := List.mem_flatten.mp hb
        obtain ⟨w', hw', rfl⟩ := List.mem_map.mp hl
        have e2 := of_decide_eq_true (List.mem_filter.mp hbl).2
        rw [e1, e2]
        exact hp2.1 w' hw'
  exact key abc abc_pw
def Gt (ws t : List Nat) (ks : List Key) (ds : List SL.D) : Prop := ks.length = ds.length ∧ okL 0 ds = true ∧ ∀ c, Sd ws c → lookK ks ds (kS c) = some (.str [gs ws t c])
theorem gs_small (hw : Wls ws) (h : Trn ws t) {i w s : Nat} (h1 : ws[i]? = some w) (h2 : t[i]? = some s) : gs ws t w = s ∧ gs ws t (swL w) = swL s := by
  have hwm := List.mem_of_getElem? h1
  obtain ⟨sd1, lo1, _⟩ := sd_small hw hwm
  have nd : ws.Nodup := hw.1.imp fun h => Nat.ne_of_lt h
  have hil := (List.getElem?_eq_some_iff.mp h1).1
  have e : gs ws t w = s := by
    unfold gs
    have : ws.idxOf w = i := by
      have := nd.idxOf_getElem i hil
      rw [(List.getElem?_eq_some_iff.mp h1).2] at this
      exact this
    rw [lo1, if_pos rfl, this, List.getD_eq_getElem?_getD, h2]
    rfl
  exact ⟨e, by rw [gs_sw hw h sd1, e]⟩
def GtN (ws t : List Nat) (n : Nat) (ks : List Key) (ds : List SL.D) : Prop := ks.length = ds.length ∧ ks.length ≤ 2 * n + 24 ∧ okL 0 ds = true ∧ ∀ (i w s : Nat), i < n → ws[i]? = some w → t[i]? = some s → lookK ks ds (kS w) = some (.str [s]) ∧ lookK ks ds (kS (swL w)) = some (.str [swL s])
theorem GtN.all (hw : Wls ws) (h : Trn ws t) {ks : List Key} {ds : List SL.D} (g : GtN ws t ws.length ks ds) : Gt ws t ks ds := ⟨g.1, g.2.2.1, fun c hc => by
  obtain ⟨i, s, hi, h1, h2, _⟩ := gs_at hw h hc
  obtain ⟨k1, k2⟩ := g.2.2.2 i _ s hi h1 h2
  obtain ⟨e1, e2⟩ := gs_small hw h h1 h2
  obtain ⟨sd1, lo1, _⟩ := sd_small hw hc
  rcases same_wall hw hc sd1 lo1.symm with e | e
  · rw [← e] at e1 k1
    rw [k1, e1]
  · rw [e, k2, e2]⟩
end
section
variable {A : Ad} {U S S' : Store} {Q : SL.D → Store → Prop} {X : Ex → Store → Prop} {ws : List Nat} {c : Nat} {bars : List (List Nat)} {F : Nat → List Nat} {P r g L t : List Nat} {n : Nat}
theorem putD_new {K : List Nat} {ds : List SL.D} {c : Nat} {d : SL.D} (h : c ∉ K) : (putD (K.map kS) ds (kS c) d).1 = (K ++ [c]).map kS := by
  unfold putD
  rw [if_neg (by rw [memK_map]; simp [h]), List.map_append]
  rfl
end
section
variable {A : Ad} {U S S' : Store} {Q : SL.D → Store → Prop} {X : Ex → Store → Prop} {ws : List Nat} {c : Nat} {bars : List (List Nat)} {F : Nat → List Nat} {P r g L t x : List Nat} {n : Nat}
def TrnH (ws : List Nat) (bars : List (List Nat)) (t : List Nat) : Prop := Trn ws t ∧ ∀ s u, Sd ws s → Sd ws u → (Rch ws bars s u ↔ Rch ws bars (gs ws t s) (gs ws t u))
end
section
variable {A : Ad} {U S S' : Store} {Q : SL.D → Store → Prop} {X : Ex → Store → Prop} {ws : List Nat} {c : Nat} {bars : List (List Nat)} {F : Nat → List Nat} {P r g L L' t x : List Nat} {n : Nat}
def im (ws t L : List Nat) : List Nat := bsh (L.map (gs ws t))
theorem im_perm (hw : Wls ws) (ht : Trn ws t) (hL : ∀ c ∈ L, Sd ws c) : (im ws t L).Perm (L.map (gs ws t)) := bsh_perm fun c hc => by
  obtain ⟨x, hx, rfl⟩ := List.mem_map.mp hc
  exact asc_abc hw (gs_sd hw ht (hL x hx))
theorem im_mem (hw : Wls ws) (ht : Trn ws t) (hL : ∀ c ∈ L, Sd ws c) : c ∈ im ws t L ↔ ∃ x ∈ L, gs ws t x = c := by
  rw [(im_perm hw ht hL).mem_iff, List.mem_map]
theorem gs_mem (hw : Wls ws) (ht : Trn ws t) (hL : ∀ c ∈ L, Sd ws c) (hc : Sd ws c) : gs ws t c ∈ im ws t L ↔ c ∈ L := by
  rw [im_mem hw ht hL]
  refine ⟨fun ⟨x, hx, e⟩ => ?_, fun h => ⟨c, h, rfl⟩⟩
  rw [← gs_inj hw ht (hL x hx) hc e]
  exact hx
theorem im_sd (hw : Wls ws) (ht : Trn ws t) (hL : ∀ c ∈ L, Sd ws c) : ∀ c ∈ im ws t L, Sd ws c := fun c hc => by
  obtain ⟨x, hx, rfl⟩ := (im_mem hw ht hL).mp hc
  exact gs_sd hw ht (hL x hx)
theorem im_len (hw : Wls ws) (ht : Trn ws t) (hL : ∀ c ∈ L, Sd ws c) : (im ws t L).length = L.length := by
  rw [(im_perm hw ht hL).length_eq, List.length_map]
theorem gs_lo_inj (hw : Wls ws) (h : Trn ws t) {a b : Nat} (ha : Sd ws a) (hb : Sd ws b) (e : loL (gs ws t a) = loL (gs ws t b)) : loL a = loL b := by
  rcases same_wall hw (gs_sd hw h ha) (gs_sd hw h hb) e with e | e
  · rw [gs_inj hw h ha hb e]
  · rw [← gs_sw hw h hb] at e
    rw [gs_inj hw h ha (sd_sw hw hb) e, lo_sw hw hb]
theorem im_pt (hw : Wls ws) (ht : Trn ws t) (hL : Pt ws L) : Pt ws (im ws t L) := by
  refine ⟨im_sd hw ht hL.1, ?_⟩
  rw [List.pairwise_map]
  refine bsh_srt ?_
  rw [List.map_map]
  refine List.pairwise_map.mpr ?_
  refine List.Pairwise.imp_of_mem ?_ (List.pairwise_map.mp hL.2)
  intro a b ha hb h e
  have := gs_lo_inj hw ht (hL.1 a ha) (hL.1 b hb) e
  omega
theorem rm_ptw (hw : Wls ws) (h : Rm ws L) : Pt ws L := ⟨fun c hc => rm_sd h hc, by rw [show L.map loL = ws from h]; exact hw.1⟩
theorem av_cl (hw : Wls ws) (hb : Brs ws bars) (hr : Rm ws r) (h : ∀ s ∈ r, ∀ u, Rch ws bars s u → u ∈ r) : Av bars r := fun b hbm => by
  apply Classical.byContradiction
  intro hn
  have hall : ∀ c ∈ b, c ∈ r := fun c hc => Classical.byContradiction fun h => hn ⟨c, hc, h⟩
  obtain ⟨x, y, rfl, _⟩ := hb.1 b hbm
  obtain ⟨e, k, _⟩ := bar_eg hw hb hbm
  exact rm_not hw hr (hall y (by simp)) (h x (hall x (by simp)) _ (rch_one e k))
theorem im_rm (hw : Wls ws) (ht : Trn ws t) (hr : Rm ws r) : Rm ws (im ws t r) := by
  have pt := rm_ptw hw hr
  have p2 := im_pt hw ht pt
  have lo_sub : ∀ c ∈ (im ws t r).map loL, c ∈ ws := fun c hc => by
    obtain ⟨y, hy, rfl⟩ := List.mem_map.mp hc
    exact p2.1 y hy
  have nd : ((im ws t r).map loL).Nodup := p2.2.imp fun h => Nat.ne_of_lt h
  have hl : ((im ws t r).map loL).length = ws.length := by rw [List.length_map, im_len hw ht pt.1, rm_len' hr]
  show (im ws t r).map loL = ws
  refine perm_pw (R := (· < ·)) (fun a b h1 h2 => by omega) (nodup_perm nd (hw.1.imp fun h => Nat.ne_of_lt h) fun x => ⟨lo_sub x, fun h => ?_⟩) p2.2 hw.1
  apply Classical.byContradiction
  intro hn
  have := nodup_le (K := x :: (im ws t r).map loL) (L := ws) (List.nodup_cons.mpr ⟨hn, nd⟩) fun y hy => by
    rcases List.mem_cons.mp hy with rfl | hy
    · exact h
    · exact lo_sub y hy
  rw [List.length_cons] at this
  omega
theorem im_room (hw : Wls ws) (hb : Brs ws bars) (T : TrnH ws bars t) (h : r ∈ lawR ws bars) : im ws t r ∈ lawR ws bars := by
  obtain ⟨rm, av⟩ := (lawR_mem hw).mp h
  have pt := rm_ptw hw rm
  have rm2 := im_rm hw T.1 rm
  refine (lawR_mem hw).mpr ⟨rm2, av_cl hw hb rm2 fun s hs u hu => ?_⟩
  obtain ⟨x, hx, rfl⟩ := (im_mem hw T.1 pt.1).mp hs
  have hxs := pt.1 x hx
  obtain ⟨y, hy, rfl⟩ := gs_sur hw T.1 (rch_sd (gs_sd hw T.1 hxs) hu)
  exact (gs_mem hw T.1 pt.1 hy).mpr (closedR hw rm av hx ((T.2 x y hxs hy).mpr hu))
end
section
variable {A : Ad} {U S S' : Store} {Q : SL.D → Store → Prop} {X : Ex → Store → Prop} {ws : List Nat} {c : Nat} {bars : List (List Nat)} {F : Nat → List Nat} {P r g L x y : List Nat} {Ts Ps ks ks' : List (List Nat)} {n m : Nat} {v v' : List Nat → Nat}
inductive Sto : List (List Nat) → List Nat → List Nat → Nat → Prop where
  | nil {r : List Nat} : Sto [] r r 0
  | hear {Ts : List (List Nat)} {t r y : List Nat} {m : Nat} (h : Sto Ts r y m) : Sto (Ts ++ [t]) r (wr y t) m
  | lose {Ts : List (List Nat)} {t r y : List Nat} {m : Nat} (h : Sto Ts r y m) : Sto (Ts ++ [t]) r y (m + 1)
structure Lea (Ts : List (List Nat)) (r : List Nat) (most : Int) (ks : List (List Nat)) (v : List Nat → Nat) : Prop where
  nd : ks.Nodup
  ok : ∀ x ∈ ks, ((v x : Nat) : Int) ≤ most ∧ Sto Ts r x (v x)
  le : ∀ x m, Sto Ts r x m → ((m : Nat) : Int) ≤ most → x ∈ ks ∧ v x ≤ m
structure Lew (Ts : List (List Nat)) (r : List Nat) (most : Int) (ks : List (List Nat)) (v : List Nat → Nat) : Prop where
  nd : ks.Nodup
  ok : ∀ x ∈ ks, ((v x : Nat) : Int) ≤ most ∧ Sto Ts r x (v x)
end
section
variable {A : Ad} {U S S' : Store} {Q : SL.D → Store → Prop} {X : Ex → Store → Prop} {ws : List Nat} {c : Nat} {bars : List (List Nat)} {F : Nat → List Nat} {P r g L x y : List Nat} {Ts Ps ks ks' : List (List Nat)} {n m mN : Nat} {v v' : List Nat → Nat}
end
section
variable {ws : List Nat} {c s : Nat} {bars : List (List Nat)} {r g t x y : List Nat} {Ts : List (List Nat)} {n m mN i : Nat}
end
section
variable {A : Ad} {S : Store} {Q : SL.D → Store → Prop} {X : Ex → Store → Prop} {ws : List Nat} {c i : Nat} {bars : List (List Nat)} {r g t : List Nat} {Ts Ps : List (List Nat)} {m : Nat}
abbrev xMany (A : Ad) (d : SL.D) : Ex := ⟨A.TooMany, ["most", "word"], gx_TooMany [d]⟩
end
section
variable {A : Ad} {U S S' : Store} {Q : SL.D → Store → Prop} {X : Ex → Store → Prop} {ws : List Nat} {c : Nat} {bars : List (List Nat)} {F : Nat → List Nat} {P r g L L' t x : List Nat} {n : Nat}
end
section
variable {A : Ad} {U S S' : Store} {Q : SL.D → Store → Prop} {X : Ex → Store → Prop} {ws : List Nat} {c : Nat} {bars : List (List Nat)} {F : Nat → List Nat} {P r g L L' t x : List Nat} {n : Nat}
theorem gb_inLs {d : SL.D} {a : List Nat} {xs : List (List Nat)} {PB : Bool → Prop} (h : asQ S d = some (xs.map SL.D.str)) (hd : ∀ l, d ≠ .str l) (k : PB (decide (a ∈ xs))) : GW (asB (inG S (.str a) d)) PB := ⟨_, by unfold inG; rw [inB_strs (xs := xs) h hd]; rfl, k⟩
end
section
variable {A : Ad} {U S S' : Store} {Q : SL.D → Store → Prop} {X : Ex → Store → Prop} {ws : List Nat} {c : Nat} {bars : List (List Nat)} {F : Nat → List Nat} {P r g L L' t x : List Nat} {n : Nat}
end
section
variable {A : Ad} {U S S' : Store} {Q : SL.D → Store → Prop} {X : Ex → Store → Prop} {ws : List Nat} {c d : Nat} {bars : List (List Nat)} {F : Nat → List Nat} {P r x y : List Nat} {n : Nat}
end
section
variable {A : Ad} {U S S' : Store} {Q : SL.D → Store → Prop} {X : Ex → Store → Prop} {ws : List Nat} {c d : Nat} {bars : List (List Nat)} {F : Nat → List Nat} {P r x y : List Nat} {n : Nat}
abbrev lamN : Str := "law.<locals>.<lambda>"
end
section
variable {ws : List Nat} {bars : List (List Nat)} {F : Nat → List Nat} {r L : List Nat} {Es : List (List Nat)} {c d w : Nat}
inductive Cel where
  | fix (b : Bool)
  | of (s : Nat)
def Cel.neg : Cel → Cel
  | .fix b => .fix (!b)
  | .of s => .of (swL s)
def Cel.inn (r : List Nat) : Cel → Bool
  | .fix b => b
  | .of s => decide (s ∈ r)
def Cel.ok (ws : List Nat) : Cel → Prop
  | .fix _ => True
  | .of s => Sd ws s
def celOf (w : Nat) : List Nat → Cel
  | [s] => .of s
  | e => .fix (decide (e = [61, w]))
def EntOk (ws : List Nat) (w : Nat) (e : List Nat) : Prop := (∃ s, e = [s] ∧ Sd ws s) ∨ e = [61, w] ∨ e = [61, swL w]
def atW (ws : List Nat) (Es : List (List Nat)) (w : Nat) : List Nat := Es.getD (ws.idxOf w) []
def cel (ws : List Nat) (Es : List (List Nat)) (w : Nat) : Cel := celOf w (atW ws Es w)
def hol (ws : List Nat) (Es : List (List Nat)) (c : Nat) : Cel := if c = loL c then cel ws Es (loL c) else (cel ws Es (loL c)).neg
def ldT (ws : List Nat) (Es : List (List Nat)) (r : List Nat) : List Nat := ws.map fun w => if (cel ws Es w).inn r = true then w else swL w
structure EsOk (ws : List Nat) (Es : List (List Nat)) : Prop where
  len : Es.length = ws.length
  ok : ∀ (i w : Nat) (e : List Nat), ws[i]? = some w → Es[i]? = some e → EntOk ws w e
theorem EsOk.at (h : EsOk ws Es) (hw : w ∈ ws) : ∃ i, ws[i]? = some w ∧ Es[i]? = some (atW ws Es w) ∧ ws.idxOf w = i ∧ EntOk ws w (atW ws Es w) := by
  have hi := List.idxOf_lt_length_iff.mpr hw
  have e1 : ws[ws.idxOf w]? = some w := by rw [List.getElem?_eq_getElem hi, List.getElem_idxOf]
  have hi2 : ws.idxOf w < Es.length := by rw [h.len]; exact hi
  have e2 : Es[ws.idxOf w]? = some (atW ws Es w) := by
    unfold atW
    rw [List.getD_eq_getElem?_getD, List.getElem?_eq_getElem hi2]
    rfl
  exact ⟨_, e1, e2, rfl, h.ok _ _ _ e1 e2⟩
theorem celOf_ok (h : EntOk ws w L) : (celOf w L).ok ws := by
  rcases h with ⟨s, rfl, hs⟩ | rfl | rfl
  · exact hs
  · exact trivial
  · exact trivial
theorem cel_ok (h : EsOk ws Es) (hw : w ∈ ws) : (cel ws Es w).ok ws := by
  obtain ⟨_, _, _, _, e⟩ := h.at hw
  exact celOf_ok e
theorem neg_ok (hw : Wls ws) {z : Cel} (h : z.ok ws) : z.neg.ok ws := by
  cases z with
  | fix b => exact trivial
  | of s => exact sd_sw hw h
theorem hol_ok (hw : Wls ws) (h : EsOk ws Es) (hc : Sd ws c) : (hol ws Es c).ok ws := by
  unfold hol
  split
  · exact cel_ok h hc
  · exact neg_ok hw (cel_ok h hc)
theorem inn_neg (hw : Wls ws) (hr : Rm ws r) {z : Cel} (h : z.ok ws) : z.neg.inn r = !z.inn r := by
  cases z with
  | fix b => rfl
  | of s =>
    show decide (swL s ∈ r) = !decide (s ∈ r)
    by_cases e : s ∈ r
    · rw [decide_eq_true e, decide_eq_false (rm_not hw hr e)]
      rfl
    · rw [decide_eq_false e, decide_eq_true ((rm_one hw hr h).resolve_left e)]
      rfl
theorem mem_ld (hw : Wls ws) (h : EsOk ws Es) (hr : Rm ws r) (hc : Sd ws c) : c ∈ ldT ws Es r ↔ (hol ws Es c).inn r = true := by
  obtain ⟨s, e, _⟩ := sd_small hw hc
  have key : c ∈ ldT ws Es r ↔ c = if (cel ws Es (loL c)).inn r = true then loL c else swL (loL c) := by
    unfold ldT
    rw [List.mem_map]
    constructor
    · rintro ⟨w, hm, ew⟩
      obtain ⟨sw, lw, _⟩ := sd_small hw hm
      have : w = loL c := by
        rw [← ew]
        split
        · exact lw.symm
        · rw [lo_sw hw sw]; exact lw.symm
      subst this
      exact ew.symm
    · intro ec
      exact ⟨loL c, hc, ec.symm⟩
  rw [key]
  unfold hol
  have cases2 := same_wall hw hc s e.symm
  by_cases h1 : c = loL c
  · rw [if_pos h1]
    cases hi : (cel ws Es (loL c)).inn r with
    | true => simp [← h1]
    | false =>
      have : c ≠ swL (loL c) := fun z => by
        rw [← h1] at z
        exact sw_ne hw hc z.symm
      simp [this]
  · rw [if_neg h1, inn_neg hw hr (cel_ok h hc)]
    have h2 : c = swL (loL c) := cases2.resolve_left h1
    cases hi : (cel ws Es (loL c)).inn r with
    | true => simp [h1]
    | false => simp [← h2]
end
section
variable {A : Ad} {U S S' : Store} {Q : SL.D → Store → Prop} {X : Ex → Store → Prop} {ws : List Nat} {c d : Nat} {bars : List (List Nat)} {F : Nat → List Nat} {P r g t x y : List Nat} {Es : List (List Nat)} {n : Nat} {to hd : SL.D}
end
section
variable {A : Ad} {U S S' : Store} {Q : SL.D → Store → Prop} {X : Ex → Store → Prop} {ws : List Nat} {c d : Nat} {bars : List (List Nat)} {F : Nat → List Nat} {P r g t x y : List Nat} {n : Nat}
end
section
variable {A : Ad} {U S S' : Store} {Q : SL.D → Store → Prop} {X : Ex → Store → Prop} {ws : List Nat} {c : Nat} {bars : List (List Nat)} {F : Nat → List Nat} {P r g L L' t x : List Nat} {n : Nat}
def itn (f : Nat → Nat) : Nat → Nat → Nat
  | 0, x => x
  | n + 1, x => f (itn f n x)
theorem itn_add (f : Nat → Nat) (a : Nat) : ∀ (b x : Nat), itn f (a + b) x = itn f a (itn f b x) := by
  induction a with
  | zero => intro b x; rw [Nat.zero_add]; rfl
  | succ a ih => intro b x; rw [show a + 1 + b = (a + b) + 1 by omega]; show f (itn f (a + b) x) = f (itn f a (itn f b x)); rw [ih]
theorem itn_mul {f : Nat → Nat} {a x : Nat} (h : itn f a x = x) : ∀ b, itn f (a * b) x = x
  | 0 => rfl
  | b + 1 => by rw [Nat.mul_succ, Nat.add_comm, itn_add, itn_mul h b, h]
theorem itn_in {f : Nat → Nat} {W : List Nat} (cl : ∀ x ∈ W, f x ∈ W) {x : Nat} (hx : x ∈ W) : ∀ n, itn f n x ∈ W
  | 0 => hx
  | n + 1 => cl _ (itn_in cl hx n)
theorem itn_canc {f : Nat → Nat} {W : List Nat} (cl : ∀ x ∈ W, f x ∈ W) (inj : ∀ x ∈ W, ∀ y ∈ W, f x = f y → x = y) {x y : Nat} (hx : x ∈ W) (hy : y ∈ W) : ∀ n, itn f n x = itn f n y → x = y
  | 0, h => h
  | n + 1, h => itn_canc cl inj hx hy n (inj _ (itn_in cl hx n) _ (itn_in cl hy n) h)
def orb (f : Nat → Nat) (x n : Nat) : List Nat := (List.range n).map fun i => itn f i x
theorem orb_succ (f : Nat → Nat) (x n : Nat) : orb f x (n + 1) = orb f x n ++ [itn f n x] := by simp [orb, List.range_succ]
theorem orb_len (f : Nat → Nat) (x n : Nat) : (orb f x n).length = n := by simp [orb]
theorem mem_orb {f : Nat → Nat} {x n y : Nat} : y ∈ orb f x n ↔ ∃ i, i < n ∧ itn f i x = y := by simp [orb]
theorem period {f : Nat → Nat} {W : List Nat} (cl : ∀ x ∈ W, f x ∈ W) (inj : ∀ x ∈ W, ∀ y ∈ W, f x = f y → x = y) {x : Nat} (hx : x ∈ W) : ∃ l, 1 ≤ l ∧ l ≤ W.length ∧ itn f l x = x ∧ (orb f x l).Nodup := by
  have key : ∀ m, (orb f x m).Nodup ∨ ∃ l, 1 ≤ l ∧ l < m ∧ itn f l x = x ∧ (orb f x l).Nodup := fun m => by
    induction m with
    | zero => exact .inl List.nodup_nil
    | succ m ih =>
      rcases ih with h | ⟨l, h1, h2, h3, h4⟩
      · by_cases hm : itn f m x ∈ orb f x m
        · obtain ⟨i, hi, e⟩ := mem_orb.mp hm
          have e2 : itn f (m - i) x = x := by
            have : itn f i (itn f (m - i) x) = itn f i x := by rw [← itn_add, show i + (m - i) = m by omega, e]
            exact itn_canc cl inj (itn_in cl hx _) hx i this
          by_cases h0 : i = 0
          · subst h0
            exact .inr ⟨m, by omega, by omega, by rw [Nat.sub_zero] at e2; exact e2, h⟩
          · exfalso
            have h5 : (orb f x m).Nodup := h
            have : itn f (m - i) x = itn f 0 x := e2
            have hp := List.pairwise_map.mp h5
            have := List.pairwise_iff_getElem.mp hp 0 (m - i) (by simp; omega) (by simp; omega) (by omega)
            simp at this
            exact this e2.symm
        · left
          rw [orb_succ]
          exact List.nodup_append.mpr ⟨h, by simp, fun a ha b hb e => hm (by rw [← List.mem_singleton.mp hb, ← e]; exact ha)⟩
      · exact .inr ⟨l, h1, by omega, h3, h4⟩
  rcases key (W.length + 1) with h | ⟨l, h1, h2, h3, h4⟩
  · have := nodup_le h (L := W) fun y hy => by
      obtain ⟨i, _, rfl⟩ := mem_orb.mp hy
      exact itn_in cl hx i
    rw [orb_len] at this
    omega
  · exact ⟨l, h1, by omega, h3, h4⟩
theorem cube3 : ∀ l : Nat, l * l * l ≤ 3 ^ l
  | 0 => by decide
  | 1 => by decide
  | 2 => by decide
  | 3 => by decide
  | l + 4 => by
    have ih := cube3 (l + 3)
    rw [Nat.pow_succ]
    have h1 : (l + 4) * (l + 4) * (l + 4) ≤ (l + 3) * (l + 3) * (l + 3) * 3 := by
      have e1 : (l + 4) * (l + 4) * (l + 4) = (l + 3) * (l + 3) * (l + 3) + 3 * ((l + 3) * (l + 3)) + 3 * (l + 3) + 1 := by
        have ge : ∀ a : Nat, (a + 1) * (a + 1) * (a + 1) = a * a * a + 3 * (a * a) + 3 * a + 1 := fun a => by
          simp only [Nat.add_mul, Nat.mul_add, Nat.one_mul, Nat.mul_one]; omega
        exact ge (l + 3)
      have hq : 3 * ((l + 3) * (l + 3)) ≤ (l + 3) * (l + 3) * (l + 3) := by
        rw [Nat.mul_comm]
        exact Nat.mul_le_mul_left _ (by omega)
      have hq2 : 9 ≤ (l + 3) * (l + 3) := Nat.mul_le_mul (show 3 ≤ l + 3 by omega) (show 3 ≤ l + 3 by omega)
      have hq3 : 3 * (l + 3) ≤ (l + 3) * (l + 3) := Nat.mul_le_mul_right _ (by omega)
      omega
    exact Nat.le_trans h1 (Nat.mul_le_mul_right 3 ih)
theorem order {f : Nat → Nat} : ∀ (m : Nat) {W : List Nat}, W.length ≤ m → W.Nodup → (∀ x ∈ W, f x ∈ W) → (∀ x ∈ W, ∀ y ∈ W, f x = f y → x = y) → ∃ N, 1 ≤ N ∧ N * N * N ≤ 3 ^ W.length ∧ ∀ x ∈ W, itn f N x = x
  | _, [], _, _, _, _ => ⟨1, by decide, by decide, by simp⟩
  | 0, _ :: _, h, _, _, _ => by simp at h
  | m + 1, x :: W, h, nd, cl, inj => by
    obtain ⟨l, h1, h2, h3, h4⟩ := period cl inj (List.mem_cons_self ..)
    generalize hV : x :: W = V at *
    have hxV : x ∈ V := by rw [← hV]; exact List.mem_cons_self ..
    have hsub : ∀ y ∈ orb f x l, y ∈ V := fun y hy => by
      obtain ⟨i, _, rfl⟩ := mem_orb.mp hy
      exact itn_in cl hxV i
    have hpre : ∀ y ∈ V, f y ∈ orb f x l → y ∈ orb f x l := fun y hy hfy => by
      obtain ⟨i, hi, e⟩ := mem_orb.mp hfy
      cases i with
      | zero =>
        have : f (itn f (l - 1) x) = f y := by
          rw [← e]
          show itn f (l - 1 + 1) x = x
          rw [show l - 1 + 1 = l by omega, h3]
        exact mem_orb.mpr ⟨l - 1, by omega, inj _ (itn_in cl hxV _) _ hy this⟩
      | succ i => exact mem_orb.mpr ⟨i, by omega, inj _ (itn_in cl hxV _) _ hy e⟩
    have hlen : (V.filter fun y => decide (y ∉ orb f x l)).length + l = V.length := by
      have hp : (V.filter fun y => decide (y ∈ orb f x l)).Perm (orb f x l) := nodup_perm (nd.filter _) h4 fun y => by
        rw [List.mem_filter]
        exact ⟨fun h => of_decide_eq_true h.2, fun h => ⟨hsub y h, decide_eq_true h⟩⟩
      have key : ∀ (p : Nat → Bool) (V : List Nat), V.length = (V.filter p).length + (V.filter fun y => !p y).length := fun p V => by
        induction V with
        | nil => rfl
        | cons v V ih =>
          rw [List.filter_cons, List.filter_cons]
          cases p v <;> simp [ih] <;> omega
      have e := key (fun y => decide (y ∈ orb f x l)) V
      rw [hp.length_eq, orb_len] at e
      have e2 : (V.filter fun y => !decide (y ∈ orb f x l)) = V.filter fun y => decide (y ∉ orb f x l) := List.filter_congr fun y _ => by simp
      rw [e2] at e
      omega
    obtain ⟨N, n1, n2, n3⟩ := order m (W := V.filter fun y => decide (y ∉ orb f x l)) (by omega) (nd.filter _) (fun y hy => by
      obtain ⟨a, b⟩ := List.mem_filter.mp hy
      have b := of_decide_eq_true b
      exact List.mem_filter.mpr ⟨cl y a, decide_eq_true fun z => b (hpre y a z)⟩) fun y hy z hz e => inj y (List.mem_filter.mp hy).1 z (List.mem_filter.mp hz).1 e
    refine ⟨l * N, Nat.mul_pos (by omega) (by omega), ?_, fun y hy => ?_⟩
    · have e : l * N * (l * N) * (l * N) = (l * l * l) * (N * N * N) := by
        simp only [Nat.mul_assoc, Nat.mul_left_comm, Nat.mul_comm]
      rw [e, ← hlen, Nat.add_comm, Nat.pow_add]
      exact Nat.mul_le_mul (cube3 l) n2
    · by_cases hyo : y ∈ orb f x l
      · obtain ⟨i, _, rfl⟩ := mem_orb.mp hyo
        refine itn_mul ?_ N
        rw [← itn_add, Nat.add_comm, itn_add, h3]
      · rw [Nat.mul_comm]
        exact itn_mul (n3 y (List.mem_filter.mpr ⟨hy, decide_eq_true hyo⟩)) l
end
section
variable {A : Ad} {U S S' : Store} {Q : SL.D → Store → Prop} {X : Ex → Store → Prop} {ws : List Nat} {c : Nat} {bars : List (List Nat)} {F : Nat → List Nat} {P r g L L' t x : List Nat} {n N : Nat}
end
section
variable {A : Ad} {U S S' : Store} {Q : SL.D → Store → Prop} {X : Ex → Store → Prop} {ws : List Nat} {c : Nat} {bars : List (List Nat)} {F : Nat → List Nat} {P r g L L' t t' x : List Nat} {n N : Nat}
open Classical in
noncomputable def gi (ws t : List Nat) (c : Nat) : Nat := if h : ∃ a, Sd ws a ∧ gs ws t a = c then h.choose else c
theorem gi_ok (hw : Wls ws) (ht : Trn ws t) (hc : Sd ws c) : Sd ws (gi ws t c) ∧ gs ws t (gi ws t c) = c := by
  have h := gs_sur hw ht hc
  unfold gi
  rw [dif_pos h]
  exact h.choose_spec
theorem gi_gs (hw : Wls ws) (ht : Trn ws t) (hc : Sd ws c) : gi ws t (gs ws t c) = c := by
  obtain ⟨h1, h2⟩ := gi_ok hw ht (gs_sd hw ht hc)
  exact gs_inj hw ht h1 hc h2
end
section
variable {A : Ad} {U S S' : Store} {Q : SL.D → Store → Prop} {X : Ex → Store → Prop} {ws : List Nat} {c d : Nat} {bars : List (List Nat)} {F : Nat → List Nat} {P r g t x y : List Nat} {Ts Ps : List (List Nat)} {n : Nat} {cs : SL.D}
end
end NC
namespace NC
open PySem PySem.Spec L2 SL Hal
local macro_rules
  | `(tactic| infer_instance) => `(tactic| first
    | ((with_reducible first
        | refine wf_seq ?_ | refine wf_asg ?_ | refine wf_ret ?_ | refine wf_retN ?_ | refine wf_expr ?_ | refine wf_nxM ?_ | refine wf_ctM ?_ | refine wf_bkM ?_ | refine wf_asgT ?_ | refine wf_raise ?_
        | refine wp_op2 ?_ | refine wp_op1 ?_ | refine wp_callG ?_ | refine wp_cons ?_ | refine wp_nil ?_ | refine wp_c ?_ | refine wp_cmpB ?_ | refine wp_trM ?_ | refine wp_notB ?_ | refine wp_andB ?_ | refine wp_orB ?_ | refine wp_andM ?_ | refine wp_orM ?_ | refine wp_notM ?_ | refine wp_ch ?_ | refine wp_sl ?_ | refine wp_soO ?_ | refine wp_noO ?_ | refine wp_fmt ?_ | refine wp_callKG ?_ | refine wp_yes ?_ | refine wp_mkx ?_ | refine wp_bM ?_ | refine wp_freeze ?_ | refine wf_par ?_ | refine wf_asgU ?_
        | refine gw_addI ?_ | refine gw_subI ?_ | refine gw_ltI ?_ | refine gw_leI ?_ | refine gw_gtI ?_ | refine gw_geI ?_ | refine gw_eqI ?_ | refine gw_neI ?_ | refine gw_eqS ?_ | refine gw_neS ?_ | refine gw_inC ?_ | refine gw_ninC ?_ | refine gw_ltS ?_ | refine gw_inL ?_ | refine gw_ninL ?_ | refine gw_sorted ?_ | refine gw_keys ?_ | refine gw_eqB ?_ | refine gw_neB ?_
        | refine gb_ltI ?_ | refine gb_leI ?_ | refine gb_gtI ?_ | refine gb_geI ?_ | refine gb_eqI ?_ | refine gb_neI ?_ | refine gb_eqS ?_ | refine gb_neS ?_ | refine gb_inC ?_ | refine gb_ninC ?_ | refine gb_inL ?_ | refine gb_ninL ?_ | refine gb_bl ?_ | refine gt_bl ?_ | refine gt_int ?_ | refine gt_lst ?_ | refine gt_tup ?_
        | refine gw_asI ?_ | refine gw_slT ?_ | refine gw_slL ?_ | refine gw_lenL ?_ | refine gw_lenT ?_ | refine gw_tuple ?_ | refine gw_tupleT ?_ | refine gw_tupleEnd ?_ | refine gw_lenEnd ?_ | refine gw_all ?_ | refine gw_any ?_ | refine gw_sum ?_ | refine gw_intI ?_ | refine gw_intB ?_ | refine gw_ix0L ?_ | refine gw_ix0T ?_ | refine gw_ix1L ?_ | refine gw_ix1T ?_ | refine gw_ix2L ?_ | refine gw_ix2T ?_))
    | ((with_reducible apply wp_v); (· rfl))
    | (with_reducible refine wp_appA ?_)
    | (with_reducible refine wp_mtS ?_)
    | (with_reducible first | refine gw_addS ?_ | refine gw_addL ?_ | refine gw_addT ?_ | refine gw_mulR ?_ | refine gw_mulL ?_ | refine gw_modI ?_ | refine gw_fdivI ?_ | refine gw_tup ?_ | refine gw_lst ?_ | refine gw_lenS ?_ | refine gw_slTo ?_ | refine gw_slFrom ?_ | refine gw_slFT ?_ | refine gw_slS ?_ | refine gw_pow ?_ | refine gw_swap ?_ | refine gw_isup ?_ | refine gw_upper1 ?_ | refine gw_lower1 ?_ | refine gw_upper ?_ | refine gw_lower ?_ | refine gw_str ?_ | refine gw_mulS ?_)
    | (refine ⟨rfl, ?_⟩))
  | `(tactic| sizeOf_list_dec) => `(tactic| (refine wp_def ?_; simp only [startD, List.map_cons, List.map_nil, List.length_cons, List.length_nil, Nat.reduceAdd, Nat.reduceSub, List.replicate_succ, List.replicate_zero, List.cons_append, List.nil_append, Nat.zero_add]))
section
variable {A : Ad} {U S S' : Store} {Q : SL.D → Store → Prop} {X : Ex → Store → Prop} {ws : List Nat} {c : Nat} {bars : List (List Nat)} {F : Nat → List Nat}
theorem toPys_strs : ∀ xs : List (List Nat), toPys (xs.map SL.D.str) = some (xs.map fun l => PyData.str ⟨l.toArray⟩)
  | [] => rfl
  | x :: xs => by simp [toPys, toPy, toPys_strs xs]
theorem canLay_strs : ∀ {xs : List (List Nat)}, (∀ l ∈ xs, ∀ c ∈ l, c < 128) → PyData.canLayAll0 (xs.map fun l => PyData.str ⟨l.toArray⟩) = true
  | [], _ => rfl
  | x :: xs, h => by
    have ih := canLay_strs (xs := xs) fun l hl => h l (List.mem_cons_of_mem _ hl)
    have hx := h x (by simp)
    rw [List.map_cons, PyData.canLayAll0, ih, Bool.and_true]
    show (x.toArray).all (· < 0x110000) = true
    rw [List.all_toArray]
    exact List.all_eq_true.mpr fun c hc => decide_eq_true (by have := hx c hc; omega)
end
end NC
namespace NC
open PySem PySem.Spec L2 SL Hal
local macro_rules
  | `(tactic| infer_instance) => `(tactic| first
    | ((with_reducible first
        | refine wf_seq ?_ | refine wf_if ?_ | refine wp_ifM ?_ | refine wp_appN ?_ | refine wf_asg ?_ | refine wf_ret ?_ | refine wf_retN ?_ | refine wf_expr ?_ | refine wf_nxM ?_ | refine wf_ctM ?_ | refine wf_bkM ?_ | refine wf_asgT ?_ | refine wf_raise ?_
        | refine wp_op2 ?_ | refine wp_op1 ?_ | refine wp_callG ?_ | refine wp_cons ?_ | refine wp_nil ?_ | refine wp_c ?_ | refine wp_cmpB ?_ | refine wp_trM ?_ | refine wp_notB ?_ | refine wp_andB ?_ | refine wp_orB ?_ | refine wp_andM ?_ | refine wp_orM ?_ | refine wp_notM ?_ | refine wp_ch ?_ | refine wp_sl ?_ | refine wp_soO ?_ | refine wp_noO ?_ | refine wp_fmt ?_ | refine wp_callKG ?_ | refine wp_yes ?_ | refine wp_mkx ?_ | refine wp_bM ?_ | refine wp_freeze ?_ | refine wf_par ?_ | refine wf_asgU ?_
        | refine gw_addI ?_ | refine gw_subI ?_ | refine gw_ltI ?_ | refine gw_leI ?_ | refine gw_gtI ?_ | refine gw_geI ?_ | refine gw_eqI ?_ | refine gw_neI ?_ | refine gw_eqS ?_ | refine gw_neS ?_ | refine gw_inC ?_ | refine gw_ninC ?_ | refine gw_ltS ?_ | refine gw_inL ?_ | refine gw_ninL ?_ | refine gw_sorted ?_ | refine gw_sortedT ?_ | refine gw_keys ?_ | refine gw_eqB ?_ | refine gw_neB ?_
        | refine gb_ltI ?_ | refine gb_leI ?_ | refine gb_gtI ?_ | refine gb_geI ?_ | refine gb_eqI ?_ | refine gb_neI ?_ | refine gb_eqS ?_ | refine gb_neS ?_ | refine gb_inC ?_ | refine gb_ninC ?_ | refine gb_inL ?_ | refine gb_ninL ?_ | refine gb_bl ?_ | refine gt_bl ?_ | refine gt_int ?_ | refine gt_lst ?_ | refine gt_tup ?_
        | refine gw_asI ?_ | refine gw_slT ?_ | refine gw_slL ?_ | refine gw_lenL ?_ | refine gw_lenT ?_ | refine gw_tuple ?_ | refine gw_tupleT ?_ | refine gw_tupleEnd ?_ | refine gw_lenEnd ?_ | refine gw_all ?_ | refine gw_any ?_ | refine gw_sum ?_ | refine gw_intI ?_ | refine gw_intB ?_ | refine gw_ix0L ?_ | refine gw_ix0T ?_ | refine gw_ix1L ?_ | refine gw_ix1T ?_ | refine gw_ix2L ?_ | refine gw_ix2T ?_))
    | ((with_reducible apply wp_v); (· rfl))
    | (with_reducible refine wp_appA ?_)
    | (with_reducible refine wp_mtS ?_)
    | (refine wp_fO (by rfl) (by rfl) ?_)
    | (refine wp_mO (by rfl) (by rfl) ?_)
    | (with_reducible first | refine gw_addS ?_ | refine gw_addL ?_ | refine gw_addT ?_ | refine gw_mulR ?_ | refine gw_mulL ?_ | refine gw_modI ?_ | refine gw_fdivI ?_ | refine gw_tup ?_ | refine gw_lst ?_ | refine gw_lenS ?_ | refine gw_slTo ?_ | refine gw_slFrom ?_ | refine gw_slFT ?_ | refine gw_slS ?_ | refine gw_pow ?_ | refine gw_swap ?_ | refine gw_isup ?_ | refine gw_upper1 ?_ | refine gw_lower1 ?_ | refine gw_upper ?_ | refine gw_lower ?_ | refine gw_str ?_ | refine gw_mulS ?_)
    | (refine ⟨rfl, ?_⟩))
  | `(tactic| sizeOf_list_dec) => `(tactic| (refine wp_def ?_; simp only [startD, List.map_cons, List.map_nil, List.length_cons, List.length_nil, Nat.reduceAdd, Nat.reduceSub, List.replicate_succ, List.replicate_zero, List.cons_append, List.nil_append, Nat.zero_add]))
section
variable {A : Ad} {U S S' : Store} {Q : SL.D → Store → Prop} {X : Ex → Store → Prop} {ws : List Nat} {c d : Nat} {bars : List (List Nat)} {F : Nat → List Nat} {P r g t x y e : List Nat} {Es : List (List Nat)} {n : Nat} {to hd dE : SL.D}
end
section
variable {A : Ad} {U S S' : Store} {Q : SL.D → Store → Prop} {X : Ex → Store → Prop} {ws : List Nat} {c d : Nat} {bars : List (List Nat)} {F : Nat → List Nat} {P r g t x y e : List Nat} {Es L : List (List Nat)} {n : Nat} {to hd dE : SL.D}
end
section
variable {A : Ad} {U S S' : Store} {Q : SL.D → Store → Prop} {X : Ex → Store → Prop} {ws : List Nat} {c d : Nat} {bars : List (List Nat)} {F : Nat → List Nat} {P r g t x y e : List Nat} {Es L : List (List Nat)} {n : Nat} {to hd dE : SL.D}
end
theorem rm_canon (hw : Wls ws) (hr : Rm ws r) : (ws.map fun w => if w ∈ r then w else swL w) = r := by
  have e : (ws.map fun w => if w ∈ r then w else swL w) = (r.map loL).map fun w => if w ∈ r then w else swL w := by rw [show r.map loL = ws from hr]
  rw [e, List.map_map]
  refine (List.map_congr_left (g := id) fun c hc => ?_).trans (List.map_id _)
  have hs := rm_sd hr hc
  obtain ⟨sd', lo', _⟩ := sd_small hw hs
  show (if loL c ∈ r then loL c else swL (loL c)) = c
  rcases same_wall hw hs sd' lo'.symm with h | h
  · rw [← h, if_pos hc]
  · rw [if_neg fun z => ?_]
    · exact h.symm
    · have := rm_not hw hr z
      rw [← h] at this
      exact this hc
theorem atW_map {e : Nat → List Nat} {w : Nat} (hm : w ∈ ws) : atW ws (ws.map e) w = e w := by
  unfold atW
  have hi := List.idxOf_lt_length_iff.mpr hm
  rw [List.getD_eq_getElem?_getD, List.getElem?_map, List.getElem?_eq_getElem hi, List.getElem_idxOf]
  rfl
theorem esOk_map {e : Nat → List Nat} (h : ∀ w ∈ ws, EntOk ws w (e w)) : EsOk ws (ws.map e) := ⟨List.length_map _, fun i w x h1 h2 => by
  rw [List.getElem?_map, h1] at h2
  cases h2
  exact h w (List.mem_of_getElem? h1)⟩
theorem ldT_eq (hw : Wls ws) {q : List Nat} (hq : Rm ws q) (h : ∀ w ∈ ws, (cel ws Es w).inn r = decide (w ∈ q)) : ldT ws Es r = q := by
  refine Eq.trans ?_ (rm_canon hw hq)
  unfold ldT
  refine List.map_congr_left fun w hm => ?_
  rw [h w hm]
  by_cases z : w ∈ q <;> simp [z]
abbrev stillE (ws : List Nat) : List (List Nat) := ws.map fun w => [w]
noncomputable abbrev backE (ws t : List Nat) : List (List Nat) := ws.map fun w => [gi ws t w]
abbrev callE (ws C : List Nat) : List (List Nat) := ws.map fun w => if w ∈ C then [61, w] else if swL w ∈ C then [61, swL w] else [w]
theorem still_es (hw : Wls ws) : EsOk ws (stillE ws) := esOk_map fun w hm => .inl ⟨w, rfl, (sd_small hw hm).1⟩
theorem back_es (hw : Wls ws) (ht : Trn ws t) : EsOk ws (backE ws t) := esOk_map fun w hm => .inl ⟨_, rfl, (gi_ok hw ht (sd_small hw hm).1).1⟩
theorem call_es (hw : Wls ws) : EsOk ws (callE ws L) := esOk_map fun w hm => by
  split
  · exact .inr (.inl rfl)
  · split
    · exact .inr (.inr rfl)
    · exact .inl ⟨w, rfl, (sd_small hw hm).1⟩
theorem still_ld (hw : Wls ws) (hr : Rm ws r) : ldT ws (stillE ws) r = r := ldT_eq hw hr fun w hm => by
  unfold cel
  rw [atW_map hm]
  rfl
theorem back_ld (hw : Wls ws) (ht : Trn ws t) (hr : Rm ws r) : ldT ws (backE ws t) r = im ws t r := ldT_eq hw (im_rm hw ht hr) fun w hm => by
  have sd := (sd_small hw hm).1
  obtain ⟨h1, h2⟩ := gi_ok hw ht sd
  unfold cel
  rw [atW_map hm, Bool.eq_iff_iff, decide_eq_true_iff, im_mem hw ht fun c hc => rm_sd hr hc]
  show decide (gi ws t w ∈ r) = true ↔ _
  rw [decide_eq_true_iff]
  refine ⟨fun h => ⟨_, h, h2⟩, fun ⟨x, hx, e⟩ => ?_⟩
  rw [← e, gi_gs hw ht (rm_sd hr hx)]
  exact hx
theorem call_ld (hw : Wls ws) (hr : Rm ws r) (c : Cl ws bars L) (hL : ∀ s ∈ L, Sd ws s) : ldT ws (callE ws L) r = wr r L := ldT_eq hw (wr_rm hw hr) fun w hm => by
  have sd := (sd_small hw hm).1
  have hsw : swL w ≠ w := sw_ne hw sd
  unfold cel
  rw [atW_map hm]
  by_cases h1 : w ∈ L
  · rw [if_pos h1, decide_eq_true (wr_in c hw hr h1)]
    exact decide_eq_true rfl
  · rw [if_neg h1]
    by_cases h2 : swL w ∈ L
    · rw [if_pos h2]
      have h3 := rm_not hw (wr_rm (S := L) hw hr) (wr_in c hw hr h2)
      rw [sw_sw hw sd] at h3
      rw [decide_eq_false h3]
      refine decide_eq_false fun z => ?_
      injection z with _ z
      injection z with z
      exact hsw z
    · rw [if_neg h2]
      show decide (w ∈ r) = decide (w ∈ wr r L)
      rw [Bool.eq_iff_iff, decide_eq_true_iff, decide_eq_true_iff]
      refine ⟨fun h => wr_keep h h2, fun h => ?_⟩
      rcases wr_mem h hw hr with z | z
      · exact absurd z h1
      · exact z.1
section
variable {A : Ad} {S S' S1 S2 : Store} {Q : SL.D → Store → Prop} {X : Ex → Store → Prop} {B : Bok} {ν : List Nat → Option Nat} {bd : SL.D} {c b n : Nat} {kn op : List (List Nat)}
abbrev cuN : List Str := ["book", "known", "open_names"]
abbrev cuF (bd : SL.D) (c : Nat) : List SL.D := [bd, .loc (c + 1), .loc (c + 2)]
abbrev cuC (A : Ad) (bd : SL.D) (c : Nat) : Cell := .obj A.Counter cuN (cuF bd c)
abbrev gC (ν : List Nat → Option Nat) : List Nat → SL.D := fun x => .int (((ν x).getD 0 : Nat) : Int)
abbrev xCap (A : Ad) : Ex := xMany A (.int 1000000000000000000000000000000000000000000000000000000000000)
structure CtI (A : Ad) (B : Bok) (ν : List Nat → Option Nat) (bd : SL.D) (c : Nat) (kn op : List (List Nat)) (S : Store) : Prop where
  ob : S[c]? = some (cuC A bd c)
  kp : Kp c (gC ν) kn op S
  sub : ∀ x ∈ kn, x ∈ B.bn ∧ ν x ≠ none
  on : op.Nodup ∧ ∀ y ∈ op, y ∈ B.bn
  bk : ∀ S' : Store, (∀ i, i < c → S'[i]? = S[i]?) → BkD B S' bd
theorem CtI.fr (h : CtI A B ν bd c kn op S) {kn' op' : List (List Nat)} (f : Fr c S S') (k : Kp c (gC ν) kn' op' S') (s : ∀ x ∈ kn', x ∈ B.bn ∧ ν x ≠ none) (o : op'.Nodup ∧ ∀ y ∈ op', y ∈ B.bn) : CtI A B ν bd c kn' op' S' :=
  ⟨by rw [f.2 c (by omega) (by omega)]; exact h.ob, k, s, o, fun S2 f2 => h.bk S2 fun i hi => (f2 i hi).trans (f.2 i (by omega) (by omega))⟩
abbrev CtQ (A : Ad) (B : Bok) (ν : List Nat → Option Nat) (bd : SL.D) (c : Nat) (b : Nat) (kn op : List (List Nat)) (S : Store) (V : Option Nat) : SL.D → Store → Prop := fun d S' => ∃ v kn', V = some v ∧ d = .int ((v : Nat) : Int) ∧ CtI A B ν bd c kn' op S' ∧ Fr c S S' ∧ ∀ y ∈ kn', y ∈ kn ∨ B.rk y < b
abbrev CtX (A : Ad) (c : Nat) (S : Store) (V : Option Nat) : Ex → Store → Prop := fun x S' => V = none ∧ x = xCap A ∧ Fr c S S'
def CtRow (A : Ad) (B : Bok) (ν : List Nat → Option Nat) (φ : Fn) (n : Nat) : Prop := ∀ (t : Rw) (bd : SL.D) (c b : Nat) (kn op : List (List Nat)) (S : Store), t.ok → t.wt ≤ 400000 → (∀ x ∈ nmR t, x ∈ B.bn ∧ B.rk x < b) → (∀ y ∈ op, b ≤ B.rk y) → hgtR B.H t ≤ n → CtI A B ν bd c kn op S →
  wp (φ [.loc c, tD t] S) (CtQ A B ν bd c b kn op S (cntR ν t 0)) (CtX A c S (cntR ν t 0))
def CtStep (A : Ad) (B : Bok) (ν : List Nat → Option Nat) (φ : Fn) (n : Nat) : Prop := ∀ (t : Rw) (bd : SL.D) (c b : Nat) (kn op : List (List Nat)) (S : Store), consR t = true → t.ok → t.wt ≤ 400000 → (∀ x ∈ nmR t, x ∈ B.bn ∧ B.rk x < b) → (∀ y ∈ op, b ≤ B.rk y) → hgtR B.H t ≤ n + 1 → CtI A B ν bd c kn op S →
  wp (φ [.loc c, hdD' t] S) (CtQ A B ν bd c b kn op S (hdV ν t)) (CtX A c S (hdV ν t))
def CtName (A : Ad) (B : Bok) (ν : List Nat → Option Nat) (φ : Fn) (n : Nat) : Prop := ∀ (x : List Nat) (bd : SL.D) (c b : Nat) (kn op : List (List Nat)) (S : Store), x ∈ B.bn → B.rk x < b → (∀ y ∈ op, b ≤ B.rk y) → B.H x + 1 ≤ n → CtI A B ν bd c kn op S →
  wp (φ [.loc c, .str x] S) (CtQ A B ν bd c b kn op S (ν x)) (CtX A c S (ν x))
theorem asO_loc {C : Addr} {ns : List Str} {ds : List SL.D} (e : S[c]? = some (.obj C ns ds)) : asO S (.loc c) = some (C, ns, ds) := by simp [asO, e]
theorem ct_name {φ : Fn} (hB : B.Ok) (hν : ∀ x ∈ B.bn, ν x = cntR ν (B.tr x) 0) (h : CtRow A B ν φ n) : CtName A B ν (defM 3 (m_Counter_of_name A (φrow_of A) φ)) (n + 1) := by
  intro x bd c b kn op S hx hr hop hn I
  have kl : kn.length ≤ 1000 := Nat.le_trans (nd_lenG I.kp.nd fun y hy => (I.sub y hy).1) hB.len
  sizeOf_list_dec
  unfold m_Counter_of_name
  have fk : ∀ {S : Store}, S[c]? = some (cuC A bd c) → asO S (.loc c) = some (A.Counter, cuN, cuF bd c) := fun e => asO_loc e
  refine wf_seq (wf_if (wp_cmpB (wp_v rfl (wp_fld (ns := []) (ds := []) (wp_v rfl ⟨cuN, cuF bd c, _, fk I.ob, rfl, gb_inDk (asDct_loc I.kp.dk) ⟨fun z => ?_, fun z => wf_nxM ?_⟩⟩)))))
  · have z := of_decide_eq_true z
    have hv := (I.sub x z).2
    refine wf_ret (wp_op2 (wp_fld (ns := []) (ds := []) (wp_v rfl ⟨cuN, cuF bd c, _, fk I.ob, rfl, wp_v rfl (gw_ixDk (asDct_loc I.kp.dk) z ?_)⟩)))
    refine wp_fin rfl rfl ?_
    cases e : ν x with
    | none => exact absurd e hv
    | some v => exact ⟨v, kn, rfl, by simp [gC, e], I, Fr.refl, fun y hy => .inl hy⟩
  have zk := of_decide_eq_false z
  have hbk := I.bk S fun _ _ => rfl
  -- the row of the book
  refine wf_seq (wf_asg (wp_appA (wp_cons (wp_fld (ns := []) (ds := []) (wp_v rfl ⟨cuN, cuF bd c, _, fk I.ob, rfl, wp_cons (wp_v rfl (wp_nil ⟨rfl, ?_⟩))⟩)))))
  have hrow : ∀ {Q : SL.D → Store → Prop} {X : Ex → Store → Prop}, Q (tD (B.tr x)) S → wp (φrow_of A [bd, .str x] S) Q X := fun {Q X} k => by
    sizeOf_list_dec
    unfold m_row_of
    refine wf_seq (wf_if (wp_cmpB (wp_v rfl (wp_v rfl (gb_ninDk hbk ⟨fun z => ?_, fun z => wf_nxM ?_⟩)))))
    · rw [decide_eq_true hx] at z
      cases z
    · refine wf_ret (wp_op2 (wp_v rfl (wp_v rfl (gw_ixDk hbk hx ?_))))
      exact wp_fin (td_ok _) rfl k
  refine hrow ?_
  refine wf_seq (wf_if (wp_cmpB (wp_v rfl (wp_fld (ns := []) (ds := []) (wp_v rfl ⟨cuN, cuF bd c, _, fk I.ob, rfl, gb_inLs (xs := op) (by simp [asQ, asL, I.kp.lo]) (fun _ e => by cases e) ⟨fun z => ?_, fun z => wf_nxM ?_⟩⟩)))))
  · have z := of_decide_eq_true z
    have := hop x z
    omega
  have z2 := of_decide_eq_false z
  refine wf_seq (wf_expr (wp_lm (wp_fld (ns := []) (ds := []) (wp_v rfl ⟨cuN, cuF bd c, _, fk I.ob, rfl, by simp [locL, I.kp.lo], wp_cons (wp_v rfl (wp_nil ⟨c + 2, op.map SL.D.str, .non, (op ++ [x]).map SL.D.str, by simp [locL, I.kp.lo], ?_, ?_⟩))⟩))))
  · have hol : op.length < 1000000 := by
      have := nd_lenG I.on.1 I.on.2
      have := hB.len
      omega
    rw [append_ok (by rw [List.length_map]; exact hol), List.map_append]
    rfl
  have I2 : CtI A B ν bd c kn (op ++ [x]) (S.set (c + 2) (.lst ((op ++ [x]).map SL.D.str))) := I.fr Fr.set2 (I.kp.opn) I.sub ⟨by
    rw [List.nodup_append]
    exact ⟨I.on.1, by simp, fun a ha b' hb e => z2 (by rw [List.mem_singleton.mp hb] at e; rw [← e]; exact ha)⟩, fun y hy => by
    rcases List.mem_append.mp hy with hy | hy
    · exact I.on.2 y hy
    · rw [List.mem_singleton.mp hy]; exact hx⟩
  have f2 : Fr c S (S.set (c + 2) (.lst ((op ++ [x]).map SL.D.str))) := Fr.set2
  generalize S.set (c + 2) (.lst ((op ++ [x]).map SL.D.str)) = S2 at I2 f2 ⊢
  have hlow := hB.low x hx
  have hgo := h (B.tr x) bd c (B.rk x) kn (op ++ [x]) S2 (hB.ok x hx) (hB.wt x hx) hlow (fun y hy => by
    rcases List.mem_append.mp hy with hy | hy
    · have := hop y hy
      omega
    · rw [List.mem_singleton.mp hy]
      exact Nat.le_refl _) (by have := hB.hgt x hx; omega) I2
  rw [← hν x hx] at hgo
  refine wf_seq (wf_setD (wp_meth (wp_v rfl ⟨cuN, cuF bd c, fk I2.ob, rfl, wp_cons (wp_v rfl (wp_nil ⟨rfl, ?_⟩))⟩)))
  refine wp_mono hgo (fun d S3 hd => ?_) (fun xx S3 hx3 => ?_)
  · obtain ⟨v, kn3, ev, rfl, I3, f3, n3⟩ := hd
    have kl3 : kn3.length ≤ 1000 := Nat.le_trans (nd_lenG I3.kp.nd fun y hy => (I3.sub y hy).1) hB.len
    have go : ∀ {S4 : Store} {kn4 : List (List Nat)}, CtI A B ν bd c kn4 (op ++ [x]) S4 → x ∈ kn4 → Fr c S S4 → (∀ y ∈ kn4, y ∈ kn ∨ B.rk y < b) → wf (seqM (exprM (lmM popG (fldM A.Counter "open_names" (vM 0)) nilM)) (retM (op2M ixG (fldM A.Counter "known" (vM 0)) (vM 1))) [some (.loc c), some (.str x), some (tD (B.tr x))] S4) (fun _ S' => wp (finV S .non S') (CtQ A B ν bd c b kn op S (ν x)) (CtX A c S (ν x))) (fun d S' => wp (finV S d S') (CtQ A B ν bd c b kn op S (ν x)) (CtX A c S (ν x))) (fun x' _ S' => wp (finX S x' S') (CtQ A B ν bd c b kn op S (ν x)) (CtX A c S (ν x))) noB noB := fun {S4 kn4} I4 hx4 f4 n4 => by
      refine wf_seq (wf_expr (wp_lm (wp_fld (ns := []) (ds := []) (wp_v rfl ⟨cuN, cuF bd c, _, fk I4.ob, rfl, by simp [locL, I4.kp.lo], wp_nil ⟨c + 2, (op ++ [x]).map SL.D.str, .str x, op.map SL.D.str, by simp [locL, I4.kp.lo], ?_, ?_⟩⟩))))
      · unfold popG
        simp
      have I5 : CtI A B ν bd c kn4 op (S4.set (c + 2) (.lst (op.map SL.D.str))) := I4.fr Fr.set2 I4.kp.opn I4.sub I.on
      have f5 : Fr c S (S4.set (c + 2) (.lst (op.map SL.D.str))) := f4.trans Fr.set2
      generalize S4.set (c + 2) (.lst (op.map SL.D.str)) = S5 at I5 f5 ⊢
      refine wf_ret (wp_op2 (wp_fld (ns := []) (ds := []) (wp_v rfl ⟨cuN, cuF bd c, _, fk I5.ob, rfl, wp_v rfl (gw_ixDk (asDct_loc I5.kp.dk) hx4 ?_)⟩)))
      refine wp_fin rfl f5.1 ?_
      exact ⟨v, kn4, ev, by simp [gC, ev], I5, f5, n4⟩
    refine wp_fld (ns := []) (ds := []) (wp_v rfl ⟨cuN, cuF bd c, _, fk I3.ob, rfl, wp_v rfl ⟨c + 1, kn3.map kT, kn3.map (gC ν), kT x, rfl, I3.kp.dk, rfl, by rw [List.length_map]; omega, ?_⟩⟩)
    have eg : (SL.D.int ((v : Nat) : Int)) = gC ν x := by simp [gC, ev]
    rw [eg]
    have hk : x ∉ kn3 := fun hk => by
      rcases n3 x hk with h1 | h1
      · exact zk h1
      · omega
    refine go (kn4 := kn3 ++ [x]) (I3.fr Fr.set1 (I3.kp.put hk) (fun y hy => ?_) I3.on) (by simp) ((f2.trans f3).trans Fr.set1) fun y hy => ?_
    · rcases List.mem_append.mp hy with hy | hy
      · exact I3.sub y hy
      · rw [List.mem_singleton.mp hy]
        exact ⟨hx, by rw [ev]; simp⟩
    · rcases List.mem_append.mp hy with hy | hy
      · rcases n3 y hy with h1 | h1
        · exact .inl h1
        · exact .inr (by omega)
      · rw [List.mem_singleton.mp hy]
        exact .inr hr
  · obtain ⟨ev, rfl, f3⟩ := hx3
    exact wp_finXE (f2.trans f3).1 ⟨ev, rfl, f2.trans f3⟩
theorem mul_cap {m v : Nat} (h1 : m ≤ 10 ^ 30) (h2 : v ≤ capN) {PP : SL.D → Prop} (k : PP (.int ((m * v : Nat) : Int))) : GW (mulG S (.int (m : Int)) (.int (v : Int))) PP := by
  refine ⟨_, ?_, k⟩
  show (if mulOk (m : Int) (v : Int) then some (SL.D.int ((m : Int) * (v : Int))) else none) = _
  have lg : ∀ {q j : Nat}, 0 < j → q < 2 ^ j → q.log2 < j := fun {q j} hj h => by
    by_cases e : q = 0
    · rw [e]; simpa using hj
    · exact (Nat.log2_lt e).mpr h
  have l1 : m.log2 < 100 := lg (by decide) (Nat.lt_of_le_of_lt h1 (by decide))
  have l2 : v.log2 < 200 := lg (by decide) (Nat.lt_of_le_of_lt h2 (by decide))
  rw [if_pos (.inr (by rw [Int.natAbs_natCast, Int.natAbs_natCast]; omega)), Int.natCast_mul]
theorem ct_step {φn φr : Fn} (h1 : CtName A B ν φn n) (h2 : CtRow A B ν φr n) : CtStep A B ν (defM 2 (m_Counter_of_step A φn φr)) (n + 1) := by
  intro t bd c b kn op S hc hok hsz hnm hop hn I
  have fk : ∀ {S : Store}, S[c]? = some (cuC A bd c) → asO S (.loc c) = some (A.Counter, cuN, cuF bd c) := fun e => asO_loc e
  have one : ∀ {w x : List Nat}, w ≠ w_row → w ≠ w_times → wp (defM 2 (m_Counter_of_step A φn φr) [.loc c, .tup [.str w, .str x]] S) (CtQ A B ν bd c b kn op S (some 1)) (CtX A c S (some 1)) := fun {w x} n1 n2 => by
    sizeOf_list_dec
    unfold m_Counter_of_step
    refine wf_seq (wf_if (wp_cmpB ?_))
    repeat infer_instance
    refine ⟨fun z => absurd (of_decide_eq_true z) n1, fun _ => wf_nxM ?_⟩
    refine wf_ret (wp_ifM (wp_cmpB ?_))
    repeat infer_instance
    refine ⟨fun z => absurd (of_decide_eq_true z) n2, fun _ => wp_c ?_⟩
    exact wp_fin rfl rfl ⟨1, kn, rfl, rfl, I, Fr.refl, fun y hy => .inl hy⟩
  cases t with
  | nil => cases hc
  | call x r => exact one (by decide) (by decide)
  | turn x r => exact one (by decide) (by decide)
  | row x r =>
    show wp (defM 2 (m_Counter_of_step A φn φr) [.loc c, .tup [.str w_row, .str x]] S) (CtQ A B ν bd c b kn op S (ν x)) (CtX A c S (ν x))
    obtain ⟨hx, hr⟩ := hnm x (List.mem_cons_self ..)
    have hg := h1 x bd c b kn op S hx hr hop (by simp only [hgtR] at hn; omega) I
    sizeOf_list_dec
    unfold m_Counter_of_step
    refine wf_seq (wf_if (wp_cmpB ?_))
    repeat infer_instance
    refine ⟨fun _ => ?_, fun z => absurd rfl (of_decide_eq_false z)⟩
    refine wf_ret (wp_meth (wp_v rfl ⟨cuN, cuF bd c, fk I.ob, rfl, wp_cons (wp_op2 (wp_v rfl (wp_c (gw_ix1T (wp_nil ⟨rfl, ?_⟩)))))⟩))
    refine wp_mono hg (fun d S3 hd => ?_) fun xx S3 hx3 => ?_
    · obtain ⟨v, kn3, ev, rfl, I3, f3, n3⟩ := hd
      exact wp_fin rfl f3.1 ⟨v, kn3, ev, rfl, I3, f3, n3⟩
    · exact wp_finXE hx3.2.2.1 hx3
  | times m t' r =>
    have hm := hok.1
    have hg := h2 t' bd c b kn op S hok.2.1 (by simp only [Rw.wt] at hsz; omega) (fun x hx => hnm x (List.mem_append_left _ hx)) hop (by simp only [hgtR] at hn; omega) I
    show wp (defM 2 (m_Counter_of_step A φn φr) [.loc c, .tup [.str w_times, .int (m : Int), tD t']] S) (CtQ A B ν bd c b kn op S (match cntR ν t' 0 with | none => none | some v => some (m * v))) (CtX A c S (match cntR ν t' 0 with | none => none | some v => some (m * v)))
    have hv : ∀ v, cntR ν t' 0 = some v → v ≤ capN := fun v e => cnt_cap t' (Nat.zero_le _) e
    generalize cntR ν t' 0 = V at hg hv ⊢
    obtain ⟨mi, hmi⟩ : ∃ mi : Int, mi = (m : Int) := ⟨_, rfl⟩
    rw [← hmi]
    sizeOf_list_dec
    unfold m_Counter_of_step
    refine wf_seq (wf_if (wp_cmpB ?_))
    repeat infer_instance
    refine ⟨fun z => ?_, fun _ => wf_nxM ?_⟩
    · have := of_decide_eq_true z
      cases this
    refine wf_ret (wp_ifM (wp_cmpB ?_))
    repeat infer_instance
    refine ⟨fun _ => ?_, fun z => absurd rfl (of_decide_eq_false z)⟩
    refine wp_op2 (wp_op2 (wp_v rfl (wp_c (gw_ix1T ?_))))
    refine wp_meth (wp_v rfl ⟨cuN, cuF bd c, fk I.ob, rfl, wp_cons (wp_op2 (wp_v rfl (wp_c (gw_ix2T (wp_nil ⟨rfl, ?_⟩)))))⟩)
    refine wp_mono hg (fun d S3 hd => ?_) fun xx S3 hx3 => ?_
    · obtain ⟨v, kn3, ev, rfl, I3, f3, n3⟩ := hd
      subst ev
      subst hmi
      refine mul_cap hm (hv v rfl) ?_
      exact wp_fin rfl f3.1 ⟨m * v, kn3, rfl, rfl, I3, f3, n3⟩
    · obtain ⟨rfl, h⟩ := hx3
      exact wp_finXE h.2.1 ⟨rfl, h⟩
theorem cnt_hd {t : Rw} (h : consR t = true) (a : Nat) (e : hdV ν t = none) : cntR ν t a = none := by rw [cnt_cons h, e]
theorem consR_of {t : Rw} {d : SL.D} {l : List SL.D} (h : t.its = d :: l) : consR t = true ∧ d = hdD' t ∧ (tlR t).its = l := by
  cases t with
  | nil => cases h
  | call x r => cases h; exact ⟨rfl, rfl, rfl⟩
  | turn x r => cases h; exact ⟨rfl, rfl, rfl⟩
  | row x r => cases h; exact ⟨rfl, rfl, rfl⟩
  | times n t r => cases h; exact ⟨rfl, rfl, rfl⟩
theorem ct_row {φs : Fn} (h : CtStep A B ν φs n) : CtRow A B ν (defM 4 (m_Counter_of_row A φs)) (n + 1) := by
  intro t bd c b kn op S hok hwt hnm hop hn I
  have fk : ∀ {S : Store}, S[c]? = some (cuC A bd c) → asO S (.loc c) = some (A.Counter, cuN, cuF bd c) := fun e => asO_loc e
  have hil := its_len t
  generalize htd : tD t = td
  have hix : ∀ {S : Store} {PP : SL.D → Prop}, PP (.tup t.its) → GW (ixG S td (.int 1)) PP := fun k => by rw [← htd]; exact gw_ix1T k
  sizeOf_list_dec
  unfold m_Counter_of_row
  refine wf_seq (wf_asg (wp_c ?_))
  refine wf_seq ?_
  refine wf_for (fun j δ S' => ∃ (a : Nat) (rest : Rw) (kn' : List (List Nat)) (y3 : Option SL.D), δ = [some (.loc c), some td, some (.int ((a : Nat) : Int)), y3] ∧ rest.its = t.its.drop j ∧ rest.ok ∧ rest.wt ≤ 400000 ∧ (∀ x ∈ nmR rest, x ∈ nmR t) ∧ hgtR B.H rest ≤ hgtR B.H t ∧ cntR ν rest a = cntR ν t 0 ∧ a ≤ capN ∧ CtI A B ν bd c kn' op S' ∧ Fr c S S' ∧ ∀ y ∈ kn', y ∈ kn ∨ B.rk y < b) ?_
  refine wp_srcV (wp_op2 (wp_v rfl (wp_c (hix ⟨by simp [iterD, asQ, asL, asT], t.its, fun _ _ _ _ => by simp [items, iterD, asQ, asL, asT], ⟨0, t, kn, _, rfl, by simp, hok, hwt, fun x hx => hx, Nat.le_refl _, rfl, Nat.zero_le _, I, Fr.refl, fun y hy => .inl hy⟩, ?_, ?_⟩))))
  · rintro j d hd δ S1 ⟨a, rest, kn1, y3, rfl, hits, hok1, hwt1, hnm1, hhg, hcnt, ha, I1, f1, n1⟩
    have hdr : t.its.drop j = d :: t.its.drop (j + 1) := by
      have hj := (List.getElem?_eq_some_iff.mp hd)
      rw [List.drop_eq_getElem_cons hj.1, hj.2]
    rw [hdr] at hits
    obtain ⟨hc, rfl, htl⟩ := consR_of hits
    have hst := h rest bd c b kn1 op S1 hc hok1 hwt1 (fun x hx => hnm x (hnm1 x hx)) hop (by omega) I1
    refine gw_bind ?_
    refine wf_seq (wf_aug rfl ?_)
    refine wp_meth (wp_v rfl ⟨cuN, cuF bd c, fk I1.ob, rfl, wp_cons (wp_v rfl (wp_nil ⟨rfl, ?_⟩))⟩)
    refine wp_mono hst (fun d S2 hd => ?_) fun xx S2 hx2 => ?_
    · obtain ⟨v, kn2, ev, rfl, I2, f2, n2⟩ := hd
      refine ⟨_, rfl, ?_⟩
      have ecn : cntR ν rest a = if capN < a + v then none else cntR ν (tlR rest) (a + v) := by rw [cnt_cons hc a, ev]
      have eadd : ((a : Nat) : Int) + ((v : Nat) : Int) = ((a + v : Nat) : Int) := by omega
      rw [eadd]
      obtain ⟨ai, hai⟩ : ∃ ai : Int, ai = ((a + v : Nat) : Int) := ⟨_, rfl⟩
      rw [← hai]
      have hcap : ((capN : Nat) : Int) = 1000000000000000000000000000000000000000000000000000000000000 := by decide
      refine wf_if (wp_cmpB (wp_v rfl (wp_c (gb_gtI ⟨fun z => ?_, fun z => wf_nxM ?_⟩))))
      · have z := of_decide_eq_true z
        have : capN < a + v := by omega
        refine wf_raise (wp_mkx (wp_cons (wp_c (wp_nil ⟨⟨rfl, rfl⟩, ?_⟩))))
        refine wp_finXE (f1.trans f2).1 ⟨?_, rfl, f1.trans f2⟩
        rw [← hcnt, ecn, if_pos this]
      · have z := of_decide_eq_false z
        have hle : ¬ capN < a + v := by omega
        rw [if_neg hle] at ecn
        refine ⟨a + v, tlR rest, kn2, _, by rw [hai]; rfl, htl, ok_tl hok1, Nat.le_trans wt_tl hwt1, fun x hx => hnm1 x (nm_tl hx), Nat.le_trans hgt_tl hhg, ecn.symm.trans hcnt, by omega, I2, f1.trans f2, fun y hy => ?_⟩
        rcases n2 y hy with h1 | h1
        · exact n1 y h1
        · exact .inr h1
    · obtain ⟨ev, rfl, f2⟩ := hx2
      refine wp_finXE (f1.trans f2).1 ⟨?_, rfl, f1.trans f2⟩
      rw [← hcnt, cnt_hd hc a ev]
  · rintro δ S1 ⟨a, rest, kn1, y3, rfl, hits, hok1, hwt1, hnm1, hhg, hcnt, ha, I1, f1, n1⟩
    rw [List.drop_length] at hits
    have er : rest = .nil := by
      cases rest with
      | nil => rfl
      | _ => cases hits
    subst er
    refine wf_ret (wp_v rfl ?_)
    exact wp_fin rfl f1.1 ⟨a, kn1, hcnt.symm, rfl, I1, f1, n1⟩
theorem ct_all (hB : B.Ok) (hν : ∀ x ∈ B.bn, ν x = cntR ν (B.tr x) 0) : ∀ n : Nat, CtName A B ν (grp_Counter_of_name_Counter_of_row_Counter_of_step A n).1 n ∧ CtRow A B ν (grp_Counter_of_name_Counter_of_row_Counter_of_step A n).2.1 n ∧ (1 ≤ n → CtStep A B ν (grp_Counter_of_name_Counter_of_row_Counter_of_step A n).2.2 n)
  | 0 => ⟨fun x bd c b kn op S hx hr hop hn I => by omega, fun t bd c b kn op S _ _ _ _ hn I => by have := hgt_pos (H := B.H) t; omega, fun h => by omega⟩
  | n + 1 => by
    obtain ⟨h1, h2, h3⟩ := ct_all hB hν n
    refine ⟨ct_name hB hν h2, ?_, fun _ => ct_step h1 h2⟩
    by_cases e : n = 0
    · subst e
      intro t bd c b kn op S hok hwt hnm hop hn I
      have : t = .nil := by
        cases t with
        | nil => rfl
        | call x r => simp only [hgtR] at hn; omega
        | turn x r => simp only [hgtR] at hn; omega
        | row x r => simp only [hgtR] at hn; omega
        | times m t r => have := hgt_pos (H := B.H) t; simp only [hgtR] at hn; omega
      subst this
      show wp (defM 4 (m_Counter_of_row A stuckF) [.loc c, tD .nil] S) _ _
      sizeOf_list_dec
      unfold m_Counter_of_row
      refine wf_seq (wf_asg (wp_c ?_))
      refine wf_seq ?_
      refine wf_for (fun j δ S' => S' = S ∧ δ = [some (.loc c), some (tD .nil), some (.int 0), none]) ?_
      refine wp_srcV (wp_op2 (wp_v rfl (wp_c (gw_ix1T ⟨rfl, [], fun _ _ _ _ => rfl, ⟨rfl, rfl⟩, fun j d hd => by simp at hd, ?_⟩))))
      rintro δ S' ⟨rfl, rfl⟩
      refine wf_ret (wp_v rfl ?_)
      exact wp_fin rfl rfl ⟨0, kn, rfl, rfl, I, Fr.refl, fun y hy => .inl hy⟩
    · exact ct_row (h3 (by omega))
end
section
variable {A : Ad} {S S' S1 S2 : Store} {Q : SL.D → Store → Prop} {X : Ex → Store → Prop} {B : Bok} {ν : List Nat → Option Nat} {bd : SL.D} {c b n : Nat} {kn op : List (List Nat)} {t : Rw}
theorem fr_app {x y z : Cell} (h : Fr S.length (S ++ [x, y, z]) S') : ∃ g, S' = S ++ g := by
  refine ⟨S'.drop S.length, ?_⟩
  have e : S'.take S.length = S := by
    refine List.ext_getElem? fun i => ?_
    by_cases hi : i < S.length
    · rw [List.getElem?_take_of_lt hi, h.2 i (by omega) (by omega), List.getElem?_append_left hi]
    · rw [List.getElem?_eq_none (by rw [List.length_take]; omega), List.getElem?_eq_none (by omega)]
  have := List.take_append_drop S.length S'
  rw [e] at this
  exact this.symm
theorem look_row_wd (ho : t.ok) (hw : t.wt ≤ 400000) (hd : t.dp ≤ 18) (hr : isRow t = true) (k : Q .non S) : wp (φlook_row A [tD t] S) Q X := by
  sizeOf_list_dec
  unfold m_look_row
  refine wf_if (wp_notB (wp_trM (wp_appA (wp_cons (wp_v rfl (wp_nil ⟨rfl, wp_ok (row_is ho hw hd) ?_⟩))))))
  rw [hr]
  refine gt_bl ⟨fun z => (by cases z), fun _ => wf_nxM ?_⟩
  exact wp_finS rfl k
theorem ct_init (hk : Q .non (S ++ [cuC A bd S.length, .dct [] [], .lst []])) : wp (φCounter_init A [.loc S.length, bd] (S ++ [.obj A.Counter [] []])) Q X := by
  refine wp_defK ?_
  simp only [startD, List.map_cons, List.map_nil, List.length_cons, List.length_nil, Nat.reduceAdd, Nat.reduceSub, List.replicate_succ, List.replicate_zero, List.cons_append, List.nil_append, Nat.zero_add]
  unfold m_Counter_init
  refine wf_seq (wf_setf (wp_v rfl (wp_v rfl ⟨S.length, [], [], rfl, by simp, by simp, ?_⟩)))
  have e1 : (S ++ [Cell.obj A.Counter [] []]).set S.length (.obj A.Counter (putS [] [] "book" bd).1 (putS [] [] "book" bd).2) = S ++ [.obj A.Counter ["book"] [bd]] := by
    rw [List.set_append_right _ _ (Nat.le_refl _), Nat.sub_self]
    rfl
  rw [e1]
  refine wf_seq (wf_setf (wp_ok rfl (wp_v rfl ⟨S.length, ["book"], [bd], rfl, by simp, by simp, ?_⟩)))
  have e2 : ((S ++ [Cell.obj A.Counter ["book"] [bd]]) ++ [Cell.dct [] []]).set S.length (.obj A.Counter (putS ["book"] [bd] "known" (.loc (S ++ [Cell.obj A.Counter ["book"] [bd]]).length)).1 (putS ["book"] [bd] "known" (.loc (S ++ [Cell.obj A.Counter ["book"] [bd]]).length)).2) = S ++ [.obj A.Counter ["book", "known"] [bd, .loc (S.length + 1)], .dct [] []] := by
    rw [List.append_assoc, List.set_append_right _ _ (Nat.le_refl _), Nat.sub_self, List.length_append]
    rfl
  rw [e2]
  refine wf_setf (wp_lstLM (wp_nil ⟨by simp, wp_v rfl ⟨S.length, ["book", "known"], [bd, .loc (S.length + 1)], rfl, by simp, by simp, ?_⟩⟩))
  have e3 : ((S ++ [Cell.obj A.Counter ["book", "known"] [bd, .loc (S.length + 1)], .dct [] []]) ++ [Cell.lst []]).set S.length (.obj A.Counter (putS ["book", "known"] [bd, .loc (S.length + 1)] "open_names" (.loc (S ++ [Cell.obj A.Counter ["book", "known"] [bd, .loc (S.length + 1)], .dct [] []]).length)).1 (putS ["book", "known"] [bd, .loc (S.length + 1)] "open_names" (.loc (S ++ [Cell.obj A.Counter ["book", "known"] [bd, .loc (S.length + 1)], .dct [] []]).length)).2) = S ++ [cuC A bd S.length, .dct [] [], .lst []] := by
    rw [List.append_assoc, List.set_append_right _ _ (Nat.le_refl _), Nat.sub_self, List.length_append]
    rfl
  rw [e3]
  exact hk
def BkS (B : Bok) (S : Store) (bd : SL.D) : Prop := (∀ g, BkD B (S ++ g) bd) ∧ ∀ S', (∀ i, i < S.length → S'[i]? = S[i]?) → BkD B S' bd
theorem BkS.dct (h : bd = SL.D.dct (B.bn.map kT) (B.bn.map fun x => tD (B.tr x))) : BkS B S bd := by
  subst h
  exact ⟨fun _ => rfl, fun _ _ => rfl⟩
theorem BkS.loc {i : Nat} (h : S[i]? = some (.dct (B.bn.map kT) (B.bn.map fun x => tD (B.tr x)))) : BkS B S (.loc i) := by
  have hi := (List.getElem?_eq_some_iff.mp h).1
  exact ⟨fun g => asDct_loc (by rw [List.getElem?_append_left hi]; exact h), fun S' hs => asDct_loc (by rw [hs i hi]; exact h)⟩
theorem ct_new (hbk : BkS B S bd) : CtI A B ν bd S.length [] [] (S ++ [cuC A bd S.length, .dct [] [], .lst []]) :=
  ⟨by simp, ⟨List.nodup_nil, by simp, by simp⟩, fun x hx => (by cases hx), ⟨List.nodup_nil, fun y hy => (by cases hy)⟩, fun S' f => hbk.2 S' fun i hi => by rw [f i hi, List.getElem?_append_left hi]⟩
structure RwI (B : Bok) (t : Rw) : Prop where
  ok : t.ok
  wt : t.wt ≤ 400000
  row : isRow t = true
  nm : ∀ x ∈ nmR t, x ∈ B.bn
  hgt : hgtR B.H t ≤ 40
theorem RwI.dp (h : RwI B t) : t.dp ≤ 18 := by
  have := h.row
  unfold isRow at this
  simp only [Bool.and_eq_true, decide_eq_true_eq] at this
  omega
theorem rk_all (B : Bok) (l : List (List Nat)) : ∃ b, ∀ x ∈ l, B.rk x < b := by
  induction l with
  | nil => exact ⟨0, fun x h => by cases h⟩
  | cons a l ih =>
    obtain ⟨b, hb⟩ := ih
    refine ⟨max b (B.rk a + 1), fun x h => ?_⟩
    rcases List.mem_cons.mp h with rfl | h
    · omega
    · have := hb x h
      omega
def BkArg (B : Bok) (S : Store) (bd : SL.D) : Prop := ((∀ S, isG S bd .non = some (.bl false)) ∧ BkS B S bd) ∨ (bd = .non ∧ B.bn = [])
theorem book_if {δ : DEnv} {i : Nat} (hv : δ[i]? = some (some bd)) (h : BkArg B S bd) (k : ∀ bd', BkS B S bd' → Q bd' S) : wp (ifM (cmpB isG (vM i) (cM .non)) (freezeM dnewM) (vM i) δ S) Q X := by
  rcases h with ⟨h1, h2⟩ | ⟨rfl, h2⟩
  · exact wp_ifM (wp_cmpB (wp_v hv (wp_c ⟨false, by rw [h1]; rfl, fun z => (by cases z), fun _ => wp_v hv (k _ h2)⟩)))
  · refine wp_ifM (wp_cmpB (wp_v hv (wp_c ⟨true, rfl, fun _ => ?_, fun z => (by cases z)⟩)))
    refine wp_freeze (wp_ok rfl ?_)
    exact wp_finDc (t := []) rfl (k _ (.dct (by rw [h2]; rfl)))
theorem many_done_wd (hB : B.Ok) (hν : ∀ x ∈ B.bn, ν x = cntR ν (B.tr x) 0) (ht : RwI B t) (hbk : BkArg B S bd) (k : ∀ v, cntR ν t 0 = some v → Q (.int ((v : Nat) : Int)) S) (kx : cntR ν t 0 = none → X (xCap A) S) : wp (φmany_done A [tD t, bd] S) Q X := by
  obtain ⟨b, hb⟩ := rk_all B (nmR t)
  have hrow := (ct_all (A := A) hB hν 40).2.1
  have hlook : ∀ {S : Store} {Q : SL.D → Store → Prop} {X : Ex → Store → Prop}, Q .non S → wp (φlook_row A [tD t] S) Q X := fun k => look_row_wd ht.ok ht.wt ht.dp ht.row k
  have hgo := fun {bd : SL.D} (hbk : BkS B S bd) => hrow t bd S.length b [] [] (S ++ [cuC A bd S.length, .dct [] [], .lst []]) ht.ok ht.wt (fun x hx => ⟨ht.nm x hx, hb x hx⟩) (fun y hy => (by cases hy)) ht.hgt (ct_new hbk)
  generalize tD t = td at hlook hgo ⊢
  sizeOf_list_dec
  unfold m_many_done
  refine wf_seq (wf_expr (wp_appA (wp_cons (wp_v rfl (wp_nil ⟨rfl, hlook ?_⟩)))))
  refine wf_ret (wp_meth (wp_make (wp_cons (book_if rfl hbk fun bd' hbk' => wp_nil ⟨rfl, ct_init ⟨rfl, ?_⟩⟩))))
  refine ⟨cuN, cuF bd' S.length, asO_loc (by simp), rfl, wp_cons (wp_v rfl (wp_nil ⟨rfl, ?_⟩))⟩
  refine wp_mono (hgo hbk') (fun d S3 hd => ?_) fun xx S3 hx3 => ?_
  · obtain ⟨v, kn3, ev, rfl, I3, f3, n3⟩ := hd
    obtain ⟨g, rfl⟩ := fr_app f3
    exact wp_finT rfl (k v ev)
  · obtain ⟨ev, rfl, f3⟩ := hx3
    obtain ⟨g, rfl⟩ := fr_app f3
    exact wp_finX rfl rfl Settles.same (kx ev)
def spl (σ : List Nat → List SL.D) : Rw → List SL.D
  | .nil => []
  | .call x r => .tup [.str w_call, .str x] :: spl σ r
  | .turn x r => .tup [.str w_turn, .str x] :: spl σ r
  | .row x r => σ x ++ spl σ r
  | .times n t r => (List.replicate n (spl σ t)).flatten ++ spl σ r
def hdS (σ : List Nat → List SL.D) : Rw → List SL.D
  | .nil => []
  | .call x _ => [.tup [.str w_call, .str x]]
  | .turn x _ => [.tup [.str w_turn, .str x]]
  | .row x _ => σ x
  | .times n t _ => (List.replicate n (spl σ t)).flatten
theorem spl_cons (σ : List Nat → List SL.D) {t : Rw} (h : consR t = true) : spl σ t = hdS σ t ++ spl σ (tlR t) := by
  cases t with
  | nil => cases h
  | _ => rfl
theorem rep_len {α : Type} (l : List α) : ∀ n : Nat, (List.replicate n l).flatten.length = n * l.length
  | 0 => by simp
  | n + 1 => by rw [List.replicate_succ, List.flatten_cons, List.length_append, rep_len l n, Nat.add_mul]; omega
theorem spl_lenA {σ : List Nat → List SL.D} (hν : ∀ x v, ν x = some v → (σ x).length = v) : ∀ (t : Rw) (a v : Nat), cntR ν t a = some v → a + (spl σ t).length = v
  | .nil, a, v, e => by cases e; simp [spl]
  | .call x r, a, v, e => by
    unfold cntR at e
    split at e
    · cases e
    · have := spl_lenA hν r _ _ e
      simp only [spl, List.length_cons]
      omega
  | .turn x r, a, v, e => by
    unfold cntR at e
    split at e
    · cases e
    · have := spl_lenA hν r _ _ e
      simp only [spl, List.length_cons]
      omega
  | .row x r, a, v, e => by
    unfold cntR at e
    split at e
    · cases e
    · rename_i w ew
      split at e
      · cases e
      · have h1 := spl_lenA hν r _ _ e
        have h2 := hν x w ew
        simp only [spl, List.length_append]
        omega
  | .times n t r, a, v, e => by
    unfold cntR at e
    split at e
    · cases e
    · rename_i w ew
      split at e
      · cases e
      · have h1 := spl_lenA hν r _ _ e
        have h2 := spl_lenA hν t _ _ ew
        simp only [spl, List.length_append, rep_len]
        rw [Nat.zero_add] at h2
        rw [h2]
        omega
theorem hd_len {σ : List Nat → List SL.D} (hν : ∀ x v, ν x = some v → (σ x).length = v) {t : Rw} (h : consR t = true) {v : Nat} (e : hdV ν t = some v) : (hdS σ t).length = v := by
  cases t with
  | nil => cases h
  | call x r => cases e; rfl
  | turn x r => cases e; rfl
  | row x r => exact hν x v e
  | times n t r =>
    have e : (match cntR ν t 0 with | none => none | some v => some (n * v)) = some v := e
    split at e
    · cases e
    · rename_i w ew
      cases e
      have := spl_lenA hν t _ _ ew
      show (List.replicate n (spl σ t)).flatten.length = _
      rw [rep_len]
      rw [Nat.zero_add] at this
      rw [this]
theorem nm_len {σ : List Nat → List SL.D} (hB : B.Ok) (hν : ∀ x ∈ B.bn, ν x = cntR ν (B.tr x) 0) (hσ : ∀ x ∈ B.bn, σ x = spl σ (B.tr x)) (hν0 : ∀ x, x ∉ B.bn → ν x = none) : ∀ x v, ν x = some v → (σ x).length = v := by
  have key : ∀ b : Nat, ∀ x, B.rk x < b → ∀ v, ν x = some v → (σ x).length = v := by
    intro b
    induction b with
    | zero => intro x h; omega
    | succ b ih =>
      intro x hx v e
      have hm : x ∈ B.bn := Classical.byContradiction fun z => by rw [hν0 x z] at e; cases e
      have hl := hB.low x hm
      rw [hν x hm] at e
      rw [hσ x hm]
      have go : ∀ (t : Rw), (∀ y ∈ nmR t, B.rk y < b) → ∀ (a w : Nat), cntR ν t a = some w → a + (spl σ t).length = w := by
        intro t ht a w ew
        let ν' : List Nat → Option Nat := fun y => if B.rk y < b then ν y else none
        have e1 : ∀ (t : Rw), (∀ y ∈ nmR t, B.rk y < b) → ∀ a, cntR ν' t a = cntR ν t a := by
          intro t
          induction t with
          | nil => intro _ a; rfl
          | call y r ih => intro h a; simp only [cntR, ih h]
          | turn y r ih => intro h a; simp only [cntR, ih h]
          | row y r ih =>
            intro h a
            have hy := h y (List.mem_cons_self ..)
            have : ν' y = ν y := if_pos hy
            simp only [cntR, this, ih fun z hz => h z (List.mem_cons_of_mem _ hz)]
          | times m t r ih1 ih2 =>
            intro h a
            simp only [cntR, ih1 fun z hz => h z (List.mem_append_left _ hz), ih2 fun z hz => h z (List.mem_append_right _ hz)]
        refine spl_lenA (ν := ν') (fun y u hu => ?_) t a w ((e1 t ht a).trans ew)
        have hu : (if B.rk y < b then ν y else none) = some u := hu
        split at hu
        · rename_i hy
          exact ih y hy u hu
        · cases hu
      have := go (B.tr x) (fun y hy => by have := (hl y hy).2; omega) 0 v e
      omega
  intro x v e
  exact key _ x (Nat.lt_succ_self _) v e
theorem fr_split {g : Store} (hc : c + 2 < S1.length) (h : Fr c (S1 ++ g) S2) : ∃ S3, S2 = S3 ++ g ∧ Fr c S1 S3 := by
  have hl := h.1
  rw [List.length_append] at hl
  have e1 : S2.drop S1.length = g := by
    refine List.ext_getElem? fun i => ?_
    rw [List.getElem?_drop, h.2 _ (by omega) (by omega), List.getElem?_append_right (by omega)]
    congr 1
    omega
  refine ⟨S2.take S1.length, ?_, ?_, fun i h1 h2 => ?_⟩
  · have := List.take_append_drop S1.length S2
    rw [e1] at this
    exact this.symm
  · rw [List.length_take]
    omega
  · by_cases hi : i < S1.length
    · rw [List.getElem?_take_of_lt hi, h.2 i h1 h2, List.getElem?_append_left hi]
    · rw [List.getElem?_eq_none (by rw [List.length_take]; omega), List.getElem?_eq_none (by omega)]
theorem CtI.lt (h : CtI A B ν bd c kn op S) : c + 2 < S.length := (List.getElem?_eq_some_iff.mp h.kp.lo).1
theorem CtI.app (h : CtI A B ν bd c kn op S) (g : Store) : CtI A B ν bd c kn op (S ++ g) := by
  have hl := h.lt
  exact ⟨by rw [List.getElem?_append_left (by omega)]; exact h.ob, ⟨h.kp.nd, by rw [List.getElem?_append_left (by omega)]; exact h.kp.dk, by rw [List.getElem?_append_left (by omega)]; exact h.kp.lo⟩, h.sub, h.on, fun S' hs => h.bk S' fun i hi => by rw [hs i hi, List.getElem?_append_left (by omega)]⟩
theorem CtI.cut {g : Store} (hl : c + 2 < S.length) (h : CtI A B ν bd c kn op (S ++ g)) : CtI A B ν bd c kn op S := by
  have h1 := h.ob
  have h2 := h.kp.dk
  have h3 := h.kp.lo
  rw [List.getElem?_append_left (by omega)] at h1 h2 h3
  exact ⟨h1, ⟨h.kp.nd, h2, h3⟩, h.sub, h.on, fun S' hs => h.bk S' fun i hi => by rw [hs i hi, List.getElem?_append_left (by omega)]⟩
theorem CtI.settles (h : CtI A B ν bd c kn op S') (f : Fr c S S') : Settles S S' := by
  intro i x hi e
  by_cases h1 : i = c + 1
  · subst h1
    right
    rw [h.kp.dk] at e
    cases e
    refine okC_up ?_ _
    refine okL_iff.mpr fun d hd => ?_
    obtain ⟨z, _, rfl⟩ := List.mem_map.mp hd
    rfl
  · by_cases h2 : i = c + 2
    · subst h2
      right
      rw [h.kp.lo] at e
      cases e
      exact okC_up (c := .lst (op.map SL.D.str)) (ok_strs op) _
    · left
      rw [← f.2 i h1 h2]
      exact e
theorem wp_finOG {m : Nat} {t : Store} {ds : List SL.D} (hm : S.length ≤ m) (e : (S' ++ t)[m]? = some (.lst ds)) (ho : okL 0 ds = true) (hl : S'.length = S.length) (hs : Settles S S') (k : Q (.loc S.length) (S' ++ [.lst ds])) : wp (finO S (.loc m) (S' ++ t)) Q X := by
  have ho2 := okL_up _ S.length ho
  have e1 : freshL S.length (S' ++ t) (.loc m) = some ds := by
    simp only [freshL, e]
    rw [if_pos hm, if_pos ho2]
  unfold finO
  rw [e1]
  simp only
  have hs2 : Settles S (S' ++ t) := fun i c hi z => hs i c hi (by rwa [List.getElem?_append_left (by omega)] at z)
  rw [if_pos hs2, ← hl, List.take_left]
  rw [hl]
  exact k
end
section
variable {A : Ad} {S S' S1 S2 : Store} {Q : SL.D → Store → Prop} {X : Ex → Store → Prop} {B : Bok} {ν : List Nat → Option Nat} {σ : List Nat → List SL.D} {bd : SL.D} {c b n : Nat} {kn op : List (List Nat)} {t : Rw}
def SoRow (A : Ad) (B : Bok) (ν : List Nat → Option Nat) (σ : List Nat → List SL.D) (φ : Fn) (n : Nat) : Prop := ∀ (t : Rw) (bd : SL.D) (c b v : Nat) (kn op : List (List Nat)) (S : Store) (Q : SL.D → Store → Prop) (X : Ex → Store → Prop), t.ok → t.wt ≤ 400000 → (∀ x ∈ nmR t, x ∈ B.bn ∧ B.rk x < b) → (∀ y ∈ op, b ≤ B.rk y) → hgtR B.H t ≤ n → hgtR B.H t ≤ 40 → cntR ν t 0 = some v → v ≤ 400 → CtI A B ν bd c kn op S →
  (∀ S' kn', Fr c S S' → CtI A B ν bd c kn' op S' → Q (.loc S.length) (S' ++ [.lst (spl σ t)])) → wp (φ [.loc c, tD t] S) Q X
theorem hdS_ok (hσ : ∀ x, okL 0 (σ x) = true) : ∀ t : Rw, okL 0 (spl σ t) = true
  | .nil => rfl
  | .call _ r => by simp only [spl, okL, okD, hdS_ok hσ r, Bool.and_self]
  | .turn _ r => by simp only [spl, okL, okD, hdS_ok hσ r, Bool.and_self]
  | .row x r => okL_iff.mpr fun d hd => by
    rcases List.mem_append.mp hd with hd | hd
    · exact okL_iff.mp (hσ x) d hd
    · exact okL_iff.mp (hdS_ok hσ r) d hd
  | .times n t r => okL_iff.mpr fun d hd => by
    rcases List.mem_append.mp hd with hd | hd
    · obtain ⟨l, hl, hd⟩ := List.mem_flatten.mp hd
      rw [(List.mem_replicate.mp hl).2] at hd
      exact okL_iff.mp (hdS_ok hσ t) d hd
    · exact okL_iff.mp (hdS_ok hσ r) d hd
theorem asL_at {m : Nat} {ds : List SL.D} (e : S[m]? = some (.lst ds)) : asL S (.loc m) = some ds := by simp [asL, e]
theorem mul_rep {m : Nat} {g : Store} {ds : List SL.D} {PP : SL.D → Prop} (hn : n ≤ 1000000) (hl : ds.length * n ≤ 1000000) (e : S[m]? = some (.lst ds)) (k : PP (.lst (List.replicate n ds).flatten)) : GW (mulG S (.loc m) (.int (n : Int))) PP := by
  refine ⟨_, ?_, k⟩
  show (match asL S (.loc m) with | some a => if 0 ≤ (n : Int) ∧ (n : Int) ≤ 1000000 ∧ a.length * (n : Int).toNat ≤ 1000000 then some (SL.D.lst (List.replicate (n : Int).toNat a).flatten) else none | none => none) = _
  rw [asL_at e]
  simp only [Int.toNat_natCast]
  rw [if_pos ⟨by omega, by omega, hl⟩]
theorem so_row (hB : B.Ok) (hν : ∀ x ∈ B.bn, ν x = cntR ν (B.tr x) 0) (hσ : ∀ x ∈ B.bn, σ x = spl σ (B.tr x)) (hσk : ∀ x, okL 0 (σ x) = true) (hlen : ∀ x v, ν x = some v → (σ x).length = v) {φ : Fn} (h : SoRow A B ν σ φ n) : SoRow A B ν σ (defO 4 (m_Counter_set_out A (φCounter_of_step A) φ)) (n + 1) := by
  intro t bd c b v kn op S Q X hok hwt hnm hop hn hn40 hv hv4 I k
  have fk : ∀ {S : Store}, S[c]? = some (cuC A bd c) → asO S (.loc c) = some (A.Counter, cuN, cuF bd c) := fun e => asO_loc e
  have hcS := I.lt
  have hstep := (ct_all (A := A) hB hν 40).2.2 (by decide)
  have hil := its_len t
  generalize htd : tD t = td
  have hix : ∀ {S : Store} {PP : SL.D → Prop}, PP (.tup t.its) → GW (ixG S td (.int 1)) PP := fun k => by rw [← htd]; exact gw_ix1T k
  refine wp_defO ?_
  simp only [startD, List.map_cons, List.map_nil, List.length_cons, List.length_nil, Nat.reduceAdd, Nat.reduceSub, List.replicate_succ, List.replicate_zero, List.cons_append, List.nil_append, Nat.zero_add]
  unfold m_Counter_set_out
  refine wf_seq (wf_asg (wp_lstLM (wp_nil ⟨by simp, ?_⟩)))
  refine wf_seq ?_
  refine wf_for (fun j δ S' => ∃ (a m : Nat) (rest : Rw) (acc : List SL.D) (kn' : List (List Nat)) (y3 : Option SL.D) (S1 gg : Store), δ = [some (.loc c), some td, some (.loc m), y3] ∧ S' = S1 ++ gg ∧ S.length ≤ m ∧ S'[m]? = some (.lst acc) ∧ rest.its = t.its.drop j ∧ rest.ok ∧ rest.wt ≤ 400000 ∧ (∀ x ∈ nmR rest, x ∈ nmR t) ∧ hgtR B.H rest ≤ hgtR B.H t ∧ cntR ν rest a = some v ∧ a ≤ v ∧ acc ++ spl σ rest = spl σ t ∧ acc.length = a ∧ CtI A B ν bd c kn' op S1 ∧ Fr c S S1) ?_
  refine wp_srcV (wp_op2 (wp_v rfl (wp_c (hix ⟨by simp [iterD, asQ, asL, asT], t.its, fun _ _ _ _ => by simp [items, iterD, asQ, asL, asT], ⟨0, S.length, t, [], kn, _, S, _, rfl, rfl, Nat.le_refl _, by simp, by simp, hok, hwt, fun x hx => hx, Nat.le_refl _, hv, Nat.zero_le _, rfl, rfl, I, Fr.refl⟩, ?_, ?_⟩))))
  · rintro j d hd δ S0 ⟨a, m, rest, acc, kn1, y3, S1, gg, rfl, rfl, hm, hcell, hits, hok1, hwt1, hnm1, hhg, hcnt, ha, hacc, hal, I1, f1⟩
    have hdr : t.its.drop j = d :: t.its.drop (j + 1) := by
      have hj := (List.getElem?_eq_some_iff.mp hd)
      rw [List.drop_eq_getElem_cons hj.1, hj.2]
    rw [hdr] at hits
    obtain ⟨hc, rfl, htl⟩ := consR_of hits
    have hst := hstep rest bd c b kn1 op (S1 ++ gg) hc hok1 hwt1 (fun x hx => hnm x (hnm1 x hx)) hop (by omega) (I1.app gg)
    have ecn := cnt_cons (ν := ν) hc a
    rw [hcnt] at ecn
    refine gw_bind ?_
    refine wf_seq (wf_if (wp_cmpB ?_))
    refine wp_meth (wp_v rfl ⟨cuN, cuF bd c, fk (I1.app gg).ob, rfl, wp_cons (wp_v rfl (wp_nil ⟨rfl, ?_⟩))⟩)
    refine wp_mono hst (fun d S2 hd => ?_) fun xx S2 hx2 => ?_
    rotate_left
    · exfalso
      rw [hx2.1] at ecn
      cases ecn
    obtain ⟨w, kn2, ev, rfl, I2, f2, n2⟩ := hd
    rw [ev] at ecn
    have ecn : some v = if capN < a + w then none else cntR ν (tlR rest) (a + w) := ecn
    have hcap : ¬ capN < a + w := fun z => by rw [if_pos z] at ecn; cases ecn
    rw [if_neg hcap] at ecn
    have hlen2 := hd_len hlen hc ev
    have hspl := spl_cons σ hc
    have haw : a + w ≤ v := by
      have := spl_lenA hlen _ _ _ ecn.symm
      omega
    obtain ⟨S3, rfl, f3⟩ := fr_split I1.lt f2
    have hl3 : S3.length = S.length := f3.1.trans f1.1
    have I3 : CtI A B ν bd c kn2 op S3 := I2.cut (by rw [f3.1]; exact I1.lt)
    have fx : Fr c S S3 := f1.trans f3
    have hcell3 : (S3 ++ gg)[m]? = some (.lst acc) := by
      rw [List.getElem?_append_right (by rw [f3.1, f1.1]; exact hm), f3.1, ← List.getElem?_append_right (by rw [f1.1]; exact hm)]
      exact hcell
    have hmg : m - S3.length < gg.length := by
      have := (List.getElem?_eq_some_iff.mp hcell3).1
      rw [List.length_append] at this
      omega
    obtain ⟨wi, hwi⟩ : ∃ wi : Int, wi = ((w : Nat) : Int) := ⟨_, rfl⟩
    rw [← hwi]
    -- what the loop's end asks
    have done : ∀ {m' : Nat} {acc' : List SL.D} {kn' : List (List Nat)} {y3 : Option SL.D} {S4 g4 : Store}, S.length ≤ m' → (S4 ++ g4)[m']? = some (.lst acc') → acc' = acc ++ hdS σ rest → CtI A B ν bd c kn' op S4 → Fr c S S4 → ∃ (a m : Nat) (rest : Rw) (acc : List SL.D) (kn' : List (List Nat)) (y3' : Option SL.D) (S1 gg : Store), [some (SL.D.loc c), some td, some (.loc m'), y3] = [some (.loc c), some td, some (.loc m), y3'] ∧ S4 ++ g4 = S1 ++ gg ∧ S.length ≤ m ∧ (S4 ++ g4)[m]? = some (.lst acc) ∧ rest.its = t.its.drop (j + 1) ∧ rest.ok ∧ rest.wt ≤ 400000 ∧ (∀ x ∈ nmR rest, x ∈ nmR t) ∧ hgtR B.H rest ≤ hgtR B.H t ∧ cntR ν rest a = some v ∧ a ≤ v ∧ acc ++ spl σ rest = spl σ t ∧ acc.length = a ∧ CtI A B ν bd c kn' op S1 ∧ Fr c S S1 := fun {m' acc' kn' y3 S4 g4} h1 h2 h3 h4 h5 => by
      refine ⟨a + w, m', tlR rest, acc', kn', _, S4, g4, rfl, rfl, h1, h2, htl, ok_tl hok1, Nat.le_trans wt_tl hwt1, fun x hx => hnm1 x (nm_tl hx), Nat.le_trans hgt_tl hhg, ecn.symm, haw, ?_, ?_, h4, h5⟩
      · rw [h3, List.append_assoc, ← hspl]
        exact hacc
      · rw [h3, List.length_append, hlen2, hal]
    refine wp_c (gb_eqI ⟨fun z => ?_, fun z => wf_nxM ?_⟩)
    · have z := of_decide_eq_true z
      have hw0 : w = 0 := by omega
      have hnil : hdS σ rest = [] := List.eq_nil_of_length_eq_zero (by omega)
      refine wf_ctM ?_
      exact done hm hcell3 (by rw [hnil, List.append_nil]) I3 fx
    have z := of_decide_eq_false z
    have hw1 : 1 ≤ w := by omega
    have hacl : acc.length ≤ 400 := by omega
    have hone : ∀ {wd x : List Nat}, wd ≠ w_row → wd ≠ w_times → hdD' rest = .tup [.str wd, .str x] → hdS σ rest = [.tup [.str wd, .str x]] → wf (ifSM (cmpB eqG (op2M ixG (vM 3) (cM (.int 0))) (cM (.str [114, 111, 119]))) (asgM 2 (addLM (vM 2) (methM A.Counter "set_out" 2 φ (vM 0) (consM (op2M ixG (fldM A.Counter "book" (vM 0)) (op2M ixG (vM 3) (cM (.int 1)))) nilM) []))) (ifSM (cmpB eqG (op2M ixG (vM 3) (cM (.int 0))) (cM (.str [116, 105, 109, 101, 115]))) (asgM 2 (addLM (vM 2) (op2M mulG (methM A.Counter "set_out" 2 φ (vM 0) (consM (op2M ixG (vM 3) (cM (.int 2))) nilM) []) (op2M ixG (vM 3) (cM (.int 1)))))) (exprM (lmM appendG (vM 2) (consM (vM 3) nilM)))) [some (.loc c), some td, some (.loc m), some (hdD' rest)] (S3 ++ gg)) (fun δ S' => ∃ (a m : Nat) (rest : Rw) (acc : List SL.D) (kn' : List (List Nat)) (y3 : Option SL.D) (S1 gg : Store), δ = [some (.loc c), some td, some (.loc m), y3] ∧ S' = S1 ++ gg ∧ S.length ≤ m ∧ S'[m]? = some (.lst acc) ∧ rest.its = t.its.drop (j + 1) ∧ rest.ok ∧ rest.wt ≤ 400000 ∧ (∀ x ∈ nmR rest, x ∈ nmR t) ∧ hgtR B.H rest ≤ hgtR B.H t ∧ cntR ν rest a = some v ∧ a ≤ v ∧ acc ++ spl σ rest = spl σ t ∧ acc.length = a ∧ CtI A B ν bd c kn' op S1 ∧ Fr c S S1) (fun d S' => wp (finO S d S') Q X) (fun x _ S' => wp (finX S x S') Q X) noB noB := fun {wd x} n1 n2 e1 e2 => by
      rw [e1]
      refine wf_if (wp_cmpB ?_)
      repeat infer_instance
      refine ⟨fun z => absurd (of_decide_eq_true z) n1, fun _ => ?_⟩
      refine wf_if (wp_cmpB ?_)
      repeat infer_instance
      refine ⟨fun z => absurd (of_decide_eq_true z) n2, fun _ => ?_⟩
      refine wf_expr (wp_lm (wp_v rfl ⟨by simp only [locL, hcell3]; rfl, wp_cons (wp_v rfl (wp_nil ⟨m, acc, .non, acc ++ [.tup [.str wd, .str x]], by simp only [locL, hcell3], append_ok (by omega), ?_⟩))⟩))
      have es : (S3 ++ gg).set m (.lst (acc ++ [.tup [.str wd, .str x]])) = S3 ++ gg.set (m - S3.length) (.lst (acc ++ [.tup [.str wd, .str x]])) := List.set_append_right _ _ (by omega)
      rw [es]
      obtain ⟨a', m', r', acc', kn', y', S', g', h1, h2, h3⟩ := done (m' := m) (acc' := acc ++ [.tup [.str wd, .str x]]) (y3 := some (.tup [.str wd, .str x])) (g4 := gg.set (m - S3.length) (.lst (acc ++ [.tup [.str wd, .str x]]))) hm (by
        rw [List.getElem?_append_right (by omega), List.getElem?_set_self hmg]) (by rw [e2]) I3 fx
      exact ⟨a', m', r', acc', kn', y', S', g', h1, h2, h3⟩
    cases rest with
    | nil => cases hc
    | call x r => exact wf_mono (hone (by decide) (by decide) rfl rfl) (fun _ _ h => h) (fun _ _ h => h) (fun _ _ _ h => h) (fun _ _ h => h.elim) (fun _ _ h => h.elim)
    | turn x r => exact wf_mono (hone (by decide) (by decide) rfl rfl) (fun _ _ h => h) (fun _ _ h => h) (fun _ _ _ h => h) (fun _ _ h => h.elim) (fun _ _ h => h.elim)
    | row x r =>
      obtain ⟨hxb, hxr⟩ := hnm x (hnm1 x (List.mem_cons_self ..))
      have hgt := hB.hgt x hxb
      have hh : hgtR B.H (Rw.row x r) ≤ n + 1 := Nat.le_trans hhg hn
      simp only [hgtR] at hh hhg
      have ew : ν x = some w := ev
      have hgo := h (B.tr x) bd c (B.rk x) w kn2 op (S3 ++ gg)
      show wf (ifSM (cmpB eqG (op2M ixG (vM 3) (cM (.int 0))) (cM (.str [114, 111, 119]))) _ _ [some (.loc c), some td, some (.loc m), some (.tup [.str w_row, .str x])] (S3 ++ gg)) _ _ _ _ _
      refine wf_if (wp_cmpB ?_)
      repeat infer_instance
      refine ⟨fun _ => ?_, fun z => absurd rfl (of_decide_eq_false z)⟩
      refine wf_asg (wp_addL (wp_v rfl ?_))
      have I4 := I3.app gg
      refine wp_meth (wp_v rfl ⟨cuN, cuF bd c, fk I4.ob, rfl, wp_cons (wp_op2 (wp_fld (ns := []) (ds := []) (wp_v rfl ⟨cuN, cuF bd c, _, fk I4.ob, rfl, wp_op2 (wp_v rfl (wp_c (gw_ix1T (gw_ixDk (I4.bk _ fun _ _ => rfl) hxb (wp_nil ⟨rfl, ?_⟩)))))⟩)))⟩)
      refine hgo _ _ (hB.ok x hxb) (hB.wt x hxb) (hB.low x hxb) (fun y hy => by have := hop y hy; omega) (by omega) (by omega) ((hν x hxb).symm.trans ew) (by omega) I4 fun S5 kn5 f5 I5 => ?_
      obtain ⟨S6, rfl, f6⟩ := fr_split (by rw [hl3]; exact hcS) f5
      have I6 : CtI A B ν bd c kn5 op S6 := I5.cut (by rw [f6.1, hl3]; exact hcS)
      have hl6 : S6.length = S3.length := f6.1
      have hc6 : (S6 ++ gg)[m]? = some (.lst acc) := by
        rw [List.getElem?_append_right (by omega), hl6, ← List.getElem?_append_right (by omega)]
        exact hcell3
      have hc7 : ((S6 ++ gg) ++ [Cell.lst (spl σ (B.tr x))])[m]? = some (.lst acc) := by
        rw [List.getElem?_append_left (List.getElem?_eq_some_iff.mp hc6).1]
        exact hc6
      have hll : (spl σ (B.tr x)).length = w := by rw [← hσ x hxb]; exact hlen x w ew
      refine ⟨acc, spl σ (B.tr x), asL_at hc7, asL_at (by simp [hl6]), by omega, ?_⟩
      rw [List.append_assoc, List.append_assoc]
      refine done (y3 := some _) (acc' := acc ++ spl σ (B.tr x)) ?_ ?_ ?_ I6 (fx.trans f6)
      · rw [List.length_append, List.length_append]
        omega
      · rw [List.getElem?_append_right (by simp), List.getElem?_append_right (by simp)]
        simp
      · show acc ++ spl σ (B.tr x) = acc ++ σ x
        rw [hσ x hxb]
    | times q t' r =>
      have hh : hgtR B.H (Rw.times q t' r) ≤ n + 1 := Nat.le_trans hhg hn
      simp only [hgtR] at hh hhg
      have ev' : (match cntR ν t' 0 with | none => none | some v => some (q * v)) = some w := ev
      obtain ⟨u, eu, ew⟩ : ∃ u, cntR ν t' 0 = some u ∧ q * u = w := by
        split at ev'
        · cases ev'
        · rename_i u eu
          exact ⟨u, eu, Option.some.inj ev'⟩
      have hq1 : 1 ≤ q := Nat.pos_of_ne_zero fun e => by rw [e, Nat.zero_mul] at ew; omega
      have hu1 : 1 ≤ u := Nat.pos_of_ne_zero fun e => by rw [e, Nat.mul_zero] at ew; omega
      have hqu : q ≤ w := by rw [← ew]; exact Nat.le_mul_of_pos_right q hu1
      have huu : u ≤ w := by rw [← ew]; exact Nat.le_mul_of_pos_left u hq1
      have hgo := h t' bd c b u kn2 op (S3 ++ gg)
      obtain ⟨qi, hqi⟩ : ∃ qi : Int, qi = (q : Int) := ⟨_, rfl⟩
      show wf (ifSM (cmpB eqG (op2M ixG (vM 3) (cM (.int 0))) (cM (.str [114, 111, 119]))) _ _ [some (.loc c), some td, some (.loc m), some (.tup [.str w_times, .int (q : Int), tD t'])] (S3 ++ gg)) _ _ _ _ _
      rw [← hqi]
      refine wf_if (wp_cmpB ?_)
      repeat infer_instance
      refine ⟨fun z => ?_, fun _ => ?_⟩
      · have z := of_decide_eq_true z
        cases z
      refine wf_if (wp_cmpB ?_)
      repeat infer_instance
      refine ⟨fun _ => ?_, fun z => absurd rfl (of_decide_eq_false z)⟩
      refine wf_asg (wp_addL (wp_v rfl ?_))
      have I4 := I3.app gg
      refine wp_op2 (wp_meth (wp_v rfl ⟨cuN, cuF bd c, fk I4.ob, rfl, wp_cons (wp_op2 (wp_v rfl (wp_c (gw_ix2T (wp_nil ⟨rfl, ?_⟩)))))⟩))
      refine hgo _ _ hok1.2.1 (by simp only [Rw.wt] at hwt1; omega) (fun x hx => hnm x (hnm1 x (List.mem_append_left _ hx))) hop (by omega) (by omega) eu (by omega) I4 fun S5 kn5 f5 I5 => ?_
      obtain ⟨S6, rfl, f6⟩ := fr_split (by rw [hl3]; exact hcS) f5
      have I6 : CtI A B ν bd c kn5 op S6 := I5.cut (by rw [f6.1, hl3]; exact hcS)
      have hl6 : S6.length = S3.length := f6.1
      have hc6 : (S6 ++ gg)[m]? = some (.lst acc) := by
        rw [List.getElem?_append_right (by omega), hl6, ← List.getElem?_append_right (by omega)]
        exact hcell3
      have hc7 : ((S6 ++ gg) ++ [Cell.lst (spl σ t')])[m]? = some (.lst acc) := by
        rw [List.getElem?_append_left (List.getElem?_eq_some_iff.mp hc6).1]
        exact hc6
      have hll : (spl σ t').length = u := by
        have := spl_lenA hlen t' 0 u eu
        omega
      refine wp_op2 (wp_v rfl (wp_c (gw_ix1T ?_)))
      rw [hqi]
      refine mul_rep (g := []) (ds := spl σ t') (by omega) ?_ (by simp [hl6]) ?_
      · rw [hll]
        have := Nat.mul_comm u q
        omega
      refine ⟨acc, _, asL_at hc7, rfl, ?_, ?_⟩
      · rw [rep_len, hll]
        omega
      rw [List.append_assoc, List.append_assoc]
      refine done (y3 := some _) (acc' := acc ++ (List.replicate q (spl σ t')).flatten) ?_ ?_ ?_ I6 (fx.trans f6)
      · rw [List.length_append, List.length_append]
        omega
      · rw [List.getElem?_append_right (by simp), List.getElem?_append_right (by simp)]
        simp
      · rfl
  · rintro δ S0 ⟨a, m, rest, acc, kn1, y3, S1, gg, rfl, rfl, hm, hcell, hits, hok1, hwt1, hnm1, hhg, hcnt, ha, hacc, hal, I1, f1⟩
    rw [List.drop_length] at hits
    have er : rest = .nil := by
      cases rest with
      | nil => rfl
      | _ => cases hits
    subst er
    have hacc : acc = spl σ t := by rw [← hacc]; simp [spl]
    subst hacc
    refine wf_ret (wp_v rfl ?_)
    exact wp_finOG hm hcell (hdS_ok hσk t) f1.1 (I1.settles f1) (k S1 kn1 f1 I1)
theorem so_all (hB : B.Ok) (hν : ∀ x ∈ B.bn, ν x = cntR ν (B.tr x) 0) (hσ : ∀ x ∈ B.bn, σ x = spl σ (B.tr x)) (hσk : ∀ x, okL 0 (σ x) = true) (hlen : ∀ x v, ν x = some v → (σ x).length = v) : ∀ n : Nat, SoRow A B ν σ (grp_Counter_set_out A n) n
  | 0 => fun t bd c b v kn op S Q X _ _ _ _ hn => by have := hgt_pos (H := B.H) t; omega
  | n + 1 => so_row hB hν hσ hσk hlen (so_all hB hν hσ hσk hlen n)
theorem spelled_wd {most : Int} (hB : B.Ok) (hν : ∀ x ∈ B.bn, ν x = cntR ν (B.tr x) 0) (hσ : ∀ x ∈ B.bn, σ x = spl σ (B.tr x)) (hσk : ∀ x, okL 0 (σ x) = true) (hlen : ∀ x v, ν x = some v → (σ x).length = v) (ht : RwI B t) (hbk : BkArg B S bd) (hm : most ≤ 400)
    (k : ∀ v : Nat, cntR ν t 0 = some v → (v : Int) ≤ most → Q (.loc S.length) (S ++ [.lst (spl σ t)])) (k2 : ∀ v : Nat, cntR ν t 0 = some v → most < (v : Int) → X (xMany A (.int most)) S) (kx : cntR ν t 0 = none → X (xCap A) S) : wp (φspelled A [tD t, bd, .int most] S) Q X := by
  obtain ⟨b, hb⟩ := rk_all B (nmR t)
  have hrow := (ct_all (A := A) hB hν 40).2.1
  have hso := so_all (A := A) hB hν hσ hσk hlen 40
  have hlook : ∀ {S : Store} {Q : SL.D → Store → Prop} {X : Ex → Store → Prop}, Q .non S → wp (φlook_row A [tD t] S) Q X := fun k => look_row_wd ht.ok ht.wt ht.dp ht.row k
  have hgo := fun {bd : SL.D} (hbk : BkS B S bd) => hrow t bd S.length b [] [] (S ++ [cuC A bd S.length, .dct [] [], .lst []]) ht.ok ht.wt (fun x hx => ⟨ht.nm x hx, hb x hx⟩) (fun y hy => (by cases hy)) ht.hgt (ct_new hbk)
  have hgs := fun {bd : SL.D} {v : Nat} {kn : List (List Nat)} {S' : Store} {Q : SL.D → Store → Prop} {X : Ex → Store → Prop} => hso t bd S.length b v kn [] S' Q X ht.ok ht.wt (fun x hx => ⟨ht.nm x hx, hb x hx⟩) (fun y hy => (by cases hy)) ht.hgt ht.hgt
  generalize tD t = td at hlook hgo hgs ⊢
  refine wp_defO ?_
  simp only [startD, List.map_cons, List.map_nil, List.length_cons, List.length_nil, Nat.reduceAdd, Nat.reduceSub, List.replicate_succ, List.replicate_zero, List.cons_append, List.nil_append, Nat.zero_add]
  unfold m_spelled
  refine wf_seq (wf_expr (wp_appA (wp_cons (wp_v rfl (wp_nil ⟨rfl, hlook ?_⟩)))))
  refine wf_seq (wf_asg (wp_make (wp_cons (book_if rfl hbk fun bd' hbk' => wp_nil ⟨rfl, ct_init ⟨rfl, ?_⟩⟩))))
  refine wf_seq (wf_if (wp_cmpB (wp_meth (wp_v rfl ⟨cuN, cuF bd' S.length, asO_loc (by simp), rfl, wp_cons (wp_v rfl (wp_nil ⟨rfl, ?_⟩))⟩))))
  refine wp_mono (hgo hbk') (fun d S3 hd => ?_) fun xx S3 hx3 => ?_
  · obtain ⟨v, kn3, ev, rfl, I3, f3, n3⟩ := hd
    obtain ⟨vi, hvi⟩ : ∃ vi : Int, vi = ((v : Nat) : Int) := ⟨_, rfl⟩
    rw [← hvi]
    refine wp_v rfl (gb_gtI ⟨fun z => ?_, fun z => wf_nxM ?_⟩)
    · have z := of_decide_eq_true z
      obtain ⟨g, rfl⟩ := fr_app f3
      refine wf_raise (wp_mkx (wp_cons (wp_v rfl (wp_nil ⟨⟨rfl, rfl⟩, ?_⟩))))
      exact wp_finX rfl rfl Settles.same (k2 v ev (by omega))
    · have z := of_decide_eq_false z
      refine wf_ret (wp_meth (wp_v rfl ⟨cuN, cuF bd' S.length, asO_loc I3.ob, rfl, wp_cons (wp_v rfl (wp_nil ⟨rfl, ?_⟩))⟩))
      refine hgs ev (by omega) I3 fun S4 kn4 f4 I4 => ?_
      obtain ⟨g, rfl⟩ := fr_app (f3.trans f4)
      have hl4 := f4.1
      rw [List.append_assoc]
      refine wp_finO (m := S3.length) ?_ ?_ (hdS_ok hσk t) (k v ev (by omega))
      · rw [f3.1]
        simp
      · rw [← List.append_assoc, ← hl4]
        simp
  · obtain ⟨ev, rfl, f3⟩ := hx3
    obtain ⟨g, rfl⟩ := fr_app f3
    exact wp_finX rfl rfl Settles.same (kx ev)
end
end NC
namespace SL
open PySem PySem.Spec L2
section
variable {δ : DEnv} {S : Store} {Q : D → Store → Prop} {X : Ex → Store → Prop} {ma mb : ME} {C : Addr} {φ : Fn} {neg : Bool}
end
end SL
namespace NC
open PySem PySem.Spec L2 SL Hal
local macro_rules
  | `(tactic| infer_instance) => `(tactic| first
    | ((with_reducible first
        | refine wf_seq ?_ | refine wf_if ?_ | refine wp_ifM ?_ | refine wp_appN ?_ | refine wf_asg ?_ | refine wf_ret ?_ | refine wf_retN ?_ | refine wf_expr ?_ | refine wf_nxM ?_ | refine wf_ctM ?_ | refine wf_bkM ?_ | refine wf_asgT ?_ | refine wf_raise ?_
        | refine wp_op2 ?_ | refine wp_op1 ?_ | refine wp_callG ?_ | refine wp_cons ?_ | refine wp_nil ?_ | refine wp_c ?_ | refine wp_cmpB ?_ | refine wp_trM ?_ | refine wp_notB ?_ | refine wp_andB ?_ | refine wp_orB ?_ | refine wp_andM ?_ | refine wp_orM ?_ | refine wp_notM ?_ | refine wp_ch ?_ | refine wp_sl ?_ | refine wp_soO ?_ | refine wp_noO ?_ | refine wp_fmt ?_ | refine wp_callKG ?_ | refine wp_yes ?_ | refine wp_mkx ?_ | refine wp_bM ?_ | refine wp_freeze ?_ | refine wf_par ?_ | refine wf_asgU ?_
        | refine gw_addI ?_ | refine gw_subI ?_ | refine gw_ltI ?_ | refine gw_leI ?_ | refine gw_gtI ?_ | refine gw_geI ?_ | refine gw_eqI ?_ | refine gw_neI ?_ | refine gw_eqS ?_ | refine gw_neS ?_ | refine gw_inC ?_ | refine gw_ninC ?_ | refine gw_ltS ?_ | refine gw_inL ?_ | refine gw_ninL ?_ | refine gw_sorted ?_ | refine gw_sortedT ?_ | refine gw_keys ?_ | refine gw_eqB ?_ | refine gw_neB ?_
        | refine gb_ltI ?_ | refine gb_leI ?_ | refine gb_gtI ?_ | refine gb_geI ?_ | refine gb_eqI ?_ | refine gb_neI ?_ | refine gb_eqS ?_ | refine gb_neS ?_ | refine gb_inC ?_ | refine gb_ninC ?_ | refine gb_inL ?_ | refine gb_ninL ?_ | refine gb_bl ?_ | refine gt_bl ?_ | refine gt_int ?_ | refine gt_lst ?_ | refine gt_tup ?_
        | refine gw_asI ?_ | refine gw_slT ?_ | refine gw_slL ?_ | refine gw_lenL ?_ | refine gw_lenT ?_ | refine gw_tuple ?_ | refine gw_tupleT ?_ | refine gw_tupleEnd ?_ | refine gw_lenEnd ?_ | refine gw_all ?_ | refine gw_any ?_ | refine gw_sum ?_ | refine gw_intI ?_ | refine gw_intB ?_ | refine gw_ix0L ?_ | refine gw_ix0T ?_ | refine gw_ix1L ?_ | refine gw_ix1T ?_ | refine gw_ix2L ?_ | refine gw_ix2T ?_))
    | ((with_reducible apply wp_v); (· rfl))
    | (with_reducible refine wp_appA ?_)
    | (with_reducible refine wp_mtS ?_)
    | (refine wp_fO (by rfl) (by rfl) ?_)
    | (refine wp_mO (by rfl) (by rfl) ?_)
    | (with_reducible first | refine gw_addS ?_ | refine gw_addL ?_ | refine gw_addT ?_ | refine gw_mulR ?_ | refine gw_mulL ?_ | refine gw_modI ?_ | refine gw_fdivI ?_ | refine gw_tup ?_ | refine gw_lst ?_ | refine gw_lenS ?_ | refine gw_slTo ?_ | refine gw_slFrom ?_ | refine gw_slFT ?_ | refine gw_slS ?_ | refine gw_pow ?_ | refine gw_swap ?_ | refine gw_isup ?_ | refine gw_upper1 ?_ | refine gw_lower1 ?_ | refine gw_upper ?_ | refine gw_lower ?_ | refine gw_str ?_ | refine gw_mulS ?_)
    | (refine ⟨rfl, ?_⟩))
  | `(tactic| sizeOf_list_dec) => `(tactic| (refine wp_def ?_; simp only [startD, List.map_cons, List.map_nil, List.length_cons, List.length_nil, Nat.reduceAdd, Nat.reduceSub, List.replicate_succ, List.replicate_zero, List.cons_append, List.nil_append, Nat.zero_add]))
def entC (w : Nat) : Cel → List Nat
  | .fix true => [61, w]
  | .fix false => [61, swL w]
  | .of s => [s]
def thC (ws : List Nat) (E1 E2 : List (List Nat)) (w : Nat) : Cel := match atW ws E2 w with
  | [s] => hol ws E1 s
  | e => .fix (decide (e = [61, w]))
def thenE (ws : List Nat) (E1 E2 : List (List Nat)) : List (List Nat) := ws.map fun w => entC w (thC ws E1 E2 w)
theorem celOf_ent {w : Nat} (h : swL w ≠ w) : ∀ z : Cel, celOf w (entC w z) = z
  | .fix true => by
    show Cel.fix (decide ([61, w] = [61, w])) = _
    rw [decide_eq_true rfl]
  | .fix false => by
    show Cel.fix (decide ([61, swL w] = [61, w])) = _
    rw [decide_eq_false fun z => ?_]
    injection z with _ z
    injection z with z
    exact h z
  | .of s => rfl
theorem thC_inn {E1 E2 : List (List Nat)} {w : Nat} (hw : Wls ws) (h1 : EsOk ws E1) (h2 : EsOk ws E2) (hr : Rm ws r) (hm : w ∈ ws) : (thC ws E1 E2 w).inn r = (cel ws E2 w).inn (ldT ws E1 r) := by
  obtain ⟨_, _, _, _, hent⟩ := h2.at hm
  unfold thC cel
  rcases hent with ⟨s, e, hs⟩ | e | e <;> rw [e]
  · show (hol ws E1 s).inn r = decide (s ∈ ldT ws E1 r)
    rw [Bool.eq_iff_iff, decide_eq_true_iff]
    exact (mem_ld hw h1 hr hs).symm
  · rfl
  · rfl
theorem then_ld {E1 E2 : List (List Nat)} (hw : Wls ws) (h1 : EsOk ws E1) (h2 : EsOk ws E2) (hr : Rm ws r) : ldT ws (thenE ws E1 E2) r = ldT ws E2 (ldT ws E1 r) := by
  unfold ldT
  refine List.map_congr_left fun w hm => ?_
  have e : (cel ws (thenE ws E1 E2) w).inn r = (cel ws E2 w).inn (ldT ws E1 r) := by
    unfold cel thenE
    rw [atW_map hm, celOf_ent (sw_ne hw (sd_small hw hm).1)]
    exact thC_inn hw h1 h2 hr hm
  rw [e]
  rfl
theorem then_es {E1 E2 : List (List Nat)} (hw : Wls ws) (h1 : EsOk ws E1) (h2 : EsOk ws E2) : EsOk ws (thenE ws E1 E2) := esOk_map fun w hm => by
  have ok : (thC ws E1 E2 w).ok ws := by
    obtain ⟨_, _, _, _, hent⟩ := h2.at hm
    unfold thC
    rcases hent with ⟨s, e, hs⟩ | e | e <;> rw [e]
    · exact hol_ok hw h1 hs
    · exact trivial
    · exact trivial
  cases hz : thC ws E1 E2 w with
  | fix b => cases b with
    | true => exact .inr (.inl rfl)
    | false => exact .inr (.inr rfl)
  | of s =>
    rw [hz] at ok
    exact .inl ⟨s, rfl, ok⟩
section
variable {A : Ad} {U S S' : Store} {Q : SL.D → Store → Prop} {X : Ex → Store → Prop} {ws : List Nat} {c d : Nat} {bars : List (List Nat)} {F : Nat → List Nat} {P r g t x y e : List Nat} {E E1 E2 : List (List Nat)} {n : Nat} {to hd dE : SL.D}
structure Tb (ws : List Nat) (bars E : List (List Nat)) : Prop where
  es : EsOk ws E
  rm : ∀ r ∈ lawR ws bars, ldT ws E r ∈ lawR ws bars
theorem Tb.still (hw : Wls ws) : Tb ws bars (stillE ws) := ⟨still_es hw, fun r hr => by rw [still_ld hw ((lawR_mem hw).mp hr).1]; exact hr⟩
theorem Tb.turn (hw : Wls ws) (hb : Brs ws bars) (h : TrnH ws bars t) : Tb ws bars (backE ws t) := ⟨back_es hw h.1, fun r hr => by rw [back_ld hw h.1 ((lawR_mem hw).mp hr).1]; exact im_room hw hb h hr⟩
theorem Tb.then (hw : Wls ws) (h1 : Tb ws bars E1) (h2 : Tb ws bars E2) : Tb ws bars (thenE ws E1 E2) := ⟨then_es hw h1.es h2.es, fun r hr => by
  rw [then_ld hw h1.es h2.es ((lawR_mem hw).mp hr).1]
  exact h2.rm _ (h1.rm r hr)⟩
inductive Stp where
  | call (P : List Nat)
  | turn (t : List Nat)
def Stp.Ok (ws : List Nat) (bars : List (List Nat)) : Stp → Prop
  | .call P => Clo ws bars P
  | .turn t => TrnH ws bars t
noncomputable def stpE (ws : List Nat) (bars : List (List Nat)) : Stp → List (List Nat)
  | .call P => callE ws (clo ws bars P)
  | .turn t => backE ws t
noncomputable def tabE (ws : List Nat) (bars : List (List Nat)) (sts : List Stp) : List (List Nat) := sts.foldl (fun E s => thenE ws E (stpE ws bars s)) (stillE ws)
theorem clo_sd (C : Clo ws bars P) (hc : c ∈ clo ws bars P) : Sd ws c := by
  obtain ⟨q, hq, e⟩ := (C.mem c).mp hc
  exact rch_sd (C.pt.1 q hq) e
theorem Tb.step (hw : Wls ws) (hb : Brs ws bars) {s : Stp} (h : s.Ok ws bars) : Tb ws bars (stpE ws bars s) := by
  cases s with
  | turn t => exact Tb.turn hw hb h
  | call P =>
    refine ⟨call_es hw, fun r hr => ?_⟩
    show ldT ws (callE ws (clo ws bars P)) r ∈ _
    have C : Clo ws bars P := h
    rw [call_ld hw ((lawR_mem hw).mp hr).1 C.cl (fun s hs => clo_sd C hs)]
    exact ld_in hw hb C hr
theorem snoc_indG {α : Type} {P : List α → Prop} (h0 : P []) (h1 : ∀ xs x, P xs → P (xs ++ [x])) (l : List α) : P l := by
  rw [← List.reverse_reverse l]
  induction l.reverse with
  | nil => exact h0
  | cons a l ih => rw [List.reverse_cons]; exact h1 _ _ ih
theorem tab_snoc {sts : List Stp} {s : Stp} : tabE ws bars (sts ++ [s]) = thenE ws (tabE ws bars sts) (stpE ws bars s) := by simp [tabE, List.foldl_append]
theorem Tb.tab (hw : Wls ws) (hb : Brs ws bars) (sts : List Stp) : (∀ s ∈ sts, s.Ok ws bars) → Tb ws bars (tabE ws bars sts) := by
  induction sts using snoc_indG with
  | h0 => exact fun _ => Tb.still hw
  | h1 sts s ih =>
    intro h
    rw [tab_snoc]
    exact Tb.then hw (ih fun z hz => h z (List.mem_append_left _ hz)) (Tb.step hw hb (h s (by simp)))
end
section
variable {A : Ad} {U S S' : Store} {Q : SL.D → Store → Prop} {X : Ex → Store → Prop} {ws : List Nat} {c d : Nat} {bars : List (List Nat)} {F : Nat → List Nat} {P r g t x y e : List Nat} {E E1 E2 : List (List Nat)} {n : Nat} {to hd dE : SL.D}
def itF {α : Type} (f : α → α) : Nat → α → α
  | 0, x => x
  | n + 1, x => itF f n (f x)
theorem itF_add {α : Type} (f : α → α) : ∀ (a b : Nat) (x : α), itF f (a + b) x = itF f b (itF f a x)
  | 0, b, x => by rw [Nat.zero_add]; rfl
  | a + 1, b, x => by
    rw [show a + 1 + b = (a + b) + 1 by omega]
    exact itF_add f a b (f x)
structure Tm (ws : List Nat) (bars E : List (List Nat)) (n : Nat) (E' : List (List Nat)) : Prop where
  tb : Tb ws bars E'
  ld : ∀ r ∈ lawR ws bars, ldT ws E' r = itF (ldT ws E) n r
theorem Tm.then {a b : Nat} (hw : Wls ws) (h1 : Tm ws bars E a E1) (h2 : Tm ws bars E b E2) : Tm ws bars E (a + b) (thenE ws E1 E2) := ⟨Tb.then hw h1.tb h2.tb, fun r hr => by
  rw [then_ld hw h1.tb.es h2.tb.es ((lawR_mem hw).mp hr).1, h2.ld _ (h1.tb.rm r hr), h1.ld r hr, itF_add]⟩
end
section
variable {A : Ad} {U S S0 S' : Store} {Q : SL.D → Store → Prop} {X : Ex → Store → Prop} {ws : List Nat} {c d : Nat} {bars : List (List Nat)} {F : Nat → List Nat} {P r g t x y e : List Nat} {E E1 E2 : List (List Nat)} {n : Nat} {to hd dE : SL.D}
end
section
variable {A : Ad} {U S S' S1 S2 : Store} {Q : SL.D → Store → Prop} {X : Ex → Store → Prop} {d : SL.D} {ds : List SL.D}
def NmOk (x : List Nat) : Prop := 1 ≤ x.length ∧ x.length ≤ 8 ∧ ∀ c ∈ x, c ∈ s_SMALL
def nmOf (st : List Nat) (q a k : Nat) : List Nat := st.take q ++ [lets.getD ((a + 7 * k) % 26) 0] ++ st.drop q
theorem lets_nd : ∀ i : Nat, i < 26 → ∀ j : Nat, j < 26 → lets.getD i 0 = lets.getD j 0 → i = j := by decide
theorem mod7 : ∀ a : Nat, a < 26 → ∀ i : Nat, i < 26 → ∀ j : Nat, j < 26 → (a + 7 * i) % 26 = (a + 7 * j) % 26 → i = j := by
  intro a _ i hi j hj e
  omega
theorem nmOf_inj {st : List Nat} {q a i j : Nat} (ha : a < 26) (hi : i < 26) (hj : j < 26) (e : nmOf st q a i = nmOf st q a j) : i = j := by
  unfold nmOf at e
  have e := List.append_cancel_right e
  have e := List.append_cancel_left e
  have e := List.cons.inj e
  exact mod7 a ha i hi j hj (lets_nd _ (Nat.mod_lt _ (by decide)) _ (Nat.mod_lt _ (by decide)) e.1)
theorem lets_get {i : Nat} (h : i < 26) : lets[i]? = some (lets.getD i 0) ∧ lets.getD i 0 ∈ lets := by
  have hl : lets.length = 26 := rfl
  have e : lets.getD i 0 = lets[i]'(by omega) := by
    rw [List.getD_eq_getElem?_getD, List.getElem?_eq_getElem (by omega)]
    rfl
  rw [e]
  exact ⟨List.getElem?_eq_getElem (by omega), List.getElem_mem _⟩
theorem nmOf_ok {c q r a k : Nat} (hc : c ∈ lets) (hr : r < 7) : NmOk (nmOf (List.replicate r c) q a k) := by
  have hm := (lets_get (Nat.mod_lt (a + 7 * k) (y := 26) (by decide))).2
  refine ⟨?_, ?_, fun z hz => ?_⟩
  · unfold nmOf
    simp only [List.length_append, List.length_cons, List.length_nil]
    omega
  · unfold nmOf
    simp only [List.length_append, List.length_cons, List.length_nil, List.length_take, List.length_drop, List.length_replicate]
    omega
  · have hs : ∀ z ∈ lets, z ∈ s_SMALL := fun z h => h
    unfold nmOf at hz
    rcases List.mem_append.mp hz with hz | hz
    · rcases List.mem_append.mp hz with hz | hz
      · rw [(List.mem_replicate.mp (List.mem_of_mem_take hz)).2]
        exact hs c hc
      · rw [List.mem_singleton.mp hz]
        exact hs _ hm
    · rw [(List.mem_replicate.mp (List.mem_of_mem_drop hz)).2]
      exact hs c hc
theorem names_wd {m : Nat} (hm : m ≤ 26) (h : Dw U S) (k : ∀ (ns : List (List Nat)) S', Dw U S' → ns.length = m → ns.Nodup → (∀ x ∈ ns, NmOk x) → Q (.lst (ns.map SL.D.str)) S') : wp (φlaw_names A [.loc 0, .int (m : Int)] S) Q X := by
  sizeOf_list_dec
  unfold m_law_names
  refine wf_seq (wf_asg ?_)
  repeat infer_instance
  refine letters_wd ?_
  repeat infer_instance
  refine wd_draw h (by decide) (by decide) fun i S1 d1 hi => ?_
  obtain ⟨e1, e2⟩ := lets_get (i := i) (by omega)
  refine gw_ixS e1 ?_
  generalize lets.getD i 0 = c at e2
  repeat infer_instance
  refine wd_draw d1 (by decide) (by decide) fun r S2 d2 hr => ?_
  refine gw_mulS (n := r) ?_
  have ec : (List.replicate r [c]).flatten = List.replicate r c := by
    have : ∀ r : Nat, (List.replicate r [c]).flatten = List.replicate r c := fun r => by
      induction r with
      | zero => rfl
      | succ r ih => rw [List.replicate_succ, List.flatten_cons, ih]; rfl
    exact this r
  rw [ec]
  refine wf_seq (wf_asg ?_)
  repeat infer_instance
  refine gw_lenS ?_ (by rw [List.length_replicate]; omega)
  rw [List.length_replicate]
  repeat infer_instance
  refine wd_draw d2 (by omega) (by omega) fun q S3 d3 hq => ?_
  refine wf_seq (wf_asg ?_)
  repeat infer_instance
  refine wd_draw d3 (by decide) (by decide) fun a S4 d4 ha => ?_
  refine wf_ret ?_
  refine wp_compE (List.range m) (fun i => .int (0 + (i : Int) * 1)) (nmOf (List.replicate r c) q a) SL.D.str ?_
  refine wp_src1 (wp_v rfl ⟨_, rfl, by rw [Int.natAbs_natCast]; omega, fun _ => rfl, by rw [List.length_range]; omega, fun j hj acc => ?_, ?_⟩)
  · have hj := List.mem_range.mp hj
    refine gw_bind ?_
    have hst : (List.replicate r c).length = r := List.length_replicate
    refine wp_op2 (wp_op2 ?_)
    repeat infer_instance
    refine letters_wd ?_
    repeat infer_instance
    have ei : (((a : Nat) : Int) + 7 * (0 + ((j : Nat) : Int) * 1)) % 26 = (((a + 7 * j) % 26 : Nat) : Int) := by omega
    rw [ei]
    refine gw_ixS (lets_get (Nat.mod_lt _ (by decide))).1 ?_
    refine gw_addS ?_ (by simp only [List.length_take, List.length_cons, List.length_nil]; omega)
    repeat infer_instance
    rfl
  · refine wp_fin (ok_strs _) (d4.len.trans h.len.symm) (k _ S4 d4 (by simp) ?_ fun x hx => ?_)
    · refine List.pairwise_map.mpr (List.nodup_range.imp_of_mem fun {i j} hi hj hne e => hne ?_)
      exact nmOf_inj (by omega) (by have := List.mem_range.mp hi; omega) (by have := List.mem_range.mp hj; omega) e
    · obtain ⟨j, _, rfl⟩ := List.mem_map.mp hx
      exact nmOf_ok e2 (by omega)
theorem number_le (h : Dw U S) (k : ∀ (n : Nat) S', n ≤ 10 ^ 30 → Dw U S' → Q (.int (n : Int)) S') : wp (φlaw_number A [.loc 0] S) Q X := by
  sizeOf_list_dec
  unfold m_law_number
  repeat infer_instance
  refine wd_draw h (by decide) (by decide) fun n1 S1 d1 hn1 => ?_
  repeat infer_instance
  refine wd_draw d1 (by decide) (by decide) fun n2 S2 d2 hn2 => ?_
  repeat infer_instance
  refine wd_draw d2 (by decide) (by decide) fun n3 S3 d3 hn3 => ?_
  repeat infer_instance
  refine of_wd d3 rfl (fun d S4 d4 hd => ?_)
  have e : ∃ n : Nat, n ≤ 10 ^ 30 ∧ d = .int (n : Int) := by
    have c9 : (10 : Int) ^ (9 : Int).toNat = ((10 ^ 9 : Nat) : Int) := by decide
    have c30 : (10 : Int) ^ (30 : Int).toNat = ((10 ^ 30 : Nat) : Int) := by decide
    have c6 : (10 : Int) ^ (6 : Int).toNat = 1000000 := by decide
    have b30 : 2000000000 ≤ 10 ^ 30 := by decide
    simp only [List.mem_cons, List.not_mem_nil, or_false] at hd
    rcases hd with rfl | rfl | rfl | rfl | rfl | rfl | rfl
    · exact ⟨0, by decide, rfl⟩
    · exact ⟨1, by decide, rfl⟩
    · exact ⟨2, by decide, rfl⟩
    · exact ⟨3, by decide, rfl⟩
    · exact ⟨n1, by omega, rfl⟩
    · refine ⟨10 ^ 9 + n2, ?_, by rw [c9]; rfl⟩
      have : n2 < 1000000 := by omega
      have h9 : (10 ^ 9 : Nat) = 1000000000 := by decide
      omega
    · refine ⟨10 ^ 30 - n3, Nat.sub_le _ _, ?_⟩
      rw [c30]
      congr 1
      omega
  obtain ⟨n, hn, rfl⟩ := e
  exact wp_fin rfl (d4.len.trans h.len.symm) (k n S4 hn d4)
theorem gw_tupA (e : asL S d = some ds) {PP : SL.D → Prop} (k : PP (.tup ds)) : GW (tupleG S [d]) PP := by
  refine ⟨_, ?_, k⟩
  cases d with
  | lst xs => cases e; rfl
  | loc n =>
    show (match asL S (.loc n) with | some ds => some (SL.D.tup ds) | none => none) = _
    rw [e]
  | _ => cases e
theorem flat_wd (e : asL S d = some ds) (hok : okL 0 ds = true) (k : Q (.tup [.str w_steps, .tup ds]) S) : wp (φlaw_flat_tree A [d] S) Q X := by
  sizeOf_list_dec
  unfold m_law_flat_tree
  refine wf_ret ?_
  refine wp_callG (wp_cons (wp_c ?_))
  refine wp_cons (wp_callG (wp_cons (wp_v rfl (wp_nil (gw_tupA e ?_)))))
  refine wp_nil (gw_tup ?_ (by simp))
  exact wp_fin (by simp only [okD, okL, hok, Bool.and_self]) rfl k
end
section
variable {A : Ad} {U S S' S1 S2 : Store} {Q : SL.D → Store → Prop} {X : Ex → Store → Prop} {B : Bok} {ν : List Nat → Option Nat} {bd : SL.D} {c b n : Nat} {kn : List (List Nat)} {t : Rw}
def appR : Rw → Rw → Rw
  | .nil, u => u
  | .call x r, u => .call x (appR r u)
  | .turn x r, u => .turn x (appR r u)
  | .row x r, u => .row x (appR r u)
  | .times n t r, u => .times n t (appR r u)
theorem app_its (u : Rw) : ∀ t : Rw, (appR t u).its = t.its ++ u.its
  | .nil => rfl
  | .call _ r => congrArg (_ :: ·) (app_its u r)
  | .turn _ r => congrArg (_ :: ·) (app_its u r)
  | .row _ r => congrArg (_ :: ·) (app_its u r)
  | .times _ _ r => congrArg (_ :: ·) (app_its u r)
theorem app_ok {u : Rw} (hu : u.ok) : ∀ t : Rw, t.ok → (appR t u).ok
  | .nil, _ => hu
  | .call _ r, h => ⟨h.1, h.2.1, app_ok hu r h.2.2⟩
  | .turn _ r, h => ⟨h.1, h.2.1, h.2.2.1, app_ok hu r h.2.2.2⟩
  | .row _ r, h => ⟨h.1, h.2.1, h.2.2.1, app_ok hu r h.2.2.2⟩
  | .times _ t r, h => ⟨h.1, h.2.1, app_ok hu r h.2.2⟩
theorem app_nm (u : Rw) : ∀ t : Rw, nmR (appR t u) = nmR t ++ nmR u
  | .nil => rfl
  | .call _ r => app_nm u r
  | .turn _ r => app_nm u r
  | .row x r => congrArg (x :: ·) (app_nm u r)
  | .times _ t r => by simp only [appR, nmR, app_nm u r, List.append_assoc]
theorem app_hgt {H : List Nat → Nat} (u : Rw) : ∀ t : Rw, hgtR H (appR t u) ≤ max (hgtR H t) (hgtR H u)
  | .nil => by simp only [appR, hgtR]; omega
  | .call _ r => by have := app_hgt (H := H) u r; simp only [appR, hgtR]; omega
  | .turn _ r => by have := app_hgt (H := H) u r; simp only [appR, hgtR]; omega
  | .row _ r => by have := app_hgt (H := H) u r; simp only [appR, hgtR]; omega
  | .times _ _ r => by have := app_hgt (H := H) u r; simp only [appR, hgtR]; omega
theorem app_cnt (u : Rw) : ∀ t : Rw, (appR t u).cnt = t.cnt + u.cnt
  | .nil => by simp [appR, Rw.cnt]
  | .call _ r => by have := app_cnt u r; simp only [appR, Rw.cnt]; omega
  | .turn _ r => by have := app_cnt u r; simp only [appR, Rw.cnt]; omega
  | .row _ r => by have := app_cnt u r; simp only [appR, Rw.cnt]; omega
  | .times _ _ r => by have := app_cnt u r; simp only [appR, Rw.cnt]; omega
theorem app_dp (u : Rw) : ∀ t : Rw, (appR t u).dp = max t.dp u.dp
  | .nil => by simp [appR, Rw.dp]
  | .call _ r => by have := app_dp u r; simp only [appR, Rw.dp]; omega
  | .turn _ r => by have := app_dp u r; simp only [appR, Rw.dp]; omega
  | .row _ r => by have := app_dp u r; simp only [appR, Rw.dp]; omega
  | .times _ _ r => by have := app_dp u r; simp only [appR, Rw.dp]; omega
theorem strI_len {n : Nat} (h : n ≤ 10 ^ 30) : (strI (n : Int)).length ≤ 40 := by
  rw [show strI (n : Int) = TL.numL n from TL.tl_num n]
  exact Nat.le_trans (TL.numL_len (k := 31) (by decide) (by omega)) (by decide)
theorem wt_cnt : ∀ t : Rw, t.ok → t.wt ≤ 60 * t.cnt + 1
  | .nil, _ => by simp [Rw.wt, Rw.cnt]
  | .call x r, h => by have := wt_cnt r h.2.2; have := h.1; simp only [Rw.wt, Rw.cnt]; omega
  | .turn x r, h => by have := wt_cnt r h.2.2.2; have := h.2.1; simp only [Rw.wt, Rw.cnt]; omega
  | .row x r, h => by have := wt_cnt r h.2.2.2; have := h.2.1; simp only [Rw.wt, Rw.cnt]; omega
  | .times n t r, h => by
    have := wt_cnt t h.2.1
    have := wt_cnt r h.2.2
    have := strI_len h.1
    simp only [Rw.wt, Rw.cnt]
    omega
theorem isRow_of {t : Rw} (h1 : t.cnt ≤ 60) (h2 : t.dp ≤ 12) : isRow t = true := by
  unfold isRow
  rw [decide_eq_true h1, decide_eq_true h2]
  rfl
abbrev gL (ν : List Nat → Option Nat) : List Nat → SL.D := fun x => match ν x with
  | none => .non
  | some v => .int ((v : Nat) : Int)
abbrev oI : Option Nat → SL.D
  | none => .non
  | some v => .int ((v : Nat) : Int)
def v1R (ν : List Nat → Option Nat) : Rw → Option Nat
  | .row x _ => ν x
  | _ => some 1
structure LcI (B : Bok) (ν : List Nat → Option Nat) (bd : SL.D) (c : Nat) (kn : List (List Nat)) (S : Store) : Prop where
  nd : kn.Nodup
  dk : S[c]? = some (.dct (kn.map kT) (kn.map (gL ν)))
  sub : ∀ x ∈ kn, x ∈ B.bn
  bk : ∀ S' : Store, (∀ i, i < c → S'[i]? = S[i]?) → BkD B S' bd
def LFr (c : Nat) (S S' : Store) : Prop := S'.length = S.length ∧ ∀ i, i ≠ c → S'[i]? = S[i]?
def LcRow (A : Ad) (B : Bok) (ν : List Nat → Option Nat) (φ : Fn) (n : Nat) : Prop := ∀ (t : Rw) (bd : SL.D) (c b : Nat) (kn : List (List Nat)) (S : Store) (Q : SL.D → Store → Prop) (X : Ex → Store → Prop), t.ok → t.wt ≤ 400000 → (∀ x ∈ nmR t, x ∈ B.bn ∧ B.rk x < b) → hgtR B.H t ≤ n → LcI B ν bd c kn S →
  (∀ S' kn', LcI B ν bd c kn' S' → LFr c S S' → (∀ y ∈ kn', y ∈ kn ∨ B.rk y < b) → Q (oI (cntR ν t 0)) S') → wp (φ [bd, .loc c, tD t] S) Q X
theorem lc_row (hB : B.Ok) (hν : ∀ x ∈ B.bn, ν x = cntR ν (B.tr x) 0) {φ : Fn} (h : LcRow A B ν φ n) : LcRow A B ν (defM 6 (m_law_count A φ)) (n + 1) := by
  intro t bd c b kn S Q X hok hwt hnm hn I k
  have hil := its_len t
  generalize htd : tD t = td
  have hix : ∀ {S : Store} {PP : SL.D → Prop}, PP (.tup t.its) → GW (ixG S td (.int 1)) PP := fun k => by rw [← htd]; exact gw_ix1T k
  have hcap : ((10 : Int) ^ (60 : Int).toNat) = ((capN : Nat) : Int) := by decide
  sizeOf_list_dec
  unfold m_law_count
  refine wf_seq (wf_asg (wp_c ?_))
  refine wf_seq ?_
  refine wf_for (fun j δ S' => ∃ (a : Nat) (rest : Rw) (kn' : List (List Nat)) (y4 y5 : Option SL.D), δ = [some bd, some (.loc c), some td, some (.int ((a : Nat) : Int)), y4, y5] ∧ rest.its = t.its.drop j ∧ rest.ok ∧ rest.wt ≤ 400000 ∧ (∀ x ∈ nmR rest, x ∈ nmR t) ∧ hgtR B.H rest ≤ hgtR B.H t ∧ cntR ν rest a = cntR ν t 0 ∧ a ≤ capN ∧ LcI B ν bd c kn' S' ∧ LFr c S S' ∧ ∀ y ∈ kn', y ∈ kn ∨ B.rk y < b) ?_
  refine wp_srcV (wp_op2 (wp_v rfl (wp_c (hix ⟨by simp [iterD, asQ, asL, asT], t.its, fun _ _ _ _ => by simp [items, iterD, asQ, asL, asT], ⟨0, t, kn, _, _, rfl, by simp, hok, hwt, fun x hx => hx, Nat.le_refl _, rfl, Nat.zero_le _, I, ⟨rfl, fun _ _ => rfl⟩, fun y hy => .inl hy⟩, ?_, ?_⟩))))
  · rintro j d hd δ S1 ⟨a, rest, kn1, y4, y5, rfl, hits, hok1, hwt1, hnm1, hhg, hcnt, ha, I1, f1, n1⟩
    have hdr : t.its.drop j = d :: t.its.drop (j + 1) := by
      have hj := (List.getElem?_eq_some_iff.mp hd)
      rw [List.drop_eq_getElem_cons hj.1, hj.2]
    rw [hdr] at hits
    obtain ⟨hc, rfl, htl⟩ := consR_of hits
    -- the end of a turn, off what the step comes to
    have fin : ∀ {V : Option Nat} {kn2 : List (List Nat)} {S2 : Store} {N : DEnv → Store → Prop}, V = hdV ν rest → LcI B ν bd c kn2 S2 → LFr c S1 S2 → (∀ y ∈ kn2, y ∈ kn1 ∨ B.rk y < b) → (∀ (a' : Nat) (y4 y5 : Option SL.D), cntR ν (tlR rest) a' = cntR ν t 0 → a' ≤ capN → N [some bd, some (.loc c), some td, some (.int ((a' : Nat) : Int)), y4, y5] S2) → wf (seqM (ifSM (orB (cmpB isG (vM 5) (cM .non)) (cmpB gtG (op2M addG (vM 3) (vM 5)) (op2M powG (cM (.int 10)) (cM (.int 60))))) (retM (cM .non)) nxM) (asgM 3 (op2M addG (vM 3) (vM 5))) [some bd, some (.loc c), some td, some (.int ((a : Nat) : Int)), some (hdD' rest), some (oI V)] S2) N (fun d S' => wp (finV S d S') Q X) (fun x _ S' => wp (finX S x S') Q X) noB noB := fun {V kn2 S2 N} eV I2 f2 n2 kN => by
      have fx : LFr c S S2 := ⟨f2.1.trans f1.1, fun i hi => (f2.2 i hi).trans (f1.2 i hi)⟩
      have n3 : ∀ y ∈ kn2, y ∈ kn ∨ B.rk y < b := fun y hy => by
        rcases n2 y hy with h | h
        · exact n1 y h
        · exact .inr h
      have ecn := cnt_cons (ν := ν) hc a
      rw [← eV] at ecn
      have none_ : cntR ν t 0 = none → wf (retM (cM .non) [some bd, some (.loc c), some td, some (.int ((a : Nat) : Int)), some (hdD' rest), some (oI V)] S2) N (fun d S' => wp (finV S d S') Q X) (fun x _ S' => wp (finX S x S') Q X) noB noB := fun e => by
        refine wf_ret (wp_c ?_)
        refine wp_fin rfl fx.1 ?_
        have := k S2 kn2 I2 fx n3
        rw [e] at this
        exact this
      cases V with
      | none =>
        refine wf_seq (wf_if (wp_orB (wp_cmpB (wp_v rfl (wp_c ⟨true, rfl, fun _ => ?_, fun z => (by cases z)⟩)))))
        exact ⟨fun _ => none_ (hcnt.symm.trans ecn), fun z => (by cases z)⟩
      | some v =>
        have ecn : cntR ν rest a = if capN < a + v then none else cntR ν (tlR rest) (a + v) := ecn
        have eadd : ((a : Nat) : Int) + ((v : Nat) : Int) = ((a + v : Nat) : Int) := by omega
        refine wf_seq (wf_if (wp_orB (wp_cmpB (wp_v rfl (wp_c ⟨false, rfl, fun z => (by cases z), fun _ => ?_⟩)))))
        refine wp_cmpB (wp_op2 (wp_v rfl (wp_v rfl (gw_addI ?_))))
        rw [eadd]
        obtain ⟨ai, hai⟩ : ∃ ai : Int, ai = ((a + v : Nat) : Int) := ⟨_, rfl⟩
        rw [← hai]
        refine wp_op2 (wp_c (wp_c (gw_pow ?_)))
        rw [hcap]
        refine gb_gtI ⟨fun z => none_ ?_, fun z => wf_nxM ?_⟩
        · have z := of_decide_eq_true z
          rw [← hcnt, ecn, if_pos (by omega)]
        · have z := of_decide_eq_false z
          have hle : ¬ capN < a + v := by omega
          rw [if_neg hle] at ecn
          refine wf_asg (wp_op2 (wp_v rfl (wp_v rfl (gw_addI ?_))))
          rw [eadd]
          exact kN (a + v) _ _ (ecn.symm.trans hcnt) (by omega)
    refine gw_bind ?_
    refine wf_seq (wf_asg (wp_c ?_))
    -- behind the first test
    refine wf_seq (wf_mono (N := fun δ S2 => ∃ kn2, δ = [some bd, some (.loc c), some td, some (.int ((a : Nat) : Int)), some (hdD' rest), some (oI (v1R ν rest))] ∧ LcI B ν bd c kn2 S2 ∧ LFr c S1 S2 ∧ ∀ y ∈ kn2, y ∈ kn1 ∨ B.rk y < b) ?_ ?_ (fun _ _ h => h) (fun _ _ _ h => h) (fun _ _ h => h) (fun _ _ h => h))
    · cases rest with
      | nil => cases hc
      | call x r =>
        refine wf_if (wp_cmpB (wp_op2 (wp_v rfl (wp_c (gw_ix0T (wp_c (gb_eqS ⟨fun z => absurd (of_decide_eq_true z) (by decide), fun _ => wf_nxM ?_⟩)))))))
        exact ⟨kn1, rfl, I1, ⟨rfl, fun _ _ => rfl⟩, fun y hy => .inl hy⟩
      | turn x r =>
        refine wf_if (wp_cmpB (wp_op2 (wp_v rfl (wp_c (gw_ix0T (wp_c (gb_eqS ⟨fun z => absurd (of_decide_eq_true z) (by decide), fun _ => wf_nxM ?_⟩)))))))
        exact ⟨kn1, rfl, I1, ⟨rfl, fun _ _ => rfl⟩, fun y hy => .inl hy⟩
      | times q t' r =>
        refine wf_if (wp_cmpB (wp_op2 (wp_v rfl (wp_c (gw_ix0T (wp_c (gb_eqS ⟨fun z => absurd (of_decide_eq_true z) (by decide), fun _ => wf_nxM ?_⟩)))))))
        exact ⟨kn1, rfl, I1, ⟨rfl, fun _ _ => rfl⟩, fun y hy => .inl hy⟩
      | row x r =>
        obtain ⟨hxb, hxr⟩ := hnm x (hnm1 x (List.mem_cons_self ..))
        have hgt := hB.hgt x hxb
        have hh : hgtR B.H (Rw.row x r) ≤ n + 1 := Nat.le_trans hhg hn
        simp only [hgtR] at hh
        have kl : kn1.length ≤ 1000 := Nat.le_trans (nd_lenG I1.nd I1.sub) hB.len
        refine wf_if (wp_cmpB (wp_op2 (wp_v rfl (wp_c (gw_ix0T (wp_c (gb_eqS ⟨fun _ => ?_, fun z => absurd rfl (of_decide_eq_false z)⟩)))))))
        refine wf_seq (wf_mono (N := fun δ S2 => ∃ kn2, δ = [some bd, some (.loc c), some td, some (.int ((a : Nat) : Int)), some (.tup [.str w_row, .str x]), some (.int 1)] ∧ x ∈ kn2 ∧ LcI B ν bd c kn2 S2 ∧ LFr c S1 S2 ∧ ∀ y ∈ kn2, y ∈ kn1 ∨ B.rk y < b) ?_ ?_ (fun _ _ h => h) (fun _ _ _ h => h) (fun _ _ h => h) (fun _ _ h => h))
        · refine wf_if (wp_cmpB (wp_op2 (wp_v rfl (wp_c (gw_ix1T (wp_v rfl (gb_ninDk (asDct_loc I1.dk) ⟨fun z => ?_, fun z => wf_nxM ?_⟩)))))))
          · have z : x ∉ kn1 := by simpa using z
            refine wf_setD ?_
            refine wp_appA (wp_cons (wp_v rfl (wp_cons (wp_v rfl (wp_cons (wp_op2 (wp_v rfl (wp_op2 (wp_v rfl (wp_c (gw_ix1T (gw_ixDk (I1.bk _ fun _ _ => rfl) hxb (wp_nil ⟨rfl, ?_⟩)))))))))))))
            refine h (B.tr x) bd c (B.rk x) kn1 S1 _ _ (hB.ok x hxb) (hB.wt x hxb) (hB.low x hxb) (by omega) I1 fun S2 kn2 I2 f2 n2 => ?_
            have kl2 : kn2.length ≤ 1000 := Nat.le_trans (nd_lenG I2.nd I2.sub) hB.len
            have hk : x ∉ kn2 := fun hk => by
              rcases n2 x hk with h1 | h1
              · exact z h1
              · omega
            refine wp_v rfl (wp_op2 (wp_v rfl (wp_c (gw_ix1T ⟨c, kn2.map kT, kn2.map (gL ν), kT x, rfl, I2.dk, rfl, by rw [List.length_map]; omega, ?_⟩))))
            have eg : oI (cntR ν (B.tr x) 0) = gL ν x := by
              rw [← hν x hxb]
            rw [eg]
            refine ⟨kn2 ++ [x], rfl, by simp, ⟨?_, ?_, fun y hy => ?_, fun S' hs => I2.bk S' fun i hi => by rw [hs i hi, List.getElem?_set_ne (by omega)]⟩, ⟨by simp [f2.1], fun i hi => by rw [List.getElem?_set_ne (Ne.symm hi)]; exact f2.2 i hi⟩, fun y hy => ?_⟩
            · rw [List.nodup_append]
              exact ⟨I2.nd, by simp, fun p hp q hq e => hk (by rw [List.mem_singleton.mp hq] at e; rw [← e]; exact hp)⟩
            · rw [List.getElem?_set_self (List.getElem?_eq_some_iff.mp I2.dk).1]
              unfold putD
              rw [memK_mapT, decide_eq_false hk]
              simp
            · rcases List.mem_append.mp hy with hy | hy
              · exact I2.sub y hy
              · rw [List.mem_singleton.mp hy]; exact hxb
            · rcases List.mem_append.mp hy with hy | hy
              · rcases n2 y hy with h1 | h1
                · exact .inl h1
                · exact .inr (by omega)
              · rw [List.mem_singleton.mp hy]; exact .inr hxr
          · have z : x ∈ kn1 := by simpa using z
            exact ⟨kn1, rfl, z, I1, ⟨rfl, fun _ _ => rfl⟩, fun y hy => .inl hy⟩
        · rintro δ S2 ⟨kn2, rfl, hk, I2, f2, n2⟩
          refine wf_asg (wp_op2 (wp_v rfl (wp_op2 (wp_v rfl (wp_c (gw_ix1T (gw_ixDk (asDct_loc I2.dk) hk ?_)))))))
          have eg : gL ν x = oI (ν x) := by cases e : ν x <;> simp [oI, gL, e]
          rw [eg]
          exact ⟨kn2, rfl, I2, f2, n2⟩
    rintro δ S2 ⟨kn2, rfl, I2, f2, n2⟩
    -- behind the second test
    refine wf_seq (wf_mono (N := fun δ S3 => ∃ kn3, δ = [some bd, some (.loc c), some td, some (.int ((a : Nat) : Int)), some (hdD' rest), some (oI (hdV ν rest))] ∧ LcI B ν bd c kn3 S3 ∧ LFr c S1 S3 ∧ ∀ y ∈ kn3, y ∈ kn1 ∨ B.rk y < b) ?_ ?_ (fun _ _ h => h) (fun _ _ _ h => h) (fun _ _ h => h) (fun _ _ h => h))
    · cases rest with
      | nil => cases hc
      | call x r =>
        refine wf_if (wp_cmpB (wp_op2 (wp_v rfl (wp_c (gw_ix0T (wp_c (gb_eqS ⟨fun z => absurd (of_decide_eq_true z) (by decide), fun _ => wf_nxM ?_⟩)))))))
        exact ⟨kn2, rfl, I2, f2, n2⟩
      | turn x r =>
        refine wf_if (wp_cmpB (wp_op2 (wp_v rfl (wp_c (gw_ix0T (wp_c (gb_eqS ⟨fun z => absurd (of_decide_eq_true z) (by decide), fun _ => wf_nxM ?_⟩)))))))
        exact ⟨kn2, rfl, I2, f2, n2⟩
      | row x r =>
        refine wf_if (wp_cmpB (wp_op2 (wp_v rfl (wp_c (gw_ix0T (wp_c (gb_eqS ⟨fun z => absurd (of_decide_eq_true z) (by decide), fun _ => wf_nxM ?_⟩)))))))
        exact ⟨kn2, rfl, I2, f2, n2⟩
      | times q t' r =>
        have hh : hgtR B.H (Rw.times q t' r) ≤ n + 1 := Nat.le_trans hhg hn
        simp only [hgtR] at hh
        refine wf_if (wp_cmpB (wp_op2 (wp_v rfl (wp_c (gw_ix0T (wp_c (gb_eqS ⟨fun _ => ?_, fun z => absurd rfl (of_decide_eq_false z)⟩)))))))
        have hq := hok1.1
        have hv : ∀ v, cntR ν t' 0 = some v → v ≤ capN := fun v e => cnt_cap t' (Nat.zero_le _) e
        refine wf_seq (wf_asg (wp_appA (wp_cons (wp_v rfl (wp_cons (wp_v rfl (wp_cons (wp_op2 (wp_v rfl (wp_c (gw_ix2T (wp_nil ⟨rfl, ?_⟩))))))))))))
        refine h t' bd c b kn2 S2 _ _ hok1.2.1 (by simp only [Rw.wt] at hwt1; omega) (fun x hx => hnm x (hnm1 x (List.mem_append_left _ hx))) (by omega) I2 fun S3 kn3 I3 f3 n3 => ?_
        have f4 : LFr c S1 S3 := ⟨f3.1.trans f2.1, fun i hi => (f3.2 i hi).trans (f2.2 i hi)⟩
        have n4 : ∀ y ∈ kn3, y ∈ kn1 ∨ B.rk y < b := fun y hy => by
          rcases n3 y hy with h1 | h1
          · exact n2 y h1
          · exact .inr h1
        have e1 : hdV ν (.times q t' r) = (match cntR ν t' 0 with | none => none | some v => some (q * v)) := rfl
        rw [e1]
        have hd2 : hdD' (.times q t' r) = .tup [.str w_times, .int (q : Int), tD t'] := rfl
        rw [hd2]
        generalize hqi : ((q : Nat) : Int) = qi
        generalize cntR ν t' 0 = V at hv ⊢
        cases V with
        | none =>
          refine wf_asg (wp_ifM (wp_cmpB (wp_v rfl (wp_c ⟨true, rfl, fun _ => wp_c ?_, fun z => (by cases z)⟩))))
          exact ⟨kn3, rfl, I3, f4, n4⟩
        | some v =>
          have hm : ∀ {PP : SL.D → Prop}, PP (.int ((q * v : Nat) : Int)) → GW (mulG S3 (.int ((v : Nat) : Int)) (.int qi)) PP := fun {PP} k => by
            obtain ⟨z, hz, e⟩ := mul_cap (S := S3) (PP := fun z => z = .int ((q * v : Nat) : Int)) hq (hv v rfl) rfl
            refine ⟨_, ?_, k⟩
            rw [← hqi]
            show (if mulOk (v : Int) (q : Int) then some (SL.D.int ((v : Int) * (q : Int))) else none) = _
            have hz : (if mulOk (q : Int) (v : Int) then some (SL.D.int ((q : Int) * (v : Int))) else none) = some z := hz
            by_cases ho : mulOk (q : Int) (v : Int)
            · have ho' : mulOk (v : Int) (q : Int) := by
                rcases ho with (h | h) | h
                · exact .inl (.inr h)
                · exact .inl (.inl h)
                · exact .inr (by omega)
              rw [if_pos ho', Int.mul_comm, Int.natCast_mul]
            · rw [if_neg ho] at hz
              cases hz
          have hfin : ∃ kn3', [some bd, some (SL.D.loc c), some td, some (.int ((a : Nat) : Int)), some (.tup [.str w_times, .int qi, tD t']), some (.int ((q * v : Nat) : Int))] = [some bd, some (.loc c), some td, some (.int ((a : Nat) : Int)), some (.tup [.str w_times, .int qi, tD t']), some (oI (some (q * v)))] ∧ LcI B ν bd c kn3' S3 ∧ LFr c S1 S3 ∧ ∀ y ∈ kn3', y ∈ kn1 ∨ B.rk y < b := ⟨kn3, rfl, I3, f4, n4⟩
          generalize hvi : ((v : Nat) : Int) = vi at hm
          have hoi : oI (some v) = .int vi := by rw [← hvi]
          rw [hoi]
          refine wf_asg (wp_ifM (wp_cmpB (wp_v rfl (wp_c ⟨false, rfl, fun z => (by cases z), fun _ => ?_⟩))))
          refine wp_op2 (wp_v rfl (wp_op2 (wp_v rfl (wp_c (gw_ix1T (hm hfin))))))
    rintro δ S3 ⟨kn3, rfl, I3, f3, n3⟩
    refine wf_mono (fin rfl I3 f3 n3 fun a' y4 y5 e1 e2 => ?_) (fun _ _ h => h) (fun _ _ h => h) (fun _ _ _ h => h) (fun _ _ h => h.elim) (fun _ _ h => h.elim)
    exact ⟨a', tlR rest, kn3, y4, y5, rfl, htl, ok_tl hok1, Nat.le_trans wt_tl hwt1, fun x hx => hnm1 x (nm_tl hx), Nat.le_trans hgt_tl hhg, e1, e2, I3, ⟨f3.1.trans f1.1, fun i hi => (f3.2 i hi).trans (f1.2 i hi)⟩, fun y hy => by
      rcases n3 y hy with h | h
      · exact n1 y h
      · exact .inr h⟩
  · rintro δ S1 ⟨a, rest, kn1, y4, y5, rfl, hits, hok1, hwt1, hnm1, hhg, hcnt, ha, I1, f1, n1⟩
    rw [List.drop_length] at hits
    have er : rest = .nil := by
      cases rest with
      | nil => rfl
      | _ => cases hits
    subst er
    refine wf_ret (wp_v rfl ?_)
    refine wp_fin rfl f1.1 ?_
    have := k S1 kn1 I1 f1 n1
    rw [← hcnt] at this
    exact this
theorem lc_all (hB : B.Ok) (hν : ∀ x ∈ B.bn, ν x = cntR ν (B.tr x) 0) : ∀ n : Nat, LcRow A B ν (grp_law_count A n) n
  | 0 => fun t bd c b kn S Q X _ _ _ hn => by have := hgt_pos (H := B.H) t; omega
  | n + 1 => lc_row hB hν (lc_all hB hν n)
def bkOf (ns : List (List Nat)) (ts : List Rw) : Bok := ⟨ns, fun x => ts.getD (ns.idxOf x) .nil, fun x => ns.idxOf x, fun x => 3 + 5 * ns.idxOf x⟩
theorem bkOf_map {ns : List (List Nat)} {ts : List Rw} (nd : ns.Nodup) (hl : ts.length = ns.length) : ts.map tD = ns.map fun x => tD ((bkOf ns ts).tr x) := by
  refine List.ext_getElem? fun i => ?_
  rw [List.getElem?_map, List.getElem?_map]
  by_cases hi : i < ns.length
  · rw [List.getElem?_eq_getElem hi, List.getElem?_eq_getElem (hl ▸ hi)]
    have : ns.idxOf ns[i] = i := nd.idxOf_getElem i hi
    show some (tD ts[i]) = some (tD (ts.getD (ns.idxOf ns[i]) .nil))
    rw [this, List.getD_eq_getElem?_getD, List.getElem?_eq_getElem (hl ▸ hi)]
    rfl
  · rw [List.getElem?_eq_none (by omega), List.getElem?_eq_none (by omega)]
    rfl
noncomputable def valN (B : Bok) : Nat → List Nat → Option Nat
  | 0, _ => none
  | n + 1, x => if x ∈ B.bn then cntR (valN B n) (B.tr x) 0 else none
theorem cnt_cong {ν ν' : List Nat → Option Nat} : ∀ {t : Rw} {a : Nat}, (∀ x ∈ nmR t, ν x = ν' x) → cntR ν t a = cntR ν' t a
  | .nil, a, h => rfl
  | .call x r, a, h => by simp only [cntR, cnt_cong (t := r) h]
  | .turn x r, a, h => by simp only [cntR, cnt_cong (t := r) h]
  | .row x r, a, h => by
    have e := h x (List.mem_cons_self ..)
    simp only [cntR, e, cnt_cong (t := r) fun z hz => h z (List.mem_cons_of_mem _ hz)]
  | .times m t r, a, h => by
    simp only [cntR, cnt_cong (t := t) fun z hz => h z (List.mem_append_left _ hz), cnt_cong (t := r) fun z hz => h z (List.mem_append_right _ hz)]
theorem val_up (hB : B.Ok) : ∀ (n : Nat) (x : List Nat), B.rk x < n → valN B n x = valN B (n + 1) x
  | 0, x, h => by omega
  | n + 1, x, h => by
    show (if x ∈ B.bn then cntR (valN B n) (B.tr x) 0 else none) = (if x ∈ B.bn then cntR (valN B (n + 1)) (B.tr x) 0 else none)
    by_cases hx : x ∈ B.bn
    · rw [if_pos hx, if_pos hx]
      exact cnt_cong fun y hy => val_up hB n y (by have := (hB.low x hx y hy).2; omega)
    · rw [if_neg hx, if_neg hx]
theorem val_ge (hB : B.Ok) (x : List Nat) : ∀ (m : Nat), valN B (B.rk x + 1) x = valN B (B.rk x + 1 + m) x
  | 0 => rfl
  | m + 1 => (val_ge hB x m).trans (val_up hB _ x (by omega))
noncomputable def valB (B : Bok) (x : List Nat) : Option Nat := valN B (B.rk x + 1) x
theorem valB_is (hB : B.Ok) {x : List Nat} (hx : x ∈ B.bn) : valB B x = cntR (valB B) (B.tr x) 0 := by
  have e : valN B (B.rk x + 1) x = cntR (valN B (B.rk x)) (B.tr x) 0 := by
    show (if x ∈ B.bn then cntR (valN B (B.rk x)) (B.tr x) 0 else none) = _
    rw [if_pos hx]
  refine e.trans (cnt_cong fun y hy => ?_)
  have h := (hB.low x hx y hy).2
  obtain ⟨m, hm⟩ : ∃ m, B.rk x = B.rk y + 1 + m := ⟨B.rk x - (B.rk y + 1), by omega⟩
  rw [hm]
  exact (val_ge hB y m).symm
theorem valB_out {x : List Nat} (hx : x ∉ B.bn) : valB B x = none := if_neg hx
noncomputable def sigN (B : Bok) : Nat → List Nat → List SL.D
  | 0, _ => []
  | n + 1, x => if x ∈ B.bn then spl (sigN B n) (B.tr x) else []
theorem spl_cong {σ σ' : List Nat → List SL.D} : ∀ {t : Rw}, (∀ x ∈ nmR t, σ x = σ' x) → spl σ t = spl σ' t
  | .nil, h => rfl
  | .call x r, h => by simp only [spl, spl_cong (t := r) h]
  | .turn x r, h => by simp only [spl, spl_cong (t := r) h]
  | .row x r, h => by
    have e := h x (List.mem_cons_self ..)
    simp only [spl, e, spl_cong (t := r) fun z hz => h z (List.mem_cons_of_mem _ hz)]
  | .times m t r, h => by
    simp only [spl, spl_cong (t := t) fun z hz => h z (List.mem_append_left _ hz), spl_cong (t := r) fun z hz => h z (List.mem_append_right _ hz)]
theorem sig_up (hB : B.Ok) : ∀ (n : Nat) (x : List Nat), B.rk x < n → sigN B n x = sigN B (n + 1) x
  | 0, x, h => by omega
  | n + 1, x, h => by
    show (if x ∈ B.bn then spl (sigN B n) (B.tr x) else []) = (if x ∈ B.bn then spl (sigN B (n + 1)) (B.tr x) else [])
    by_cases hx : x ∈ B.bn
    · rw [if_pos hx, if_pos hx]
      exact spl_cong fun y hy => sig_up hB n y (by have := (hB.low x hx y hy).2; omega)
    · rw [if_neg hx, if_neg hx]
theorem sig_ge (hB : B.Ok) (x : List Nat) : ∀ (m : Nat), sigN B (B.rk x + 1) x = sigN B (B.rk x + 1 + m) x
  | 0 => rfl
  | m + 1 => (sig_ge hB x m).trans (sig_up hB _ x (by omega))
noncomputable def sigB (B : Bok) (x : List Nat) : List SL.D := sigN B (B.rk x + 1) x
theorem sigB_is (hB : B.Ok) {x : List Nat} (hx : x ∈ B.bn) : sigB B x = spl (sigB B) (B.tr x) := by
  have e : sigN B (B.rk x + 1) x = spl (sigN B (B.rk x)) (B.tr x) := by
    show (if x ∈ B.bn then spl (sigN B (B.rk x)) (B.tr x) else []) = _
    rw [if_pos hx]
  refine e.trans (spl_cong fun y hy => ?_)
  have h := (hB.low x hx y hy).2
  obtain ⟨m, hm⟩ : ∃ m, B.rk x = B.rk y + 1 + m := ⟨B.rk x - (B.rk y + 1), by omega⟩
  rw [hm]
  exact (sig_ge hB y m).symm
theorem sigB_ok : ∀ (n : Nat) (x : List Nat), okL 0 (sigN B n x) = true
  | 0, x => rfl
  | n + 1, x => by
    show okL 0 (if x ∈ B.bn then spl (sigN B n) (B.tr x) else []) = true
    split
    · exact hdS_ok (sigB_ok n) _
    · rfl
theorem sig_len (hB : B.Ok) (x : List Nat) (v : Nat) (h : valB B x = some v) : (sigB B x).length = v := nm_len hB (fun x hx => valB_is hB hx) (fun x hx => sigB_is hB hx) (fun x hx => valB_out hx) x v h
theorem gw_list3T {ds : List SL.D} {PP : SL.D → Prop} (k : PP (.lst ds)) : GW (list3G S [.tup ds]) PP := ⟨_, rfl, k⟩
theorem lfr_app {g : Cell} (h : LFr S.length (S ++ [g]) S') : ∃ y, S' = S ++ [y] := by
  have hl := h.1
  rw [List.length_append] at hl
  have hl : S'.length = S.length + 1 := hl
  refine ⟨S'[S.length]'(by omega), ?_⟩
  refine List.ext_getElem? fun i => ?_
  by_cases hi : i < S.length
  · rw [h.2 i (by omega), List.getElem?_append_left hi, List.getElem?_append_left hi]
  · by_cases e : i = S.length
    · subst e
      rw [List.getElem?_eq_getElem (by omega)]
      simp
    · rw [List.getElem?_eq_none (by omega), List.getElem?_eq_none (by simp; omega)]
theorem lc_new (hbk : BkS B S bd) : LcI B ν bd S.length [] (S ++ [.dct [] []]) :=
  ⟨List.nodup_nil, by simp, fun x hx => (by cases hx), fun S' f => hbk.2 S' fun i hi => by rw [f i hi, List.getElem?_append_left hi]⟩
theorem law_count_wd (hB : B.Ok) (hν : ∀ x ∈ B.bn, ν x = cntR ν (B.tr x) 0) (ho : t.ok) (hw : t.wt ≤ 400000) (hnm : ∀ x ∈ nmR t, x ∈ B.bn) (hg : hgtR B.H t ≤ 30) (hbk : BkS B S bd) (k : ∀ y, Q (oI (cntR ν t 0)) (S ++ [y])) : wp (φlaw_count A [bd, .loc S.length, tD t] (S ++ [.dct [] []])) Q X := by
  obtain ⟨b, hb⟩ := rk_all B (nmR t)
  refine lc_all hB hν 30 t bd S.length b [] (S ++ [.dct [] []]) Q X ho hw (fun x hx => ⟨hnm x hx, hb x hx⟩) hg (lc_new hbk) fun S' kn' I f n => ?_
  obtain ⟨y, rfl⟩ := lfr_app f
  exact k y
theorem bka_loc {i : Nat} (h : S[i]? = some (.dct (B.bn.map kT) (B.bn.map fun x => tD (B.tr x)))) : BkArg B S (.loc i) := .inl ⟨fun _ => rfl, BkS.loc h⟩
theorem gw_min2 {i j : Int} {PP : SL.D → Prop} (k : PP (.int (if j < i then j else i))) : GW (minG S [.int i, .int j]) PP := ⟨_, rfl, k⟩
abbrev eB0 : Bok := ⟨[], fun _ => .nil, fun _ => 0, fun _ => 0⟩
theorem emB_ok : eB0.Ok := ⟨List.nodup_nil, by decide, fun x hx => (by cases hx), fun x hx => (by cases hx), fun x hx => (by cases hx), fun x hx => (by cases hx)⟩
end
end NC
namespace LamX
open PySem PySem.Spec PyProof.Rows L2
end LamX
namespace SL
open PySem PySem.Spec L2
open PyProof.Rows hiding St
section
variable {fa : List He.Fa} {fn : List He.DefD} {ex : PySem.W.Frag → Bool}
end
section
variable {X : Cx} {W : WX} {C f ea : Addr} {k n : Nat} {fd : FuncData} {ps : List Str} {φ : Fn} {x : Str} {ds : List Value} {e : Expr} {es : List Expr} {ms : MA} {p pos : Pos}
end
section
variable {P : Program} {w : World} {K : PySem.W.Frag} {mg : Str → Option Value} {base : Heap} {k : Nat} {at_ : Str × Option Str} {fd : FuncData} {x qual s0 : Str} {params : Arguments} {body : List Stmt} {scope : Scope} {kws : List (Str × V)} {N : List Str} {mK : List (Str × Addr) → MS}
end
section
variable {δ : DEnv} {S : Store} {Q : D → Store → Prop} {X : Ex → Store → Prop} {ms : MA} {n : Nat} {φ : Fn}
end
end SL
namespace NC
open PySem PySem.Spec L2 SL Hal
local macro_rules
  | `(tactic| infer_instance) => `(tactic| first
    | ((with_reducible first
        | refine wf_seq ?_ | refine wf_if ?_ | refine wp_ifM ?_ | refine wp_appN ?_ | refine wf_asg ?_ | refine wf_ret ?_ | refine wf_retN ?_ | refine wf_expr ?_ | refine wf_nxM ?_ | refine wf_ctM ?_ | refine wf_bkM ?_ | refine wf_asgT ?_ | refine wf_raise ?_
        | refine wp_op2 ?_ | refine wp_op1 ?_ | refine wp_callG ?_ | refine wp_cons ?_ | refine wp_nil ?_ | refine wp_c ?_ | refine wp_cmpB ?_ | refine wp_trM ?_ | refine wp_notB ?_ | refine wp_andB ?_ | refine wp_orB ?_ | refine wp_andM ?_ | refine wp_orM ?_ | refine wp_notM ?_ | refine wp_ch ?_ | refine wp_sl ?_ | refine wp_soO ?_ | refine wp_noO ?_ | refine wp_fmt ?_ | refine wp_callKG ?_ | refine wp_yes ?_ | refine wp_mkx ?_ | refine wp_bM ?_ | refine wp_freeze ?_ | refine wf_par ?_ | refine wf_asgU ?_
        | refine gw_addI ?_ | refine gw_subI ?_ | refine gw_ltI ?_ | refine gw_leI ?_ | refine gw_gtI ?_ | refine gw_geI ?_ | refine gw_eqI ?_ | refine gw_neI ?_ | refine gw_eqS ?_ | refine gw_neS ?_ | refine gw_inC ?_ | refine gw_ninC ?_ | refine gw_ltS ?_ | refine gw_inL ?_ | refine gw_ninL ?_ | refine gw_sorted ?_ | refine gw_sortedT ?_ | refine gw_keys ?_ | refine gw_eqB ?_ | refine gw_neB ?_
        | refine gb_ltI ?_ | refine gb_leI ?_ | refine gb_gtI ?_ | refine gb_geI ?_ | refine gb_eqI ?_ | refine gb_neI ?_ | refine gb_eqS ?_ | refine gb_neS ?_ | refine gb_inC ?_ | refine gb_ninC ?_ | refine gb_inL ?_ | refine gb_ninL ?_ | refine gb_bl ?_ | refine gt_bl ?_ | refine gt_int ?_ | refine gt_lst ?_ | refine gt_tup ?_
        | refine gw_asI ?_ | refine gw_slT ?_ | refine gw_slL ?_ | refine gw_lenL ?_ | refine gw_lenT ?_ | refine gw_tuple ?_ | refine gw_tupleT ?_ | refine gw_tupleEnd ?_ | refine gw_lenEnd ?_ | refine gw_all ?_ | refine gw_any ?_ | refine gw_sum ?_ | refine gw_intI ?_ | refine gw_intB ?_ | refine gw_ix0L ?_ | refine gw_ix0T ?_ | refine gw_ix1L ?_ | refine gw_ix1T ?_ | refine gw_ix2L ?_ | refine gw_ix2T ?_))
    | ((with_reducible apply wp_v); (· rfl))
    | (with_reducible refine wp_appA ?_)
    | (with_reducible refine wp_mtS ?_)
    | (refine wp_fO (by rfl) (by rfl) ?_)
    | (refine wp_mO (by rfl) (by rfl) ?_)
    | (with_reducible first | refine gw_addS ?_ | refine gw_addL ?_ | refine gw_addT ?_ | refine gw_mulR ?_ | refine gw_mulL ?_ | refine gw_modI ?_ | refine gw_fdivI ?_ | refine gw_tup ?_ | refine gw_lst ?_ | refine gw_lenS ?_ | refine gw_slTo ?_ | refine gw_slFrom ?_ | refine gw_slFT ?_ | refine gw_slS ?_ | refine gw_pow ?_ | refine gw_swap ?_ | refine gw_isup ?_ | refine gw_upper1 ?_ | refine gw_lower1 ?_ | refine gw_upper ?_ | refine gw_lower ?_ | refine gw_str ?_ | refine gw_mulS ?_)
    | (refine ⟨rfl, ?_⟩))
  | `(tactic| sizeOf_list_dec) => `(tactic| (refine wp_def ?_; simp only [startD, List.map_cons, List.map_nil, List.length_cons, List.length_nil, Nat.reduceAdd, Nat.reduceSub, List.replicate_succ, List.replicate_zero, List.cons_append, List.nil_append, Nat.zero_add]))
section
variable {A : Ad} {U S S1 : Store} {Q : SL.D → Store → Prop} {X : Ex → Store → Prop} {ws : List Nat} {c : Nat} {bars : List (List Nat)}
end
section
variable {A : Ad} {S : Store} {Q : SL.D → Store → Prop} {X : Ex → Store → Prop} {ws : List Nat} {bars : List (List Nat)} {F : Nat → List Nat} {r g : List Nat} {Ps : List (List Nat)}
theorem rch_one {x y s t : Nat} (hw : Wls ws) (hb : Br ws [x, y]) (h : Rch ws [[x, y]] s t) : t = s ∨ (s = x ∧ t = swL y) ∨ (s = y ∧ t = swL x) := by
  obtain ⟨x', y', e, hx, hy, hl⟩ := hb
  cases e
  have l1 := lo_sw hw hx
  have l2 := lo_sw hw hy
  have n1 := sw_ne hw hx
  have n2 := sw_ne hw hy
  induction h with
  | self => exact .inl rfl
  | @step t1 t2 h0 e ht ih =>
    have s2 := sw_sw hw ht
    have q : (t1 = x ∧ t2 = swL y) ∨ (t1 = y ∧ t2 = swL x) := by
      rcases e with e | e
      · have e := List.mem_singleton.mp e
        injection e with e1 e2
        injection e2 with e2
        exact .inl ⟨e1, by rw [← e2, s2]⟩
      · have e := List.mem_singleton.mp e
        injection e with e1 e2
        injection e2 with e2
        exact .inr ⟨e2, by rw [← e1, s2]⟩
    rcases ih with rfl | ⟨rfl, e1⟩ | ⟨rfl, e1⟩
    · rcases q with ⟨rfl, q⟩ | ⟨rfl, q⟩
      · exact .inr (.inl ⟨rfl, q⟩)
      · exact .inr (.inr ⟨rfl, q⟩)
    · exfalso
      rcases q with ⟨q, _⟩ | ⟨q, _⟩
      · rw [e1] at q
        have := congrArg loL q
        omega
      · rw [e1] at q
        exact n2 q
    · exfalso
      rcases q with ⟨q, _⟩ | ⟨q, _⟩
      · rw [e1] at q
        exact n1 q
      · rw [e1] at q
        have := congrArg loL q
        omega
theorem gw_max2 {i j : Int} {PP : SL.D → Prop} (k : PP (.int (if j > i then j else i))) : GW (maxG S [.int i, .int j]) PP := ⟨_, rfl, k⟩
end
end NC
namespace K31
open PySem PySem.Spec L2 SL Hal NC
local macro_rules
  | `(tactic| infer_instance) => `(tactic| first
    | ((with_reducible first
        | refine wf_seq ?_ | refine wf_if ?_ | refine wp_ifM ?_ | refine wp_appN ?_ | refine wf_asg ?_ | refine wf_ret ?_ | refine wf_retN ?_ | refine wf_expr ?_ | refine wf_nxM ?_ | refine wf_ctM ?_ | refine wf_bkM ?_ | refine wf_asgT ?_ | refine wf_raise ?_
        | refine wp_op2 ?_ | refine wp_op1 ?_ | refine wp_callG ?_ | refine wp_cons ?_ | refine wp_nil ?_ | refine wp_c ?_ | refine wp_cmpB ?_ | refine wp_trM ?_ | refine wp_notB ?_ | refine wp_andB ?_ | refine wp_orB ?_ | refine wp_andM ?_ | refine wp_orM ?_ | refine wp_notM ?_ | refine wp_ch ?_ | refine wp_sl ?_ | refine wp_soO ?_ | refine wp_noO ?_ | refine wp_fmt ?_ | refine wp_callKG ?_ | refine wp_yes ?_ | refine wp_mkx ?_ | refine wp_bM ?_ | refine wp_freeze ?_ | refine wf_par ?_ | refine wf_asgU ?_
        | refine gw_addI ?_ | refine gw_subI ?_ | refine gw_ltI ?_ | refine gw_leI ?_ | refine gw_gtI ?_ | refine gw_geI ?_ | refine gw_eqI ?_ | refine gw_neI ?_ | refine gw_eqS ?_ | refine gw_neS ?_ | refine gw_inC ?_ | refine gw_ninC ?_ | refine gw_ltS ?_ | refine gw_inL ?_ | refine gw_ninL ?_ | refine gw_sorted ?_ | refine gw_sortedT ?_ | refine gw_keys ?_ | refine gw_eqB ?_ | refine gw_neB ?_
        | refine gb_ltI ?_ | refine gb_leI ?_ | refine gb_gtI ?_ | refine gb_geI ?_ | refine gb_eqI ?_ | refine gb_neI ?_ | refine gb_eqS ?_ | refine gb_neS ?_ | refine gb_inC ?_ | refine gb_ninC ?_ | refine gb_inL ?_ | refine gb_ninL ?_ | refine gb_bl ?_ | refine gt_bl ?_ | refine gt_int ?_ | refine gt_lst ?_ | refine gt_tup ?_
        | refine gw_asI ?_ | refine gw_slT ?_ | refine gw_slL ?_ | refine gw_lenL ?_ | refine gw_lenT ?_ | refine gw_tuple ?_ | refine gw_tupleT ?_ | refine gw_tupleEnd ?_ | refine gw_lenEnd ?_ | refine gw_all ?_ | refine gw_any ?_ | refine gw_sum ?_ | refine gw_intI ?_ | refine gw_intB ?_ | refine gw_ix0L ?_ | refine gw_ix0T ?_ | refine gw_ix1L ?_ | refine gw_ix1T ?_ | refine gw_ix2L ?_ | refine gw_ix2T ?_))
    | ((with_reducible apply wp_v); (· rfl))
    | (with_reducible refine wp_appA ?_)
    | (with_reducible refine wp_mtS ?_)
    | (refine wp_fO (by rfl) (by rfl) ?_)
    | (refine wp_mO (by rfl) (by rfl) ?_)
    | (with_reducible first | refine gw_addS ?_ | refine gw_addL ?_ | refine gw_addT ?_ | refine gw_mulR ?_ | refine gw_mulL ?_ | refine gw_modI ?_ | refine gw_fdivI ?_ | refine gw_tup ?_ | refine gw_lst ?_ | refine gw_lenS ?_ | refine gw_slTo ?_ | refine gw_slFrom ?_ | refine gw_slFT ?_ | refine gw_slS ?_ | refine gw_pow ?_ | refine gw_swap ?_ | refine gw_isup ?_ | refine gw_upper1 ?_ | refine gw_lower1 ?_ | refine gw_upper ?_ | refine gw_lower ?_ | refine gw_str ?_ | refine gw_mulS ?_)
    | (refine ⟨rfl, ?_⟩))
  | `(tactic| sizeOf_list_dec) => `(tactic| (refine wp_def ?_; simp only [startD, List.map_cons, List.map_nil, List.length_cons, List.length_nil, Nat.reduceAdd, Nat.reduceSub, List.replicate_succ, List.replicate_zero, List.cons_append, List.nil_append, Nat.zero_add]))
section
variable {A : Ad} {U S S' S1 S2 : Store} {Q : SL.D → Store → Prop} {X : Ex → Store → Prop} {ns : List (List Nat)} {k : Nat}
abbrev Hf (ns : List (List Nat)) : List Nat → Nat := fun x => 3 + 5 * ns.idxOf x
structure TwI (ns : List (List Nat)) (k c : Nat) (t : Rw) : Prop where
  ok : t.ok
  nm : ∀ x ∈ nmR t, x ∈ ns.take k
  hgt : hgtR (Hf ns) t ≤ 3 + 5 * k
  cnt : t.cnt ≤ c
  dp : t.dp ≤ 4
theorem TwI.app {c c' : Nat} {t u : Rw} (a : TwI ns k c t) (b : TwI ns k c' u) : TwI ns k (c + c') (appR t u) where
  ok := app_ok b.ok t a.ok
  nm := fun x hx => by
    rw [app_nm] at hx
    rcases List.mem_append.mp hx with hx | hx
    · exact a.nm x hx
    · exact b.nm x hx
  hgt := by
    have := app_hgt (H := Hf ns) u t
    have := a.hgt
    have := b.hgt
    omega
  cnt := by
    rw [app_cnt]
    have := a.cnt
    have := b.cnt
    omega
  dp := by
    rw [app_dp]
    have := a.dp
    have := b.dp
    omega
theorem tw_nil : TwI ns k 0 .nil := ⟨trivial, fun x hx => (by cases hx), by simp only [hgtR]; omega, Nat.le_refl _, by decide⟩
theorem tw_call {x : List Nat} (h : x = [] ∨ x = [97]) : TwI ns k 1 (.call x .nil) := by
  refine ⟨⟨?_, ?_, trivial⟩, fun x hx => (by cases hx), by simp only [hgtR]; omega, Nat.le_refl _, by simp only [Rw.dp]; omega⟩
  · rcases h with rfl | rfl <;> decide
  · rcases h with rfl | rfl <;> decide
theorem hf_lt (nd : ns.Nodup) {x : List Nat} (h : x ∈ ns.take k) : Hf ns x + 5 ≤ 3 + 5 * k := by
  obtain ⟨i, hi, e⟩ := List.getElem_of_mem h
  rw [List.length_take] at hi
  rw [List.getElem_take] at e
  have : ns.idxOf x = i := by rw [← e]; exact nd.idxOf_getElem i (by omega)
  show 3 + 5 * ns.idxOf x + 5 ≤ _
  omega
theorem tw_row (nd : ns.Nodup) (hok : ∀ x ∈ ns, NmOk x) {x : List Nat} (h : x ∈ ns.take k) : TwI ns k 1 (.row x .nil) := by
  have hx := hok x (List.mem_of_mem_take h)
  have hl := hf_lt nd h
  exact ⟨⟨hx.1, hx.2.1, hx.2.2, trivial⟩, fun y hy => by rw [List.mem_singleton.mp hy]; exact h, by simp only [hgtR]; omega, Nat.le_refl _, by simp only [Rw.dp]; omega⟩
theorem tw_grp (nd : ns.Nodup) (hok : ∀ x ∈ ns, NmOk x) {x : List Nat} {n : Nat} (hn : n ≤ 10 ^ 30) (h : x ∈ ns.take k) : TwI ns k 3 (.times n (.row x (.turn [97] .nil)) .nil) := by
  have hx := hok x (List.mem_of_mem_take h)
  have hl := hf_lt nd h
  exact ⟨⟨hn, ⟨hx.1, hx.2.1, hx.2.2, by decide, by decide, by decide, trivial⟩, trivial⟩, fun y hy => by
    have hy : y ∈ [x] ++ [] := hy
    rw [List.append_nil] at hy
    rw [List.mem_singleton.mp hy]; exact h, by simp only [hgtR]; omega, Nat.le_refl _, by simp only [Rw.dp]; omega⟩
def cls : Nat → Rw
  | 0 => .nil
  | n + 1 => .call [] (cls n)
theorem cls_its : ∀ n, (cls n).its = List.replicate n (.tup [.str w_call, .str []])
  | 0 => rfl
  | n + 1 => by rw [List.replicate_succ, ← cls_its n]; rfl
theorem cls_nm : ∀ n, nmR (cls n) = []
  | 0 => rfl
  | n + 1 => cls_nm n
theorem cls_ok : ∀ n, (cls n).ok
  | 0 => trivial
  | n + 1 => ⟨by decide, fun _ h => (by cases h), cls_ok n⟩
theorem cls_cnt : ∀ n, (cls n).cnt = n
  | 0 => rfl
  | n + 1 => congrArg (· + 1) (cls_cnt n)
theorem cls_dp : ∀ n, (cls n).dp = 0
  | 0 => rfl
  | n + 1 => cls_dp n
theorem cls_hgt {H : List Nat → Nat} : ∀ n, hgtR H (cls n) ≤ 2
  | 0 => by simp only [cls, hgtR]; omega
  | n + 1 => by have := cls_hgt (H := H) n; simp only [cls, hgtR]; omega
structure NsI (j : Nat) (u : Rw) : Prop where
  ok : u.ok
  nm : nmR u = []
  hgt : ∀ H, hgtR H u ≤ 2 + 2 * j
  cnt : u.cnt ≤ 3 + j
  dp : u.dp ≤ j
theorem NsI.up {j n : Nat} {u : Rw} (h : NsI j u) (hn : n ≤ 10 ^ 30) : NsI (j + 1) (.times n u .nil) where
  ok := ⟨hn, h.ok, trivial⟩
  nm := by simp only [nmR, h.nm, List.append_nil]
  hgt := fun H => by have := h.hgt H; simp only [hgtR]; omega
  cnt := by have := h.cnt; simp only [Rw.cnt]; omega
  dp := by have := h.dp; simp only [Rw.dp]; omega
theorem tower_wd (hlen : ns.length = 6) (nd : ns.Nodup) (hok : ∀ x ∈ ns, NmOk x) (hk : k < 6) (h : Dw U S) (q : ∀ t S', Dw U S' → TwI ns k 20 t → Q (tD t) S') : wp (φlaw_tower A [.loc 0, .lst (ns.map SL.D.str), .int (k : Int)] S) Q X := by
  have hsl : ∀ {S : Store} {PP : SL.D → Prop}, PP (.lst ((ns.take k).map SL.D.str)) → GW (slG S (.lst (ns.map SL.D.str)) none (some (k : Int))) PP := fun {S PP} k' => gw_slL (by rw [cut_to, ← List.map_take]; exact k')
  have hix : 0 < k → ∃ x, x ∈ ns.take k ∧ ∀ {S : Store} {PP : SL.D → Prop}, PP (.str x) → GW (ixG S (.lst (ns.map SL.D.str)) (.int ((k : Int) - 1))) PP := fun h0 => by
    have hi : k - 1 < ns.length := by omega
    refine ⟨ns[k - 1], ?_, fun {S PP} k' => ?_⟩
    · rw [List.mem_take_iff_getElem]
      exact ⟨k - 1, by omega, rfl⟩
    · rw [show (k : Int) - 1 = ((k - 1 : Nat) : Int) by omega]
      exact gw_ixL (by rw [List.getElem?_map, List.getElem?_eq_getElem hi]; rfl) k'
  have htl : (ns.take k).length = k := by rw [List.length_take]; omega
  generalize SL.D.lst (ns.map SL.D.str) = nd' at hsl hix ⊢
  generalize hki : ((k : Nat) : Int) = ki at hsl hix ⊢
  sizeOf_list_dec
  unfold m_law_tower
  refine wf_seq (wf_asg (wp_lstLM (wp_nil ⟨by simp, ?_⟩)))
  refine wf_seq ?_
  refine wf_for (fun j δ S' => ∃ (t : Rw) (y4 y5 : Option SL.D) (S2 : Store), δ = [some (.loc 0), some nd', some (.int ki), some (.loc S.length), y4, y5, none] ∧ S' = S2 ++ [.lst t.its] ∧ Dw U S2 ∧ TwI ns k (3 * j) t ∧ j ≤ 3) ?_
  refine wp_src1 ?_
  repeat infer_instance
  refine wd_draw (h.app (t := [.lst []])) (by decide) (by decide) fun m S1 d1 hm => ?_
  obtain ⟨S2, d2, rfl⟩ := d1.cut
  refine ⟨m, rfl, by omega, _, fun _ _ _ _ => rfl, ⟨.nil, _, _, S2, rfl, rfl, d2, tw_nil, by decide⟩, ?_, ?_⟩
  · rintro j d hd δ S' ⟨t, y4, y5, S3, rfl, rfl, d3, ht, hj3⟩
    have hj : j < m := by
      have := (List.getElem?_eq_some_iff.mp hd).1
      simpa using this
    have hlt : t.its.length < 1000000 := by
      have h1 := its_len t
      have h2 := wt_cnt t ht.ok
      have h3 := ht.cnt
      omega
    refine gw_bind ?_
    refine wf_seq (wf_asg ?_)
    repeat infer_instance
    refine wd_draw (d3.app (t := [.lst t.its])) (by decide) (by decide) fun r S4 d4 hr => ?_
    obtain ⟨S5, d5, rfl⟩ := d4.cut
    have l5 : S5.length = S.length := d5.len.trans h.len.symm
    have put : ∀ {u : Rw} {c : Nat} {y4 y5 : Option SL.D} {S6 : Store}, Dw U S6 → TwI ns k c u → c ≤ 3 → ∃ (t' : Rw) (y4' y5' : Option SL.D) (S2 : Store), [some (SL.D.loc 0), some nd', some (.int ki), some (.loc S.length), y4, y5, none] = [some (.loc 0), some nd', some (.int ki), some (.loc S.length), y4', y5', none] ∧ S6 ++ [Cell.lst (t.its ++ u.its)] = S2 ++ [.lst t'.its] ∧ Dw U S2 ∧ TwI ns k (3 * (j + 1)) t' ∧ j + 1 ≤ 3 := fun {u c y4 y5 S6} d6 hu hc => by
      refine ⟨appR t u, _, _, S6, rfl, by rw [app_its], d6, ?_, by omega⟩
      have := ht.app hu
      exact ⟨this.ok, this.nm, this.hgt, Nat.le_trans this.cnt (by omega), this.dp⟩
    have ap : ∀ {δ : DEnv} {ms : MA} {Q : SL.D → Store → Prop} {X : Ex → Store → Prop} {S5 : Store}, S5.length = S.length → δ[3]? = some (some (.loc S.length)) → wp (ms δ (S5 ++ [.lst t.its])) (fun xs S' => ∃ S3 x, S' = S3 ++ [.lst t.its] ∧ S3.length = S5.length ∧ xs = [x] ∧ Q .non (S3 ++ [.lst (t.its ++ [x])])) X → wp (lmM appendG (vM 3) ms δ (S5 ++ [.lst t.its])) Q X := fun {δ ms Q X S5} hl hv h => by
      refine wp_append (by rw [hl]; exact hv) (wp_q h fun xs S' hh => ?_)
      obtain ⟨S3, x, h1, h2, h3, h4⟩ := hh
      exact ⟨S3, x, h1, h2, h3, hlt, h4⟩
    refine wf_if (wp_orB (wp_cmpB (wp_v rfl (wp_c (gb_eqI ⟨fun z => ?_, fun z => ?_⟩)))))
    · refine ⟨fun _ => ?_, fun z => (by cases z)⟩
      refine wf_expr (ap l5 rfl ?_)
      repeat infer_instance
      refine of_wd (d5.app (t := [.lst t.its])) rfl fun d S6 d6 hd => ?_
      obtain ⟨S7, d7, rfl⟩ := d6.cut
      obtain ⟨x, rfl, hx⟩ : ∃ x, d = .str x ∧ (x = [] ∨ x = [97]) := by
        simp only [List.mem_cons, List.not_mem_nil, or_false] at hd
        rcases hd with rfl | rfl
        · exact ⟨_, rfl, .inl rfl⟩
        · exact ⟨_, rfl, .inr rfl⟩
      repeat infer_instance
      refine ⟨S7, _, rfl, d7.len.trans d5.len.symm, rfl, ?_⟩
      exact put (u := .call x .nil) d7 (tw_call hx) (by decide)
    have fin : k ≠ 0 → wf (ifSM (cmpB eqG (vM 5) (cM (.int 1))) (exprM (lmM appendG (vM 3) (consM (callG tupG (consM (cM (.str [116, 105, 109, 101, 115])) (consM (appM 1 (φlaw_number A) (consM (vM 0) nilM) []) (consM (appM 1 (φlaw_flat_tree A) (consM (callG lstG (consM (callG tupG (consM (cM (.str [114, 111, 119])) (consM (op2M ixG (vM 1) (op2M subG (vM 2) (cM (.int 1)))) nilM))) (consM (callG tupG (consM (cM (.str [116, 117, 114, 110])) (consM (cM (.str [97])) nilM))) nilM))) nilM) []) nilM)))) nilM))) (exprM (lmM appendG (vM 3) (consM (callG tupG (consM (cM (.str [114, 111, 119])) (consM (appM 2 (φlaw_of A) (consM (vM 0) (consM (slM (vM 1) noO (soO (vM 2))) nilM)) []) nilM))) nilM))) [some (.loc 0), some nd', some (.int ki), some (.loc S.length), some d, some (.int ((r : Nat) : Int)), none] (S5 ++ [.lst t.its])) (fun δ S' => ∃ (t : Rw) (y4 y5 : Option SL.D) (S2 : Store), δ = [some (.loc 0), some nd', some (.int ki), some (.loc S.length), y4, y5, none] ∧ S' = S2 ++ [.lst t.its] ∧ Dw U S2 ∧ TwI ns k (3 * (j + 1)) t ∧ j + 1 ≤ 3) (fun d S' => wp (finV S d S') Q X) (fun x _ S' => wp (finX S x S') Q X) noB noB := fun hk0 => by
      refine wf_if (wp_cmpB (wp_v rfl (wp_c (gb_eqI ⟨fun _ => ?_, fun _ => ?_⟩))))
      · obtain ⟨x, hx, hxi⟩ := hix (Nat.pos_of_ne_zero hk0)
        refine wf_expr (ap l5 rfl ?_)
        refine wp_cons (wp_callG (wp_cons (wp_c (wp_cons (wp_appA (wp_cons (wp_v rfl (wp_nil ⟨rfl, ?_⟩))))))))
        refine number_le (d5.app (t := [.lst t.its])) fun n S6 hn d6 => ?_
        obtain ⟨S7, d7, rfl⟩ := d6.cut
        generalize hni : ((n : Nat) : Int) = nI
        refine wp_cons (wp_appA (wp_cons (wp_callG (wp_cons (wp_callG (wp_cons (wp_c (wp_cons (wp_op2 (wp_v rfl (wp_op2 (wp_v rfl (wp_c (gw_subI (hxi (wp_nil (gw_tup ?_ (by simp))))))))))))))))))
        refine wp_cons (wp_callG (wp_cons (wp_c (wp_cons (wp_c (wp_nil (gw_tup (wp_nil (gw_lst (wp_nil ⟨rfl, ?_⟩) (by simp))) (by simp))))))))
        refine flat_wd rfl rfl ?_
        refine wp_nil (gw_tup (wp_nil ?_) (by simp))
        refine ⟨S7, _, rfl, d7.len.trans d5.len.symm, rfl, ?_⟩
        have := put (u := .times n (.row x (.turn [97] .nil)) .nil) (y4 := some d) (y5 := some (.int ((r : Nat) : Int))) d7 (tw_grp nd hok hn hx) (by decide)
        have e : (Rw.times n (.row x (.turn [97] .nil)) .nil).its = [.tup [.str w_times, .int nI, .tup [.str w_steps, .tup [.tup [.str w_row, .str x], .tup [.str w_turn, .str [97]]]]]] := by rw [← hni]; rfl
        rw [e] at this
        exact this
      · refine wf_expr (ap l5 rfl ?_)
        refine wp_cons (wp_callG (wp_cons (wp_c (wp_cons (wp_appA (wp_cons (wp_v rfl (wp_cons (wp_sl (wp_v rfl (wp_noO (wp_soO (wp_v rfl (gw_asI (hsl (wp_nil ⟨rfl, ?_⟩))))))))))))))))
        refine of_wd (d5.app (t := [.lst t.its])) (ok_strs _) (fun d2 S6 d6 hd2 => ?_) (by
          intro e
          have := congrArg List.length e
          rw [List.length_map, htl] at this
          exact hk0 this) (by rw [List.length_map, htl]; omega)
        obtain ⟨S7, d7, rfl⟩ := d6.cut
        obtain ⟨x, hx, rfl⟩ := List.mem_map.mp hd2
        refine wp_nil (gw_tup (wp_nil ?_) (by simp))
        refine ⟨S7, _, rfl, d7.len.trans d5.len.symm, rfl, ?_⟩
        exact put (u := .row x .nil) d7 (tw_row nd hok hx) (by decide)
    refine wp_cmpB (wp_v rfl (wp_c (gb_eqI ⟨fun z2 => ?_, fun z2 => ?_⟩)))
    · have hk0 : k = 0 := by have := of_decide_eq_true z2; omega
      refine wf_expr (ap l5 rfl ?_)
      repeat infer_instance
      refine of_wd (d5.app (t := [.lst t.its])) rfl fun d S6 d6 hd => ?_
      obtain ⟨S7, d7, rfl⟩ := d6.cut
      obtain ⟨x, rfl, hx⟩ : ∃ x, d = .str x ∧ (x = [] ∨ x = [97]) := by
        simp only [List.mem_cons, List.not_mem_nil, or_false] at hd
        rcases hd with rfl | rfl
        · exact ⟨_, rfl, .inl rfl⟩
        · exact ⟨_, rfl, .inr rfl⟩
      repeat infer_instance
      refine ⟨S7, _, rfl, d7.len.trans d5.len.symm, rfl, ?_⟩
      exact put (u := .call x .nil) d7 (tw_call hx) (by decide)
    · have hk0 : k ≠ 0 := by have := of_decide_eq_false z2; omega
      exact wf_mono (fin hk0) (fun _ _ h => h) (fun _ _ h => h) (fun _ _ _ h => h) (fun _ _ h => h.elim) (fun _ _ h => h.elim)
  rintro δ S' ⟨t, y4, y5, S3, rfl, rfl, d3, ht, hj3⟩
  have ht : TwI ns k 9 t := ⟨ht.ok, ht.nm, ht.hgt, by have := ht.cnt; omega, ht.dp⟩
  refine wf_seq (wf_mono (N := fun δ S' => ∃ (t : Rw) (d3 : SL.D) (y4 y6 : Option SL.D) (S2 gg : Store), δ = [some (.loc 0), some nd', some (.int ki), some d3, y4, y5, y6] ∧ S' = S2 ++ gg ∧ Dw U S2 ∧ TwI ns k 20 t ∧ asL S' d3 = some t.its) (wf_if (wp_andB (wp_cmpB (wp_v rfl (wp_c (gb_gtI ⟨fun z => ?_, fun z => ⟨fun z => (by cases z), fun _ => wf_nxM ?_⟩⟩)))))) ?_ (fun _ _ h => h) (fun _ _ _ h => h) (fun _ _ h => h) (fun _ _ h => h))
  · have hk0 : 0 < k := by have := of_decide_eq_true z; omega
    have hl3 : S3.length = S.length := d3.len.trans h.len.symm
    refine wp_cmpB ?_
    repeat infer_instance
    refine wd_draw (d3.app (t := [.lst t.its])) (by decide) (by decide) fun r S4 d4 hr => ?_
    obtain ⟨S5, d5, rfl⟩ := d4.cut
    have hl5 : S5.length = S.length := d5.len.trans h.len.symm
    repeat infer_instance
    have stay : ∃ (t' : Rw) (d3 : SL.D) (y4' y6 : Option SL.D) (S2 gg : Store), [some (SL.D.loc 0), some nd', some (.int ki), some (.loc S.length), y4, y5, none] = [some (.loc 0), some nd', some (.int ki), some d3, y4', y5, y6] ∧ S5 ++ [Cell.lst t.its] = S2 ++ gg ∧ Dw U S2 ∧ TwI ns k 20 t' ∧ asL (S5 ++ [.lst t.its]) d3 = some t'.its := ⟨t, _, _, _, S5, _, rfl, rfl, d5, ⟨ht.ok, ht.nm, ht.hgt, by have := ht.cnt; omega, ht.dp⟩, asL_at (by rw [← hl5]; simp)⟩
    refine ⟨fun _ => ?_, fun _ => wf_nxM stay⟩
    refine wf_seq (wf_asg ?_)
    repeat infer_instance
    refine wd_draw (d5.app (t := [.lst t.its])) (by decide) (by decide) fun n S6 d6 hn => ?_
    obtain ⟨S7, d7, rfl⟩ := d6.cut
    refine gw_mulLs (n := n) ?_
    have ecl : (List.replicate n [SL.D.tup [.str [99, 97, 108, 108], .str []]]).flatten = (cls n).its := by
      rw [cls_its]
      have : ∀ m : Nat, (List.replicate m [SL.D.tup [.str [99, 97, 108, 108], .str []]]).flatten = List.replicate m (.tup [.str w_call, .str []]) := fun m => by
        induction m with
        | zero => rfl
        | succ m ih => rw [List.replicate_succ, List.flatten_cons, ih]; rfl
      exact this n
    rw [ecl]
    repeat infer_instance
    refine flat_wd rfl (its_okL _) ?_
    refine wf_seq ?_
    refine wf_for (fun j δ S' => ∃ (u : Rw) (y4 : Option SL.D) (S2 : Store), δ = [some (.loc 0), some nd', some (.int ki), some (.loc S.length), y4, y5, some (tD u)] ∧ S' = S2 ++ [.lst t.its] ∧ Dw U S2 ∧ NsI j u ∧ j ≤ 3) ?_
    refine wp_src1 ?_
    repeat infer_instance
    refine wd_draw (d7.app (t := [.lst t.its])) (by decide) (by decide) fun m S8 d8 hm => ?_
    obtain ⟨S9, d9, rfl⟩ := d8.cut
    repeat infer_instance
    refine ⟨_, rfl, by omega, _, fun _ _ _ _ => rfl, ⟨cls n, _, S9, rfl, rfl, d9, ⟨cls_ok n, cls_nm n, fun H => cls_hgt n, by rw [cls_cnt]; omega, by rw [cls_dp]; omega⟩, by decide⟩, ?_, ?_⟩
    · rintro j d hd δ S' ⟨u, y4, S10, rfl, rfl, d10, hu, hj3⟩
      have hj : j < 1 + m := by
        have := (List.getElem?_eq_some_iff.mp hd).1
        simp at this
        omega
      generalize hud : tD u = ud
      refine gw_bind ?_
      refine wf_asg ?_
      repeat infer_instance
      refine of_wd (d10.app (t := [.lst t.its])) rfl fun d S11 d11 hd2 => ?_
      obtain ⟨S12, d12, rfl⟩ := d11.cut
      obtain ⟨q, rfl, hq⟩ : ∃ q : Nat, d = .int (q : Int) ∧ q ≤ 10 ^ 30 := by
        have c30 : (10 : Int) ^ (30 : Int).toNat = ((10 ^ 30 : Nat) : Int) := by decide
        have c20 : (10 : Int) ^ (20 : Int).toNat = ((10 ^ 20 : Nat) : Int) := by decide
        simp only [List.mem_cons, List.not_mem_nil, or_false] at hd2
        rcases hd2 with rfl | rfl | rfl
        · exact ⟨10 ^ 30, by rw [c30], Nat.le_refl _⟩
        · exact ⟨10 ^ 20, by rw [c20], by decide⟩
        · exact ⟨3, rfl, by decide⟩
      have hnx := hu.up hq
      have e : tD (.times q u .nil) = .tup [.str w_steps, .tup [.tup [.str w_times, .int (q : Int), ud]]] := by rw [← hud]; rfl
      generalize ((q : Nat) : Int) = qi at e
      have hokd : okD 0 ud = true := by rw [← hud]; exact td_ok u
      refine wp_cons (wp_v rfl (wp_nil (gw_tup (wp_nil (gw_lst (wp_nil ⟨rfl, ?_⟩) (by simp))) (by simp))))
      refine flat_wd rfl (by simp only [okL, okD, hokd, Bool.and_self]) ?_
      exact ⟨_, _, S12, by rw [e]; rfl, rfl, d12, hnx, by omega⟩
    · rintro δ S' ⟨u, y4, S10, rfl, rfl, d10, hu, hj3⟩
      have hl10 : S10.length = S.length := d10.len.trans h.len.symm
      have hil := its_len u
      have hwu := wt_cnt u hu.ok
      have hcu := hu.cnt
      have hilt := its_len t
      have hwt := wt_cnt t ht.ok
      have hct := ht.cnt
      have hl : (List.length ((List.range (1 + (m : Int)).toNat).map fun (i : Nat) => SL.D.int (0 + (i : Int) * 1))) ≤ 3 := by
        rw [List.length_map, List.length_range]
        omega
      have hlen : hj3 = hj3 := rfl
      refine wf_asg (wp_op2 (wp_v rfl (wp_callG (wp_cons (wp_op2 (wp_v rfl (wp_c (gw_ix1T (wp_nil (gw_list3T ?_))))))))))
      refine ⟨SL.D.lst (t.its ++ u.its), ?_, ?_⟩
      · show (match asL (S10 ++ [.lst t.its]) (.loc S.length), asL (S10 ++ [.lst t.its]) (.lst u.its) with | some a, some b => if a.length + b.length ≤ 1000000 then some (SL.D.lst (a ++ b)) else none | _, _ => none) = _
        rw [asL_at (ds := t.its) (by rw [← hl10]; simp)]
        show (if t.its.length + u.its.length ≤ 1000000 then some (SL.D.lst (t.its ++ u.its)) else none) = _
        rw [if_pos (by omega)]
      · refine ⟨appR t u, _, _, _, S10, _, rfl, rfl, d10, ?_, by rw [app_its]; rfl⟩
        have hu2 : TwI ns k 6 u := ⟨hu.ok, fun x hx => (by rw [hu.nm] at hx; cases hx), by have := hu.hgt (Hf ns); omega, by omega, by have := hu.dp; omega⟩
        have := ht.app hu2
        exact ⟨this.ok, this.nm, this.hgt, Nat.le_trans this.cnt (by omega), this.dp⟩
  · exact ⟨t, _, _, _, S3, _, rfl, rfl, d3, ⟨ht.ok, ht.nm, ht.hgt, by have := ht.cnt; omega, ht.dp⟩, asL_at (by rw [← d3.len.trans h.len.symm]; simp)⟩
  · rintro δ S' ⟨t, d3, y4, y6, S2, gg, rfl, rfl, d2, ht, ha⟩
    refine wf_ret (wp_appA (wp_cons (wp_v rfl (wp_nil ⟨rfl, ?_⟩))))
    refine flat_wd ha (its_okL t) ?_
    exact wp_finG (td_ok t) (d2.len.trans h.len.symm) (h.settles d2) (q t S2 d2 ht)
theorem putD_new {ns : List (List Nat)} {ts : List Rw} {x : List Nat} {t : Rw} (hx : x ∉ ns) : putD (ns.map kT) (ts.map tD) (kT x) (tD t) = ((ns ++ [x]).map kT, (ts ++ [t]).map tD) := by
  unfold putD
  rw [memK_mapT, decide_eq_false hx]
  simp
theorem book_ok {ts : List Rw} (hlen : ns.length = 6) (nd : ns.Nodup) (hl : ts.length = 6) (h : ∀ i t, ts[i]? = some t → TwI ns i 20 t) : (bkOf ns ts).Ok := by
  have key : ∀ x ∈ ns, ∃ t, (bkOf ns ts).tr x = t ∧ TwI ns (ns.idxOf x) 20 t ∧ ns.idxOf x < 6 := fun x hx => by
    have hi : ns.idxOf x < ns.length := List.idxOf_lt_length_of_mem hx
    have e := List.getElem?_eq_getElem (l := ts) (i := ns.idxOf x) (by omega)
    refine ⟨_, ?_, h _ _ e, by omega⟩
    show ts.getD (ns.idxOf x) .nil = _
    rw [List.getD_eq_getElem?_getD, e]
    rfl
  refine ⟨nd, by show ns.length ≤ 1000; omega, fun x hx => ?_, fun x hx => ?_, fun x hx y hy => ?_, fun x hx => ?_⟩
  · obtain ⟨t, e, ht, _⟩ := key x hx
    rw [e]
    exact ht.ok
  · obtain ⟨t, e, ht, _⟩ := key x hx
    rw [e]
    have := wt_cnt t ht.ok
    have := ht.cnt
    omega
  · obtain ⟨t, e, ht, _⟩ := key x hx
    rw [e] at hy
    have hy2 := ht.nm y hy
    refine ⟨List.mem_of_mem_take hy2, ?_⟩
    show ns.idxOf y < ns.idxOf x
    obtain ⟨i, hi, e2⟩ := List.getElem_of_mem hy2
    rw [List.length_take] at hi
    rw [List.getElem_take] at e2
    rw [← e2, nd.idxOf_getElem i (by omega)]
    omega
  · obtain ⟨t, e, ht, _⟩ := key x hx
    rw [e]
    exact ht.hgt
theorem book_rw {ts : List Rw} (hlen : ns.length = 6) (nd : ns.Nodup) (hl : ts.length = 6) (h : ∀ i t, ts[i]? = some t → TwI ns i 20 t) {x : List Nat} (hx : x ∈ ns) : RwI (bkOf ns ts) ((bkOf ns ts).tr x) := by
  have hi : ns.idxOf x < ns.length := List.idxOf_lt_length_of_mem hx
  have e := List.getElem?_eq_getElem (l := ts) (i := ns.idxOf x) (by omega)
  have ht := h _ _ e
  have er : (bkOf ns ts).tr x = ts[ns.idxOf x]'(by omega) := by
    show ts.getD (ns.idxOf x) .nil = _
    rw [List.getD_eq_getElem?_getD, e]
    rfl
  rw [er]
  have h1 := wt_cnt _ ht.ok
  have h2 := ht.cnt
  have h3 := ht.dp
  refine ⟨ht.ok, by omega, isRow_of (by omega) (by omega), fun y hy => List.mem_of_mem_take (ht.nm y hy), ?_⟩
  have := ht.hgt
  show hgtR (Hf ns) _ ≤ 40
  omega
abbrev manyS : List Nat := [116, 111, 111, 109, 97, 110, 121]
theorem pl_many (i : Int) : pl 40 (.tup [.str manyS, .int i]) := ⟨by simp, fun d hd => by
  simp only [List.mem_cons, List.not_mem_nil, or_false] at hd
  rcases hd with rfl | rfl <;> exact trivial⟩
theorem pi_many (i : Int) : Pi 2 (.tup [.str manyS, .int i]) := fun d hd => by
  simp only [List.mem_cons, List.not_mem_nil, or_false] at hd
  rcases hd with rfl | rfl
  · exact Pi.s (by decide)
  · exact trivial
abbrev lngR : Rw := .times 20 (cls 20) .nil
abbrev morR : Rw := .call [] lngR
theorem cls_val {ν : List Nat → Option Nat} : ∀ n a : Nat, a + n ≤ 1000 → cntR ν (cls n) a = some (a + n)
  | 0, a, _ => rfl
  | n + 1, a, h => by
    have hc : 1000 ≤ capN := by decide
    show (if capN < a + 1 then none else cntR ν (cls n) (a + 1)) = _
    rw [if_neg (by omega), cls_val n (a + 1) (by omega)]
    congr 1
    omega
theorem lng_val {ν : List Nat → Option Nat} {a : Nat} (ha : a ≤ 10) : cntR ν lngR a = some (a + 400) := by
  have hc : 1000 ≤ capN := by decide
  show (match cntR ν (cls 20) 0 with | none => none | some v => if capN < a + 20 * v then none else cntR ν .nil (a + 20 * v)) = _
  rw [cls_val 20 0 (by decide)]
  show (if capN < a + 20 * 20 then none else some (a + 20 * 20)) = _
  rw [if_neg (by omega)]
theorem lng_cnt : cntR (valB eB0) lngR 0 = some 400 := lng_val (by decide)
theorem mor_cnt : cntR (valB eB0) morR 0 = some 401 := by
  have hc : 1000 ≤ capN := by decide
  show (if capN < 0 + 1 then none else cntR (valB eB0) lngR (0 + 1)) = _
  rw [if_neg (by omega), lng_val (by decide)]
theorem lng_ok : lngR.ok := ⟨by decide, cls_ok 20, trivial⟩
theorem lng_rw : RwI eB0 lngR := by
  have h1 := wt_cnt _ lng_ok
  have h2 : lngR.cnt = 21 := by decide
  have h3 : lngR.dp = 1 := by decide
  refine ⟨lng_ok, by omega, isRow_of (by omega) (by omega), fun y hy => ?_, by decide⟩
  have : nmR lngR = [] := by decide
  rw [this] at hy
  exact hy
theorem mor_ok : morR.ok := ⟨by decide, fun _ h => (by cases h), lng_ok⟩
theorem mor_rw : RwI eB0 morR := by
  have h1 := wt_cnt _ mor_ok
  have h2 : morR.cnt = 22 := by decide
  have h3 : morR.dp = 1 := by decide
  refine ⟨mor_ok, by omega, isRow_of (by omega) (by omega), fun y hy => ?_, by decide⟩
  have : nmR morR = [] := by decide
  rw [this] at hy
  exact hy
theorem law_wf {n : Nat} (hn : n = 11) (h : Dw [.tab A.t_law lamN] S) : wf (mlaw A (none :: some (.loc 0) :: List.replicate n none) S) noB (fun d _ => d = .bl true) noXs noB noB := by
  subst hn
  show wf (mlaw A [none, some (.loc 0), none, none, none, none, none, none, none, none, none, none, none] S) _ _ _ _ _
  unfold mlaw m_law
  have c60 : (10 : Int) ^ (60 : Int).toNat = 1000000000000000000000000000000000000000000000000000000000000 := by decide
  refine wf_seq (wf_asg ?_)
  repeat infer_instance
  refine names_wd (m := 6) (by decide) h fun ns S1 d1 hlen nd hok => ?_
  refine wf_seq (wf_asg (wp_ok rfl ?_))
  have htow : ∀ {U S : Store} {k : Nat} {Q : SL.D → Store → Prop} {X : Ex → Store → Prop}, k < 6 → Dw U S → (∀ t S', Dw U S' → TwI ns k 20 t → Q (tD t) S') → wp (φlaw_tower A [.loc 0, .lst (ns.map SL.D.str), .int (k : Int)] S) Q X := fun hk h q => tower_wd hlen nd hok hk h q
  have hnix : ∀ {k : Nat}, k < 6 → ∃ x, ns[k]? = some x ∧ x ∉ ns.take k ∧ ns.take (k + 1) = ns.take k ++ [x] ∧ ∀ {S : Store} {PP : SL.D → Prop}, PP (.str x) → GW (ixG S (.lst (ns.map SL.D.str)) (.int (k : Int))) PP := fun {k} hk => by
    have e := List.getElem?_eq_getElem (l := ns) (i := k) (by omega)
    refine ⟨ns[k], e, fun hm => ?_, by rw [List.take_succ, e]; rfl, fun {S PP} q => gw_ixL (by rw [List.getElem?_map, e]; rfl) q⟩
    obtain ⟨i, hi, e2⟩ := List.getElem_of_mem hm
    rw [List.length_take] at hi
    rw [List.getElem_take] at e2
    have h1 := nd.idxOf_getElem i (by omega)
    have h2 := nd.idxOf_getElem k (by omega)
    rw [e2] at h1
    omega
  have hnit : ∀ S, iterD S (.lst (ns.map SL.D.str)) = some (ns.map SL.D.str) := fun _ => rfl
  generalize SL.D.lst (ns.map SL.D.str) = nsd at htow hnix hnit ⊢
  have d1' : Dw ([.tab A.t_law lamN] ++ [.dct [] []]) (S1 ++ [.dct [] []]) := d1.app
  refine wf_seq ?_
  refine wf_for (fun j δ S' => ∃ (ts : List Rw) (y4 : Option SL.D) (S2 : Store), δ = [none, some (.loc 0), some nsd, some (.loc S1.length), y4, none, none, none, none, none, none, none, none] ∧ S' = S2 ++ [.dct ((ns.take j).map kT) (ts.map tD)] ∧ Dw [.tab A.t_law lamN] S2 ∧ ts.length = j ∧ j ≤ 6 ∧ ∀ i t, ts[i]? = some t → TwI ns i 20 t) ?_
  refine wp_src1 (wp_c ⟨6, rfl, by decide, _, fun _ _ _ _ => rfl, ⟨[], _, S1, rfl, rfl, d1, rfl, by decide, fun i t e => (by simp at e)⟩, ?_, ?_⟩)
  · rintro j dk hdk δ S' ⟨ts, y4, S2, rfl, rfl, d2, htl, hj6, hts⟩
    obtain ⟨hj, rfl⟩ : j < 6 ∧ dk = .int (j : Int) := by
      have hj := (List.getElem?_eq_some_iff.mp hdk).1
      have hj : j < 6 := by simpa using hj
      refine ⟨hj, ?_⟩
      rw [List.getElem?_map, List.getElem?_eq_getElem (by simpa using hj)] at hdk
      have := Option.some.inj hdk
      rw [← this]
      simp
    obtain ⟨x, hx, hxn, htk, hix⟩ := hnix hj
    have htow' := fun {U S : Store} {Q : SL.D → Store → Prop} {X : Ex → Store → Prop} => htow (U := U) (S := S) (Q := Q) (X := X) hj
    generalize hji : ((j : Nat) : Int) = ji at hix htow'
    refine gw_bind ?_
    refine NC.wf_setD (wp_appA (wp_cons (wp_v rfl (wp_cons (wp_v rfl (wp_cons (wp_v rfl (wp_nil ⟨rfl, ?_⟩))))))))
    refine htow' (d2.app (t := [.dct ((ns.take j).map kT) (ts.map tD)])) fun t S3 d3 ht => ?_
    obtain ⟨S4, d4, rfl⟩ := d3.cut
    have l4 : S4.length = S1.length := d4.len.trans d1.len.symm
    refine wp_v rfl (wp_op2 (wp_v rfl (wp_v rfl (hix ⟨S1.length, (ns.take j).map kT, ts.map tD, kT x, rfl, by rw [← l4]; simp, rfl, by rw [List.length_map, List.length_take]; omega, ?_⟩))))
    rw [putD_new hxn]
    refine ⟨ts ++ [t], _, S4, rfl, ?_, d4, by rw [List.length_append]; simp; omega, by omega, fun i u e => ?_⟩
    · rw [← l4, List.set_append_right _ _ (Nat.le_refl _), Nat.sub_self, htk]
      rfl
    · by_cases hi : i < ts.length
      · rw [List.getElem?_append_left hi] at e
        exact hts i u e
      · rw [List.getElem?_append_right (by omega)] at e
        have h0 : i - ts.length = 0 := by
          rcases Nat.eq_zero_or_pos (i - ts.length) with z | z
          · exact z
          · rw [List.getElem?_eq_none (by simp; omega)] at e
            cases e
        rw [h0] at e
        have : i = j := by omega
        subst this
        cases e
        exact ht
  rintro δ S' ⟨ts, y4, S2, rfl, rfl, d2, htl, _, hts⟩
  have htl : ts.length = 6 := by simpa using htl
  have l2 : S2.length = S1.length := d2.len.trans d1.len.symm
  have etk : ns.take (List.length ((List.range (6 : Int).toNat).map fun (i : Nat) => SL.D.int (0 + (i : Int) * 1))) = ns := by
    rw [List.length_map, List.length_range]
    exact List.take_of_length_le (by rw [hlen]; decide)
  rw [etk]
  have hB := book_ok hlen nd htl hts
  have hRw := fun {x : List Nat} (hx : x ∈ ns) => book_rw hlen nd htl hts hx
  have hg30 : ∀ x ∈ ns, hgtR (bkOf ns ts).H ((bkOf ns ts).tr x) ≤ 30 := fun x hx => by
    have h1 := hB.hgt x hx
    have h2 : ns.idxOf x < ns.length := List.idxOf_lt_length_of_mem hx
    have h3 : (bkOf ns ts).H x = 3 + 5 * ns.idxOf x := rfl
    omega
  have hbn : (bkOf ns ts).bn = ns := rfl
  have emap := bkOf_map nd (htl.trans hlen.symm)
  rw [emap]
  have hlt : ∀ x ∈ ns, ∀ S', Dw S' S' → True := fun _ _ _ _ => trivial
  generalize bkOf ns ts = B at hB hRw hg30 hbn ⊢
  have l1 : S1.length = 2 := d1.len
  have d3 : Dw (.tab A.t_law lamN :: .dct (ns.map kT) (ns.map fun x => tD (B.tr x)) :: []) (S2 ++ [.dct (ns.map kT) (ns.map fun x => tD (B.tr x))]) := d2.app
  rw [l1]
  generalize S2 ++ [Cell.dct (ns.map kT) (ns.map fun x => tD (B.tr x))] = S3 at d3 ⊢
  have two : ∀ {S : Store} {gg : Store}, Dw (.tab A.t_law lamN :: .dct (ns.map kT) (ns.map fun x => tD (B.tr x)) :: gg) S → (∃ j : Nat, S[j]? = some (.tab A.t_law lamN)) ∧ S[2]? = some (.dct (B.bn.map kT) (B.bn.map fun x => tD (B.tr x))) := fun {S gg} h => by
    obtain ⟨ns', i, w, s, c, _, rfl⟩ := h
    exact ⟨⟨1, rfl⟩, by rw [hbn]; rfl⟩
  have hvB := fun {x : List Nat} (hx : x ∈ B.bn) => valB_is hB hx
  have hsB := fun {x : List Nat} (hx : x ∈ B.bn) => sigB_is hB hx
  have hsk : ∀ x, okL 0 (sigB B x) = true := fun x => sigB_ok _ x
  have hsl : ∀ x v, valB B x = some v → (sigB B x).length = v := fun x v h => sig_len hB x v h
  refine wf_seq ?_
  refine wf_for (fun j δ S' => ∃ (y4 y5 y6 y7 y8 y9 y10 : Option SL.D) (gg : Store), δ = [none, some (.loc 0), some nsd, some (.loc 2), y4, y5, y6, y7, y8, y9, y10, none, none] ∧ Dw (.tab A.t_law lamN :: .dct (ns.map kT) (ns.map fun x => tD (B.tr x)) :: gg) S') ?_
  refine wp_srcV (wp_v rfl ⟨by rw [hnit]; rfl, ns.map SL.D.str, fun _ _ _ _ => hnit _, ⟨_, _, _, _, _, _, _, [], rfl, d3⟩, ?_, ?_⟩)
  · rintro j d hd δ S' ⟨y4, y5, y6, y7, y8, y9, y10, gg, rfl, d4⟩
    obtain ⟨x, hx, rfl⟩ := get_map hd
    have hxm : x ∈ ns := List.mem_of_getElem? hx
    have hxb : x ∈ B.bn := by rw [hbn]; exact hxm
    have hR := hRw hxm
    have e2 := (two d4).2
    have hcnt := fun {S : Store} {Q : SL.D → Store → Prop} {X : Ex → Store → Prop} (e : S[2]? = some (.dct (B.bn.map kT) (B.bn.map fun x => tD (B.tr x)))) (k : ∀ y, Q (oI (cntR (valB B) (B.tr x) 0)) (S ++ [y])) => law_count_wd (A := A) (X := X) hB (fun x hx => hvB hx) hR.ok hR.wt hR.nm (hg30 x hxm) (BkS.loc e) k
    have hmany := fun {S : Store} {Q : SL.D → Store → Prop} {X : Ex → Store → Prop} (e : S[2]? = some (.dct (B.bn.map kT) (B.bn.map fun x => tD (B.tr x)))) (k : ∀ v, cntR (valB B) (B.tr x) 0 = some v → Q (.int ((v : Nat) : Int)) S) (kx : cntR (valB B) (B.tr x) 0 = none → X (xCap A) S) => many_done_wd (A := A) hB (fun x hx => hvB hx) hR (bka_loc e) k kx
    have hspell := fun {S : Store} {most : Int} {Q : SL.D → Store → Prop} {X : Ex → Store → Prop} (e : S[2]? = some (.dct (B.bn.map kT) (B.bn.map fun x => tD (B.tr x)))) (hm : most ≤ 400) (k : ∀ v : Nat, cntR (valB B) (B.tr x) 0 = some v → (v : Int) ≤ most → Q (.loc S.length) (S ++ [.lst (spl (sigB B) (B.tr x))])) (k2 : ∀ v : Nat, cntR (valB B) (B.tr x) 0 = some v → most < (v : Int) → X (xMany A (.int most)) S) (kx : cntR (valB B) (B.tr x) 0 = none → X (xCap A) S) => spelled_wd (A := A) hB (fun x hx => hvB hx) (fun x hx => hsB hx) hsk hsl hR (bka_loc e) hm k k2 kx
    have hsplen : ∀ v, cntR (valB B) (B.tr x) 0 = some v → (spl (sigB B) (B.tr x)).length = v := fun v e => by
      have := spl_lenA hsl (B.tr x) 0 v e
      omega
    generalize spl (sigB B) (B.tr x) = SP at hspell hsplen
    generalize hT : tD (B.tr x) = td at hcnt hmany hspell
    refine gw_bind ?_
    refine wf_seq (wf_asg (wp_op2 (wp_v rfl (wp_v rfl (gw_ixDk (asDct_loc e2) hxb ?_)))))
    rw [hT]
    refine wf_seq (wf_asg (wp_appA (wp_cons (wp_v rfl (wp_cons (wp_ok rfl (wp_cons (wp_v rfl (wp_nil ⟨rfl, hcnt e2 fun y => ?_⟩)))))))))
    have d5 : Dw (.tab A.t_law lamN :: .dct (ns.map kT) (ns.map fun x => tD (B.tr x)) :: (gg ++ [y])) (S' ++ [y]) := d4.app
    obtain ⟨hj5, e5⟩ := two d5
    generalize S' ++ [y] = S5 at d5 hj5 e5 ⊢
    generalize cntR (valB B) (B.tr x) 0 = V at hmany hspell hsplen ⊢
    refine wf_seq (wf_asg ?_)
    refine wp_most hj5 (wp_appN (wp_cons (wp_v rfl (wp_nil (wp_cons (wp_v rfl (wp_nil ⟨⟨rfl, rfl⟩, rfl, ?_⟩)))))))
    cases V with
    | none =>
      refine hmany e5 (fun v e => (by cases e)) fun _ => ⟨by simp [ctOf], _, rfl, ?_⟩
      refine wf_seq (wf_if (wp_notB (wp_trM ?_)))
      refine wp_appA (wp_cons (wp_v rfl (wp_cons (wp_ifM (wp_cmpB (wp_v rfl (wp_c ⟨true, rfl, fun _ => ?_, fun z => (by cases z)⟩)))))))
      refine wp_callG (wp_cons (wp_c (wp_cons (wp_op2 (wp_c (wp_c (gw_pow (wp_nil (gw_tup ?_ (by simp))))))))))
      rw [c60]
      refine wp_nil ⟨rfl, ?_⟩
      refine same_wd (pl_many _) ?_
      refine gt_bl ⟨fun z => (by cases z), fun _ => wf_nxM ?_⟩
      refine wf_seq (wf_if (wp_cmpB (wp_v rfl (wp_c ⟨true, rfl, fun _ => ?_, fun z => (by cases z)⟩))))
      refine wf_seq (wf_if (wp_cmpB ?_))
      refine wp_most hj5 (wp_appN (wp_cons (wp_v rfl (wp_nil (wp_cons (wp_v rfl (wp_cons (wp_c (wp_nil ⟨⟨rfl, rfl⟩, rfl, ?_⟩)))))))))
      refine hspell e5 (by decide) (fun v e => (by cases e)) (fun v e => (by cases e)) fun _ => ⟨by simp [ctOf], _, rfl, ?_⟩
      refine wp_callG (wp_cons (wp_c (wp_cons (wp_op2 (wp_c (wp_c (gw_pow (wp_nil (gw_tup ?_ (by simp))))))))))
      rw [c60]
      refine gb_neD 2 2 .rf .rf (pi_many _) (pi_many _) ?_
      rw [cB_t rfl]
      refine ⟨fun z => (by cases z), fun _ => wf_nxM (wf_ctM ?_)⟩
      exact ⟨_, _, _, _, _, _, _, _, rfl, d5⟩
    | some v =>
      refine hmany e5 (fun v' e => ?_) fun e => (by cases e)
      cases e
      have hsplen := hsplen v rfl
      have hoi : oI (some v) = .int ((v : Nat) : Int) := rfl
      rw [hoi]
      generalize hvi : ((v : Nat) : Int) = vi
      have hv0 : 0 ≤ vi := by omega
      refine wf_seq (wf_if (wp_notB (wp_trM ?_)))
      refine wp_appA (wp_cons (wp_v rfl (wp_cons (wp_ifM (wp_cmpB (wp_v rfl (wp_c ⟨false, rfl, fun z => (by cases z), fun _ => wp_v rfl (wp_nil ⟨rfl, ?_⟩)⟩)))))))
      refine same_wd trivial ?_
      refine gt_bl ⟨fun z => (by cases z), fun _ => wf_nxM ?_⟩
      refine wf_seq (wf_if (wp_cmpB (wp_v rfl (wp_c ⟨false, rfl, fun z => (by cases z), fun _ => wf_nxM ?_⟩))))
      refine wf_seq (wf_asg ?_)
      refine wp_callG (wp_cons (wp_c (wp_cons (wp_callG (wp_cons (wp_c (wp_cons (wp_op2 (wp_op2 (wp_v rfl ?_))))))))))
      repeat infer_instance
      refine wd_draw d5 (by decide) (by decide) fun q S6 d6 hq => ?_
      repeat infer_instance
      refine gw_min2 (wp_nil (gw_max2 ?_))
      have hmost : (if (if vi + ((q : Nat) : Int) - 1 < 400 then vi + ((q : Nat) : Int) - 1 else 400) > 0 then (if vi + ((q : Nat) : Int) - 1 < 400 then vi + ((q : Nat) : Int) - 1 else 400) else 0) ≤ 400 := by
        split
        · split
          · omega
          · omega
        · decide
      generalize (if (if vi + ((q : Nat) : Int) - 1 < 400 then vi + ((q : Nat) : Int) - 1 else 400) > 0 then (if vi + ((q : Nat) : Int) - 1 < 400 then vi + ((q : Nat) : Int) - 1 else 400) else 0) = most at hmost ⊢
      obtain ⟨hj6, e6⟩ := two d6
      refine wf_seq (wf_asg ?_)
      refine wp_most hj6 (wp_appN (wp_cons (wp_v rfl (wp_nil (wp_cons (wp_v rfl (wp_cons (wp_v rfl (wp_nil ⟨⟨rfl, rfl⟩, rfl, ?_⟩)))))))))
      refine hspell e6 hmost (fun v' e hle => ?_) (fun v' e hlt => ?_) fun e => (by cases e)
      · cases e
        refine wf_if (wp_cmpB (wp_v rfl (wp_v rfl (gb_gtI ⟨fun z => ?_, fun z => ?_⟩))))
        · have z := of_decide_eq_true z
          omega
        · refine wf_if (wp_orB (wp_notB (wp_trM ?_)))
          refine wp_callG (wp_cons (wp_v rfl (wp_cons (wp_c (wp_nil (gw_isi (t := "list") ?_ (by simp [tyN]) rfl)))))) 
          refine gt_bl ⟨fun z => (by cases z), fun _ => ?_⟩
          refine wp_cmpB (wp_callG (wp_cons (wp_v rfl (wp_nil (gw_lenEnd ?_)))))
          rw [hsplen, hvi]
          refine wp_v rfl (gb_neI ⟨fun z => ?_, fun _ => wf_nxM ?_⟩)
          · simp at z
          · exact ⟨_, _, _, _, _, _, _, _, rfl, d6.app⟩
      · cases e
        refine ⟨by simp [ctOf], _, rfl, ?_⟩
        refine wf_if (wp_cmpB (wp_v rfl (wp_v rfl (gb_gtI ⟨fun z => ?_, fun z => ?_⟩))))
        · refine wf_if (wp_cmpB (wp_v rfl (wp_callG (wp_cons (wp_c (wp_cons (wp_v rfl (wp_nil (gw_tup ?_ (by simp))))))))))
          refine gb_neD 2 2 .rf .rf (pi_many _) (pi_many _) ?_
          rw [cB_t rfl]
          refine ⟨fun z => (by cases z), fun _ => wf_nxM ?_⟩
          exact ⟨_, _, _, _, _, _, _, _, rfl, d6⟩
        · have z := of_decide_eq_false z
          omega
  · rintro δ S' ⟨y4, y5, y6, y7, y8, y9, y10, gg, rfl, d4⟩
    obtain ⟨hj4, e4⟩ := two d4
    have hb1 := fun {S : Store} {Q : SL.D → Store → Prop} {X : Ex → Store → Prop} (k : Q (.loc S.length) (S ++ [.lst (spl (sigB eB0) lngR)])) => spelled_wd (A := A) (S := S) (Q := Q) (X := X) (bd := .non) (most := 400) emB_ok (fun x hx => (by cases hx)) (fun x hx => (by cases hx)) (fun x => sigB_ok _ x) (fun x v h => sig_len emB_ok x v h) lng_rw (.inr ⟨rfl, rfl⟩) (Int.le_refl _) (fun _ _ _ => k) (fun v e h => by rw [lng_cnt] at e; cases e; exact absurd h (by decide)) fun e => by rw [lng_cnt] at e; cases e
    have hb2 := fun {S : Store} {Q : SL.D → Store → Prop} {X : Ex → Store → Prop} (kx : X (xMany A (.int 400)) S) => spelled_wd (A := A) (S := S) (Q := Q) (X := X) (bd := .non) (most := 400) emB_ok (fun x hx => (by cases hx)) (fun x hx => (by cases hx)) (fun x => sigB_ok _ x) (fun x v h => sig_len emB_ok x v h) mor_rw (.inr ⟨rfl, rfl⟩) (Int.le_refl _) (fun v e h => by rw [mor_cnt] at e; cases e; exact absurd h (by decide)) (fun v e h => kx) fun e => by rw [mor_cnt] at e; cases e
    have hsl : (spl (sigB eB0) lngR).length = 400 := by
      have := spl_lenA (ν := valB eB0) (fun x v h => sig_len emB_ok x v h) lngR 0 400 lng_cnt
      omega
    have hi1 : (cls 20).its = (List.replicate 20 [SL.D.tup [.str [99, 97, 108, 108], .str []]]).flatten := rfl
    refine wf_seq (wf_asg (wp_appA (wp_cons (wp_callG (wp_cons (wp_callG (wp_cons (wp_c (wp_cons (wp_c (wp_cons (wp_appA (wp_cons (wp_op2 (wp_callG (wp_cons (wp_callG (wp_cons (wp_c (wp_cons (wp_c (wp_nil (gw_tup (wp_nil (gw_lst (wp_c (gw_mulLs (n := 20) (wp_nil ⟨rfl, ?_⟩) (by decide) (by simp))) (by simp))) (by simp))))))))))))))))))))))))
    refine flat_wd rfl (by decide) ?_
    refine wp_nil (gw_tup (wp_nil (gw_lst (wp_nil ⟨rfl, ?_⟩) (by simp))) (by simp))
    refine flat_wd rfl (by decide) ?_
    have e1 : SL.D.tup [.str w_steps, .tup [.tup [.str [116, 105, 109, 101, 115], .int 20, .tup [.str w_steps, .tup (List.replicate 20 [SL.D.tup [.str [99, 97, 108, 108], .str []]]).flatten]]]] = tD lngR := by
      rw [← hi1]
      rfl
    rw [e1]
    have hix : ∀ {S : Store} {PP : SL.D → Prop}, PP (.tup lngR.its) → GW (ixG S (tD lngR) (.int 1)) PP := fun k => gw_ix1T k
    have e2 : ([SL.D.tup [.str [99, 97, 108, 108], .str []]] ++ lngR.its) = morR.its := rfl
    have hle : lngR.its.length = 1 := rfl
    have hto : okL 0 morR.its = true := its_okL _
    have e3 : SL.D.tup [.str w_steps, .tup morR.its] = tD morR := rfl
    generalize tD lngR = t1 at hb1 hix ⊢
    generalize spl (sigB eB0) lngR = SP at hb1 hsl
    generalize lngR.its = li at hix e2 hle
    refine wf_seq (wf_if (wp_cmpB (wp_callG (wp_cons (wp_most hj4 (wp_appD (wp_cons (wp_v rfl (wp_nil ⟨rfl, ?_⟩)))))))))
    refine hb1 (wp_nil (gw_lenEnd ?_))
    rw [hsl]
    refine wp_c (gb_neI ⟨fun z => (by simp at z), fun _ => wf_nxM ?_⟩)
    have d5 : Dw (.tab A.t_law lamN :: .dct (ns.map kT) (ns.map fun x => tD (B.tr x)) :: (gg ++ [.lst SP])) (S' ++ [.lst SP]) := d4.app
    obtain ⟨hj5, e5⟩ := two d5
    generalize S' ++ [Cell.lst SP] = S5 at d5 hj5 ⊢
    refine wf_seq (wf_asg (wp_appA (wp_cons (wp_op2 (wp_callG (wp_cons (wp_callG (wp_cons (wp_c (wp_cons (wp_c (wp_nil (gw_tup (wp_nil (gw_lst (wp_callG (wp_cons (wp_op2 (wp_v rfl (wp_c (hix (wp_nil (gw_list3T (gw_addL ?_ (by rw [hle]; decide)))))))))))))))))))))))))
    rw [e2]
    refine wp_nil ⟨rfl, flat_wd rfl hto ?_⟩
    rw [e3]
    generalize tD morR = t2 at hb2 ⊢
    refine wf_ret (wp_andM (wp_op2 (wp_most hj5 (wp_appD (wp_cons (wp_v rfl (wp_nil ⟨rfl, ?_⟩)))))))
    refine hb2 ⟨by simp [ctOf], _, rfl, ?_⟩
    refine wp_callG (wp_cons (wp_c (wp_cons (wp_c (wp_nil (gw_tup ?_ (by simp)))))))
    refine gw_eqD 2 2 .rf .rf (pi_many _) (pi_many _) ?_
    rw [cB_t rfl]
    refine gt_bl ⟨fun _ => ?_, fun z => (by cases z)⟩
    refine wp_andM (wp_op2 (wp_c (wp_op2 (wp_c (wp_c (gw_pow ?_))))))
    rw [c60]
    refine gw_eqI ?_
    rw [decide_eq_true rfl]
    refine gt_bl ⟨fun _ => ?_, fun z => (by cases z)⟩
    refine wp_op2 (wp_c (wp_c (gw_eqI ?_)))
    rfl
theorem law_true (A : Ad) (ns : List Int) (hl : ns.length ≤ 63) : ∃ S', mlaw A (none :: some (.loc 0) :: List.replicate 11 none) (drawS ns 0 0 (seedOf ns) 0 :: tabsS [(A.t_law, "law.<locals>.<lambda>")]) = .rt (.bl true) S' := by
  obtain ⟨d, S', e, rfl⟩ := wf_rt (law_wf (A := A) (n := 11) rfl ⟨ns, 0, 0, seedOf ns, 0, by omega, rfl⟩)
  exact ⟨S', e⟩
end
end K31
open PySem PySem.W PySem.Calls PyProof.Rows
theorem PySem.Challenge.cw_nearcall_k31_how_many_steps_holds : PySem.Challenge.rw_nearcall_k31_how_many_steps.Holds := by
  w_on; o_law
  refine HandSHeadRun.head_any (r := OpenLaw.row PySem.Challenge.rw_nearcall_k31_how_many_steps) (q := view (OpenLaw.row PySem.Challenge.rw_nearcall_k31_how_many_steps).prog [43]) (H := K31.hk) (ob := K31.ob) (M := 40000) (loose := K31.loose) (d := HandSHeadRun.topDef (OpenLaw.row PySem.Challenge.rw_nearcall_k31_how_many_steps).prog 43) (kwd := []) K31.ob_eq
    (by kernel_rfl) (fun s => by kernel_rfl) K31.run (by kernel_rfl) (by kernel_rfl) (by kernel_rfl) (by rfl) (by first | assumption | decide +kernel) (by decide +kernel) ⟨rfl, rfl, rfl, rfl, rfl, by decide +kernel⟩ ?hw ?hc
  case hw => w_witness2
  case hc =>
    refine LamX.walk_ofTsE (l := PySem.Challenge.rw_nearcall_k31_how_many_steps) (n := 63) (k := 91) (x := "_law_script") (CX := fun _ => L2.CX0) rfl (by decide) (by kernel_rfl) ⟨rfl, by decide, by decide⟩ ?F (fun _ _ _ _ _ z => z)
    intro w mg fa h Y G hmg0
    obtain ⟨K, KX, c, cT⟩ := Y
    have hmg : mg ("law" : PySem.Str) = some (.ref fa) := by
      have e : (HandSHeadRun.topDef (OpenLaw.row PySem.Challenge.rw_nearcall_k31_how_many_steps).prog 43).name = ("law" : PySem.Str) := by kernel_rfl
      rw [← e]
      exact hmg0
    obtain ⟨E, x⟩ := K31.fx_of KX G c
    have e := hmg.symm.trans x.m_law
    cases e
    have b := x.F_law.bindsA (ps := ["_law_script"]) fun _ _ _ _ _ _ us hl => match us, hl with | [_], _ => rfl
    have hE : ∀ p ∈ K31.tfL.map (He.cT K), ∃ q ∈ K31.tfL, He.cT K q = p := fun p hp => List.mem_map.mp hp
    refine ⟨K, KX, _, K31.tfL.map (He.cT K), _, fun p hp => ?_, fun p hp => ?_, fun p hp => ?_, fun s v => b s [v] rfl, fun H a ns hl _ hH hS => ⟨a, ns, rfl, hS, hl, K31.law_true _ ns hl, by simp, fun t ht => ?_, fun _ => rfl⟩, fun base _ _ hB => SL.no_out (K31.p_law x (fun p hp => hB _ (List.mem_map_of_mem hp)) (Nat.le_refl _)) fun _ _ _ _ h => h⟩
    · obtain ⟨q, hq, rfl⟩ := hE p hp
      exact cT.empty q hq
    · obtain ⟨q, hq, rfl⟩ := hE p hp
      exact cT.out q hq
    · obtain ⟨q, hq, rfl⟩ := hE p hp
      exact PySem.W.codeHd_of_K KX (cT.hd q hq)
    · simp only [List.mem_cons, List.not_mem_nil, or_false] at ht
      rcases ht with rfl
      all_goals exact LamX.TabS.nil (hH _ (List.mem_map_of_mem (by simp [K31.tfL])))
