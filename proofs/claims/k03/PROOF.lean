import PyProof.Rows.All
import Wide.All
import OpenK.AllK
import Wide.FinOn
import HandS.Exc
import HandS.ExcInit
import HandS.ExcField
import HandS.Words
import HandS.Head0
import HandS.Head1
import HandS.Head2
import HandS.HeadEnd
import HandS.HeadHook1
import HandS.HeadHook2
import HandS.HeadHook3
import HandS.HeadHook4
import HandS.HeadWalk
import KE.KExcInit
import HandS.ForMost
import HandS.WordsExc
import HandS.CallSlots
import HandS.IsInst
import HandS.Flow
import HandS.Conv
import HandS.Wide
import HandS.Style
import HandS.StrMore
import HandS.FStr
import HandS.Lambda
import HandS.TupAny
import HandS.Deep
import PyProof.StrOps2
import HandS.TupLe
import PyProof.Rows.StrCase
import PyProof.StrBlockL
import HandS.Defaults
import HandS.ClsMeth
import HandS.SortKw
import KE.SortKeyHeap
import PyProof.CollectIter
import PyProof.WalksMore
import PyProof.ListStr
import KE.DatumOrd
import PyProof.TupleOfSeq
import PyProof.Rows.SortShellAny
import PyProof.Rows.SortWalk
import HandS.Small
import HandS.More
import HandS.DictComp
import KE.KUnpackStar
import HandS.NoneIn
import HandS.Zip
import KE.GoesEnum
import KE.GoesMore
import KE.GoesZip
import HandS.SetBool
import HandS.SetKeys
import HandS.Remove
import HandS.SortInts
import KE.KDictZip
import KE.KTryMore
import PyProof.ExcBaseAll.ValueError
import PyProof.ExcBaseAll.LookupError
import PyProof.ExcBaseAll.IndexError
import HandS.EndTab
import PyProof.StrLawsIn
import HandS.OwnEq
import HandS.WideMore
import PySem.Challenge.RW_nearcall_k03_chains_of_forcing
set_option Elab.async false
set_option linter.all false
set_option maxRecDepth 100000
set_option maxHeartbeats 4000000
namespace SL
open PySem PySem.Spec L2
open PyProof.Rows hiding St
def clsDef (s : Stmt) (j : Nat) : Stmt := match s with
  | .ClassDef _ _ _ b _ _ _ _ _ _ _ => b.getD j (.Pass ⟨0, 0, 0, 0⟩)
  | _ => .Pass ⟨0, 0, 0, 0⟩
def oexB (K : PySem.W.Frag) (C : Addr) : Bool := (match K.lookup C with
  | some ⟨.type "type", _, .cls cd, sl⟩ => (match cd.mro, sl.toList with
    | .ref C' :: bm, [_, _, _, _, some (.builtin n), _] => C' == C && n == "ValueError.__new__" && !cd.hasDel && cd.hasDict && PySem.HandSPX.refsVE bm
    | _, _ => false)
  | _ => false) && (decide (PySem.W.findIn K (.ref C) "__setattr__" = some (some (.builtin "object.__setattr__"))) && (decide (PySem.W.subIn K (.ref C) (.type "BaseException") = some true) && (decide (PySem.W.typeIn K (.ref C) = some (.type "type")) && PySem.W.keepIn K (.ref C))))
def oexIB (K : PySem.W.Frag) (C fI : Addr) (fs : List Str) : Bool := oexB K C && (decide (PySem.W.findIn K (.ref C) "__init__" = some (some (.ref fI))) && (decide (PySem.W.typeIn K (.ref fI) = some (.type "function")) && fs.all fun f => decide (PySem.W.findIn K (.ref C) f = some none)))
def crB (K : PySem.W.Frag) (C f : Addr) : Bool := PySem.W.readsIn K C (.type "type") && (decide (PySem.W.specialIn K (.ref C) "__getattribute__" = some (some (.builtin "type.__getattribute__"))) && (match PySem.W.findCls K (.ref C) (.type "type") "__init__" with
  | some (.val (.ref g)) => decide (g = f)
  | _ => false))
def veiB (K : PySem.W.Frag) : Bool := match PySem.W.findCls K (.type "ValueError") (.type "type") "__init__" with
  | some (.val (.builtin n)) => decide (n = "ValueError.__init__")
  | _ => false
def xfAll (K : PySem.W.Frag) (l : List (Addr × Bool)) (fs : List Str) : Bool := l.all fun p => !p.2 || (xfB K p.1 && fs.all fun f => decide (PySem.W.findIn K (.ref p.1) f = some none))
def ctBT (K : PySem.W.Frag) (cs : List Value) (l : List (Addr × Bool)) : Bool := l.all fun p => decide (PySem.W.exmAny K (.ref p.1) cs = some p.2)
section
variable {fa : List He.Fa} {fn : List He.DefD} {ex : PySem.W.Frag → Bool}
structure SaysY (fa : List He.Fa) (fn : List He.DefD) (ex : PySem.W.Frag → Bool) (K : PySem.W.Frag) : Prop where
  d : He.SaysD fa fn K
  more : ex K = true
structure TabsY (tf : List He.Defn) (h : Heap) (K : PySem.W.Frag) : Prop where
  hd : ∀ p ∈ tf, PySem.W.codeHdIn K (He.cT K p).1 (He.cT K p).2 = true
  out : ∀ p ∈ tf, K.lookup (He.cT K p).2 = none
  empty : ∀ p ∈ tf, h.get? (He.cT K p).2 = some { cls := .none, data := .fields #[] }
theorem tabsY_of {tf : List He.Defn} {h : Heap} {as : List Addr} (e : He.tabsB h.get? tf (He.frT h.get? as) = true) : TabsY tf h (He.frT h.get? as) := by
  have key : ∀ p ∈ tf, PySem.W.codeHdIn (He.frT h.get? as) (He.cT (He.frT h.get? as) p).1 (He.cT (He.frT h.get? as) p).2 = true ∧ ∃ o, h.get? (He.cT (He.frT h.get? as) p).2 = some o ∧ He.emptyTab o = true := fun p hp => by
    obtain ⟨h3, h4⟩ := Bool.and_eq_true_iff.mp (List.all_eq_true.mp e p hp)
    refine ⟨h3, ?_⟩
    cases q : h.get? (He.cT (He.frT h.get? as) p).2 with
    | none =>
      rw [q] at h4
      cases h4
    | some o =>
      rw [q] at h4
      exact ⟨o, rfl, h4⟩
  exact ⟨fun p hp => (key p hp).1, fun p hp => by
    obtain ⟨_, o, q, z⟩ := key p hp
    exact He.frT_none q z, fun p hp => by
    obtain ⟨_, o, q, z⟩ := key p hp
    rw [q, He.emptyTab_eq z]⟩
end
section
variable {fa : List He.Fa} {fn : List He.DefD} {ex : PySem.W.Frag → Bool}
def frZ (n : Nat) (g : Addr → Option Obj) : PySem.W.Frag := He.frT g (mainGlobals :: List.range n)
def obsZ (n : Nat) (fa : List He.Fa) (fn : List He.DefD) (tf : List He.Defn) (ex : PySem.W.Frag → Bool) (g : Addr → Option Obj) : He.AlD × Bool := (He.obsD fa fn (frZ n g), ex (frZ n g) && He.tabsB g tf (frZ n g))
def hookZ (n : Nat) (fa : List He.Fa) (fn : List He.DefD) (tf : List He.Defn) (ex : PySem.W.Frag → Bool) : PySem.W.Hook where
  α := He.AlD × Bool
  obs := fun s => obsZ n fa fn tf ex s.heap.get?
  val := fun _ => (He.valD fn, true)
  says := fun _ h => ∃ K : PySem.W.Frag, K.In h ∧ SaysY fa fn ex K ∧ TabsY tf h K
  of := fun _ s e => ⟨_, He.frT_in, ⟨congrArg Prod.fst e, (Bool.and_eq_true_iff.mp (congrArg Prod.snd e)).1⟩, tabsY_of (Bool.and_eq_true_iff.mp (congrArg Prod.snd e)).2⟩
  keeps := fun _ _ _ ⟨K, hK, c, t⟩ k => ⟨K, PySem.W.Frag.In.keeps hK k, c, ⟨t.hd, t.out, fun p hp => k _ _ (t.empty p hp)⟩⟩
theorem obsZ_eq {n : Nat} {tf : List He.Defn} {g : Addr → Option Obj} {s : Shared} (h : ∀ a, g a = s.heap.get? a) : obsZ n fa fn tf ex g = (hookZ n fa fn tf ex).obs s := by
  have e : g = s.heap.get? := funext h
  rw [e] <;> rfl
end
section
variable {fa : List He.Fa} {fn : List He.DefD} {ex : PySem.W.Frag → Bool}
structure EmpY (es : List Addr) (h : Heap) (K : PySem.W.Frag) : Prop where
  at_ : ∀ e ∈ es, K.lookup e = none ∧ ∃ o n, h.get? e = some o ∧ o.cls = .type "tuple" ∧ o.data = .seq #[] n
end
def oexW : Nat → String | 0 => "ValueError.__new__" | 1 => "LookupError.__new__" | _ => "IndexError.__new__"
def oexT : Nat → List Value
  | 0 => [.type "ValueError", .type "Exception", .type "BaseException", .type "object"]
  | 1 => [.type "LookupError", .type "Exception", .type "BaseException", .type "object"]
  | _ => [.type "IndexError", .type "LookupError", .type "Exception", .type "BaseException", .type "object"]
section
variable {fa : List He.Fa} {fn : List He.DefD} {ex : PySem.W.Frag → Bool}
end
end SL
namespace SL
section
open PySem PySem.W PySem.Calls PyProof.Rows HandSHeadRun
end
end SL
namespace K03
open PySem PySem.Spec L2 SL
open PyProof.Rows hiding St
def top (i : Nat) : Stmt := PySem.Challenge.pw_nearcall_k03_chains_of_forcing.main.body.getD i (.Pass ⟨0, 0, 0, 0⟩)
abbrev tfL : List He.Defn := [("law", none)]
def dd_law : He.DefD := ⟨("law", none), "law", "law", defArgs (top 33), defBody (top 33), defScope (top 33), [], []⟩
def dd_law_start : He.DefD := ⟨("_law_start", none), "_law_start", "_law_start", defArgs (top 21), defBody (top 21), defScope (top 21), [], []⟩
def dd_law_draw : He.DefD := ⟨("_law_draw", none), "_law_draw", "_law_draw", defArgs (top 22), defBody (top 22), defScope (top 22), [], []⟩
def dd_law_shuts : He.DefD := ⟨("_law_shuts", none), "_law_shuts", "_law_shuts", defArgs (top 25), defBody (top 25), defScope (top 25), [], []⟩
def dd_law_pairs : He.DefD := ⟨("_law_pairs", none), "_law_pairs", "_law_pairs", defArgs (top 27), defBody (top 27), defScope (top 27), [], []⟩
def dd_law_of : He.DefD := ⟨("_law_of", none), "_law_of", "_law_of", defArgs (top 23), defBody (top 23), defScope (top 23), [], []⟩
def dd_chain : He.DefD := ⟨("chain", none), "chain", "chain", defArgs (top 19), defBody (top 19), defScope (top 19), [], []⟩
def dd_law_far : He.DefD := ⟨("_law_far", none), "_law_far", "_law_far", defArgs (top 32), defBody (top 32), defScope (top 32), [], []⟩
def dd_law_straight : He.DefD := ⟨("_law_straight", none), "_law_straight", "_law_straight", defArgs (top 31), defBody (top 31), defScope (top 31), [], []⟩
def dd_law_strange : He.DefD := ⟨("_law_strange", none), "_law_strange", "_law_strange", defArgs (top 30), defBody (top 30), defScope (top 30), [], []⟩
def dd_law_refused : He.DefD := ⟨("_law_refused", none), "_law_refused", "_law_refused", defArgs (top 29), defBody (top 29), defScope (top 29), [], []⟩
def dd_law_word : He.DefD := ⟨("_law_word", none), "_law_word", "_law_word", defArgs (top 28), defBody (top 28), defScope (top 28), [], []⟩
def dd_law_letters : He.DefD := ⟨("_law_letters", none), "_law_letters", "_law_letters", defArgs (top 24), defBody (top 24), defScope (top 24), [], []⟩
def dd_look_walls : He.DefD := ⟨("look_walls", none), "look_walls", "look_walls", defArgs (top 12), defBody (top 12), defScope (top 12), [], []⟩
def dd_look_bars : He.DefD := ⟨("look_bars", none), "look_bars", "look_bars", defArgs (top 15), defBody (top 15), defScope (top 15), [], []⟩
def dd_is_side : He.DefD := ⟨("is_side", none), "is_side", "is_side", defArgs (top 13), defBody (top 13), defScope (top 13), [], []⟩
def dd_straight_of : He.DefD := ⟨("straight_of", none), "straight_of", "straight_of", defArgs (top 17), defBody (top 17), defScope (top 17), [], []⟩
def dd_chains_from : He.DefD := ⟨("chains_from", none), "chains_from", "chains_from", defArgs (top 18), defBody (top 18), defScope (top 18), [], []⟩
def dd_law_other : He.DefD := ⟨("_law_other", none), "_law_other", "_law_other", defArgs (top 26), defBody (top 26), defScope (top 26), [], []⟩
def dd_are_walls : He.DefD := ⟨("are_walls", none), "are_walls", "are_walls", defArgs (top 11), defBody (top 11), defScope (top 11), [], []⟩
def dd_is_bar : He.DefD := ⟨("is_bar", none), "is_bar", "is_bar", defArgs (top 14), defBody (top 14), defScope (top 14), [], []⟩
def dd_sides_of : He.DefD := ⟨("sides_of", none), "sides_of", "sides_of", defArgs (top 16), defBody (top 16), defScope (top 16), [], []⟩
def dd_other : He.DefD := ⟨("other", none), "other", "other", defArgs (top 10), defBody (top 10), defScope (top 10), [], []⟩
def dd_HallError_init : He.DefD := ⟨("HallError", some "__init__"), "__init__", "HallError.__init__", defArgs (clsDef (top 1) 0), defBody (clsDef (top 1) 0), defScope (clsDef (top 1) 0), [], []⟩
def dd_BadWalls_init : He.DefD := ⟨("BadWalls", some "__init__"), "__init__", "BadWalls.__init__", defArgs (clsDef (top 4) 0), defBody (clsDef (top 4) 0), defScope (clsDef (top 4) 0), [], []⟩
def dd_BadBar_init : He.DefD := ⟨("BadBar", some "__init__"), "__init__", "BadBar.__init__", defArgs (clsDef (top 5) 0), defBody (clsDef (top 5) 0), defScope (clsDef (top 5) 0), [], []⟩
def dd_BadSide_init : He.DefD := ⟨("BadSide", some "__init__"), "__init__", "BadSide.__init__", defArgs (clsDef (top 6) 0), defBody (clsDef (top 6) 0), defScope (clsDef (top 6) 0), [], []⟩
def fn : List He.DefD := [dd_law, dd_law_start, dd_law_draw, dd_law_shuts, dd_law_pairs, dd_law_of, dd_chain, dd_law_far, dd_law_straight, dd_law_strange, dd_law_refused, dd_law_word, dd_law_letters, dd_look_walls, dd_look_bars, dd_is_side, dd_straight_of, dd_chains_from, dd_law_other, dd_are_walls, dd_is_bar, dd_sides_of, dd_other, dd_HallError_init, dd_BadWalls_init, dd_BadBar_init, dd_BadSide_init]
def fa : List He.Fa := [.glo "_law_start", .glo "_law_draw", .glo "_law_shuts", .free "range", .free "len", .glo "_law_pairs", .glo "_law_of", .free "list", .glo "chain", .glo "_law_far", .free "isinstance", .glo "_law_straight", .free "all", .glo "_law_strange", .glo "_law_word", .glo "_law_refused", .glo "HallError", .glo "Missing", .glo "NothingLeft", .glo "_law_letters", .glo "look_walls", .glo "look_bars", .glo "is_side", .glo "BadSide", .glo "straight_of", .glo "chains_from", .free "any", .glo "_law_other", .glo "are_walls", .glo "BadWalls", .free "enumerate", .glo "is_bar", .glo "BadBar", .glo "sides_of", .free "sorted", .glo "other", .int "WIDEST" 12, .str "SMALL" "abcdefghijklmnopqrstuvwxyz", .free "zip", .free "ValueError", .glo "law"]
def ex (K : PySem.W.Frag) : Bool := (ctBT K [.ref (He.ga K "HallError"), .ref (He.ga K "Missing"), .ref (He.ga K "NothingLeft")] [(He.ga K "BadSide", true)]) && ((xfAll K [(He.ga K "BadSide", true)] ["word"]) && ((oexIB K (He.ga K "BadSide") (He.fAd K ("BadSide", some "__init__")) ["word"]) && ((oexIB K (He.ga K "BadWalls") (He.fAd K ("BadWalls", some "__init__")) ["word"]) && ((oexIB K (He.ga K "BadBar") (He.fAd K ("BadBar", some "__init__")) ["at", "word"]) && ((veiB K) && ((crB K (He.ga K "HallError") (He.fAd K ("HallError", some "__init__"))) && (true)))))))
def loose0 : List Str := ["HallError", "Missing", "NothingLeft", "BadWalls", "BadBar", "BadSide", "WIDEST", "SMALL", "other", "are_walls", "look_walls", "is_side", "is_bar", "look_bars", "sides_of", "straight_of", "chains_from", "chain", "_law_start", "_law_draw", "_law_of", "_law_letters", "_law_shuts", "_law_other"]
def loose1 : List Str := ["_law_pairs", "_law_word", "_law_refused", "_law_strange", "_law_straight", "_law_far"]
def loose : List Str := loose0 ++ loose1
abbrev R : PySem.W.OpenRow := PySem.W.OpenLaw.row PySem.Challenge.rw_nearcall_k03_chains_of_forcing
abbrev hk : PySem.W.Hook := hookZ 1500 fa fn tfL ex
def ob (s : PySem.W.SharedT) : He.AlD × Bool := obsZ 1500 fa fn tfL ex (HandSHeadRun.getT s)
theorem ob_eq (s : PySem.W.SharedT) : ob s = hk.obs s.abs := obsZ_eq (HandSHeadRun.getT_eq s)
theorem run (w : World) : HandSHeadRun.RunEq R (PySem.W.view R.prog [33]) hk ob 40000 loose w := by
  intro os
  kernel_rfl
end K03
namespace SL
open PySem PySem.Spec L2
open PyProof.Rows hiding St
inductive D where
  | non | bl (b : Bool) | int (i : Int) | str (l : List Nat)
  | tup (xs : List D) | lst (xs : List D) | dct (ks : List Key) (ds : List D) | obj (C : Addr) (ns : List Str) (ds : List D)
  | loc (n : Nat) | raw (v : V) | exn (a dd : Addr) (ns : List Str) (ds : List D)
structure LamT where
  q : Str
  params : Arguments
  body : Expr
  scope : Scope
def FunO (a : Addr) (κ : List (Str × Addr)) (l : LamT) (pm : Value) (c : Addr) (ctv : Value) : HO := .ext fun h => h.get? a = some (PySem.W.kla_obj "<lambda>" l.q l.params l.body l.scope (cloFrom κ l.scope.names []) pm c ctv)
inductive Cell where
  | lst (xs : List D) | dct (ks : List Key) (ds : List D) | obj (C : Addr) (ns : List Str) (ds : List D)
  | tab (P : Addr) (q : Str) | fn (κ : List (Str × Addr)) (j : Nat) (l : LamT)
  /-- a table, with it texts of no sign: tuples of nothing that stand from the beginning -/
  | emp (P : Addr) (q : Str) (es : List Addr)
abbrev Store := List Cell
abbrev DEnv := List (Option D)
structure Ex where
  C : Addr
  ns : List Str
  ds : List D
inductive Res (α : Type) where
  | ok (a : α) (S : Store)
  | exc (x : Ex) (S : Store)
  | stuck
def Res.bind {α β : Type} (r : Res α) (f : α → Store → Res β) : Res β := match r with
  | .ok a S => f a S
  | .exc x S => .exc x S
  | .stuck => .stuck
def RdT (H : Hp) (a : Addr) (vs : List V) : Prop := H a = some (.tup vs) ∨ (vs = [] ∧ ∃ ob, H a = some (.frz ob (.tup vs)))
theorem RdT.rd {H : Hp} {a : Addr} {vs : List V} (h : RdT H a vs) : Rd H a (.tup vs) := h.elim .inl fun h => .inr h.2
theorem RdT.at {H : Hp} {a : Addr} {vs : List V} (h : RdT H a vs) (hn : vs ≠ []) : H a = some (.tup vs) := h.elim id fun z => absurd z.1 hn
mutual
def Rep (H : Hp) (ρ : List Addr) : D → V → Prop
  | .non, v => v = .non
  | .bl b, v => v = .bl b
  | .int i, v => v = .int i
  | .str l, v => v = .str ⟨l.toArray⟩
  | .raw u, v => v = u
  | .loc n, v => ∃ a, ρ[n]? = some a ∧ v = .ref a
  | .tup ds, v => ∃ a vs, v = .ref a ∧ RdT H a vs ∧ a ∉ ρ ∧ Reps H ρ ds vs
  | .lst ds, v => ∃ a vs, v = .ref a ∧ H a = some (.lst vs) ∧ a ∉ ρ ∧ Reps H ρ ds vs
  | .dct ks ds, v => ∃ a vs, v = .ref a ∧ Rd H a (.dK (ks.zip vs)) ∧ a ∉ ρ ∧ ks.length = ds.length ∧ Reps H ρ ds vs
  | .obj C ns ds, v => ∃ a dx vs, v = .ref a ∧ H a = some (.ins C dx (ns.zip vs)) ∧ a ∉ ρ ∧ ns.length = ds.length ∧ Reps H ρ ds vs
  | .exn a dd ns ds, v => ∃ vs, v = .ref a ∧ H dd = some (.xd (ns.zip vs)) ∧ dd ∉ ρ ∧ ns.length = ds.length ∧ Reps H ρ ds vs
def Reps (H : Hp) (ρ : List Addr) : List D → List V → Prop
  | [], vs => vs = []
  | d :: ds, vs => ∃ v r, vs = v :: r ∧ Rep H ρ d v ∧ Reps H ρ ds r
end
def TabR (H : Hp) (ρ : List Addr) (a P : Addr) (q : Str) : Prop := a = P ∧ ∃ ps : Array Value, H a = some (.tbl ps) ∧ TriplesOk ps.toList ∧ ∀ (pos : Pos) (cv : Value), codeAmong pos ps.toList = some cv → ∃ c, cv = .ref c ∧ H c = some (LamX.CodeO c q) ∧ c ∉ ρ
def RepC (H : Hp) (ρ : List Addr) (a : Addr) : Cell → Prop
  | .lst ds => ∃ vs, H a = some (.lst vs) ∧ Reps H ρ ds vs
  | .dct ks ds => ∃ vs, H a = some (.dK (ks.zip vs)) ∧ ks.length = ds.length ∧ Reps H ρ ds vs
  | .obj C ns ds => ∃ dx vs, H a = some (.ins C dx (ns.zip vs)) ∧ ns.length = ds.length ∧ Reps H ρ ds vs
  | .tab P q => TabR H ρ a P q
  | .emp P q es => TabR H ρ a P q ∧ ∀ e ∈ es, (∃ ob, H e = some (.frz ob (.tup []))) ∧ e ∉ ρ
  | .fn κ _ l => ∃ (pm : Value) (c : Addr) (ctv : Value), H a = some (FunO a κ l pm c ctv) ∧ H c = some (LamX.CodeO c l.q) ∧ c ∉ ρ
def RepX (H : Hp) (ρ : List Addr) (x : Ex) (cls : Value) (dd : Option Addr) : Prop :=
  cls = .ref x.C ∧ ∃ d vs, dd = some d ∧ H d = some (.xd (x.ns.zip vs)) ∧ d ∉ ρ ∧ x.ns.length = x.ds.length ∧ Reps H ρ x.ds vs
structure StS (H : Hp) (S : Store) (ρ : List Addr) : Prop where
  len : ρ.length = S.length
  nd : ρ.Nodup
  cells : ∀ (n : Nat) (a : Addr) (c : Cell), ρ[n]? = some a → S[n]? = some c → RepC H ρ a c
def EnvS (H : Hp) (ρ : List Addr) (δ : DEnv) (σ : St) : Prop := δ.length = σ.length ∧ ∀ (i : Nat) (d : D), δ[i]? = some (some d) → ∃ v, σ[i]? = some (some v) ∧ Rep H ρ d v
structure StE (σ : St) (H : Hp) (δ : DEnv) (S : Store) (ρ : List Addr) : Prop where
  st : StS H S ρ
  env : EnvS H ρ δ σ
structure Nx (H : Hp) (ρ : List Addr) (H' : Hp) (ρ' : List Addr) : Prop where
  pre : ∃ t, ρ' = ρ ++ t
  new : ∀ a, a ∈ ρ' → a ∉ ρ → H a = none
  thr : ∀ a, H' a = none → H a = none
  stay : ∀ a o, H a = some o → a ∉ ρ → (∀ ps, o ≠ .tbl ps) → H' a = some o
  tbl : ∀ a ps, H a = some (.tbl ps) → a ∉ ρ → ∃ more, H' a = some (.tbl (ps ++ more))
section
variable {H H' H1 H2 : Hp} {ρ ρ' ρ1 ρ2 : List Addr} {a p : Addr} {o : HO}
theorem Nx.refl (H : Hp) (ρ : List Addr) : Nx H ρ H ρ := ⟨⟨[], by simp⟩, fun a h n => absurd h n, fun a h => h, fun a o h _ _ => h, fun a ps h _ => ⟨#[], by simpa using h⟩⟩
theorem Nx.mem (n : Nx H ρ H' ρ') (h : a ∈ ρ) : a ∈ ρ' := by
  obtain ⟨t, rfl⟩ := n.pre
  exact List.mem_append_left _ h
theorem Nx.notin (n : Nx H ρ H' ρ') (h : H a = some o) (k : a ∉ ρ) : a ∉ ρ' := fun z => by
  have := n.new a z k
  rw [h] at this
  cases this
theorem Nx.at (n : Nx H ρ H' ρ') {i : Nat} (h : ρ[i]? = some a) : ρ'[i]? = some a := by
  obtain ⟨t, rfl⟩ := n.pre
  have hl := (List.getElem?_eq_some_iff.mp h).1
  rw [List.getElem?_append_left hl]
  exact h
theorem Nx.trans (a : Nx H ρ H1 ρ1) (b : Nx H1 ρ1 H2 ρ2) : Nx H ρ H2 ρ2 where
  pre := by
    obtain ⟨t, rfl⟩ := a.pre
    obtain ⟨u, rfl⟩ := b.pre
    exact ⟨t ++ u, by simp⟩
  new := fun x h n => by
    by_cases h1 : x ∈ ρ1
    · exact a.new x h1 n
    · exact a.thr x (b.new x h h1)
  thr := fun x h => a.thr x (b.thr x h)
  stay := fun x o h n t => b.stay x o (a.stay x o h n t) (a.notin h n) t
  tbl := fun x ps h n => by
    obtain ⟨m, e⟩ := a.tbl x ps h n
    obtain ⟨m2, e2⟩ := b.tbl x _ e (a.notin h n)
    exact ⟨m ++ m2, by rw [e2, Array.append_assoc]⟩
theorem Nx.alloc (hp : H p = none) : Nx H ρ (upd H p o) ρ where
  pre := ⟨[], by simp⟩
  new := fun a h n => absurd h n
  thr := fun a h => by
    by_cases e : a = p
    · rw [e]; exact hp
    · rw [upd_ne e] at h; exact h
  stay := fun a u h _ _ => by rw [upd_ne (ne_of_none h hp)]; exact h
  tbl := fun a ps h _ => ⟨#[], by rw [upd_ne (ne_of_none h hp), h]; simp⟩
theorem Nx.push (hp : H p = none) : Nx H ρ (upd H p o) (ρ ++ [p]) where
  pre := ⟨[p], rfl⟩
  new := fun a h n => by
    rcases List.mem_append.mp h with h | h
    · exact absurd h n
    · rw [List.mem_singleton.mp h]; exact hp
  thr := (Nx.alloc (ρ := ρ) hp).thr
  stay := (Nx.alloc (ρ := ρ) hp).stay
  tbl := (Nx.alloc (ρ := ρ) hp).tbl
theorem Nx.set (ha : a ∈ ρ) (hn : H a ≠ none) : Nx H ρ (upd H a o) ρ where
  pre := ⟨[], by simp⟩
  new := fun b h n => absurd h n
  thr := fun b h => by
    by_cases e : b = a
    · rw [e, upd_same] at h; cases h
    · rw [upd_ne e] at h; exact h
  stay := fun b u h n _ => by rw [upd_ne (fun e => n (by rw [e]; exact ha))]; exact h
  tbl := fun b ps h n => ⟨#[], by rw [upd_ne (fun e => n (by rw [e]; exact ha)), h]; simp⟩
end
section
variable {H H' : Hp} {ρ ρ' : List Addr} {a p : Addr} {o : HO} {xs : List V}
mutual
theorem Rep.mono (n : Nx H ρ H' ρ') : ∀ (d : D) (v : V), Rep H ρ d v → Rep H' ρ' d v
  | .non, v, h => h
  | .bl b, v, h => h
  | .int i, v, h => h
  | .str x, v, h => h
  | .raw u, v, h => h
  | .loc m, v, h => by
    obtain ⟨a, h1, h2⟩ := h
    exact ⟨a, n.at h1, h2⟩
  | .tup ds, v, h => by
    obtain ⟨a, vs, e, h1, k, h2⟩ := h
    rcases h1 with h1 | ⟨e0, od, h1⟩
    · exact ⟨a, vs, e, .inl (n.stay a _ h1 k (fun ps z => by cases z)), n.notin h1 k, Reps.mono n ds vs h2⟩
    · exact ⟨a, vs, e, .inr ⟨e0, od, n.stay a _ h1 k (fun ps z => by cases z)⟩, n.notin h1 k, Reps.mono n ds vs h2⟩
  | .lst ds, v, h => by
    obtain ⟨a, vs, e, h1, k, h2⟩ := h
    exact ⟨a, vs, e, n.stay a _ h1 k (fun ps z => by cases z), n.notin h1 k, Reps.mono n ds vs h2⟩
  | .dct ks ds, v, h => by
    obtain ⟨a, vs, e, h1, k, l, h2⟩ := h
    rcases h1 with h1 | ⟨od, h1⟩
    · exact ⟨a, vs, e, .inl (n.stay a _ h1 k (fun ps z => by cases z)), n.notin h1 k, l, Reps.mono n ds vs h2⟩
    · exact ⟨a, vs, e, .inr ⟨od, n.stay a _ h1 k (fun ps z => by cases z)⟩, n.notin h1 k, l, Reps.mono n ds vs h2⟩
  | .obj C ns ds, v, h => by
    obtain ⟨a, dx, vs, e, h1, k, l, h2⟩ := h
    exact ⟨a, dx, vs, e, n.stay a _ h1 k (fun ps z => by cases z), n.notin h1 k, l, Reps.mono n ds vs h2⟩
  | .exn a dd ns ds, v, h => by
    obtain ⟨vs, e, h1, k, l, h2⟩ := h
    exact ⟨vs, e, n.stay dd _ h1 k (fun ps z => by cases z), n.notin h1 k, l, Reps.mono n ds vs h2⟩
theorem Reps.mono (n : Nx H ρ H' ρ') : ∀ (ds : List D) (vs : List V), Reps H ρ ds vs → Reps H' ρ' ds vs
  | [], vs, h => h
  | d :: ds, vs, h => by
    obtain ⟨v, r, e, h1, h2⟩ := h
    exact ⟨v, r, e, Rep.mono n d v h1, Reps.mono n ds r h2⟩
end
theorem Reps.len : ∀ {ds : List D} {vs : List V}, Reps H ρ ds vs → ds.length = vs.length
  | [], vs, h => by cases h; rfl
  | d :: ds, vs, h => by
    obtain ⟨v, r, rfl, _, h2⟩ := h
    simp [Reps.len h2]
theorem Reps.get : ∀ {ds : List D} {vs : List V} {i : Nat} {v : V}, Reps H ρ ds vs → vs[i]? = some v → ∃ d, ds[i]? = some d ∧ Rep H ρ d v
  | [], vs, i, v, h, e => by cases h; simp at e
  | d :: ds, vs, 0, v, h, e => by
    obtain ⟨v, r, rfl, h1, h2⟩ := h
    simp at e
    subst e
    exact ⟨d, rfl, h1⟩
  | d :: ds, vs, i + 1, v, h, e => by
    obtain ⟨v, r, rfl, h1, h2⟩ := h
    simp at e
    obtain ⟨d', e1, e2⟩ := Reps.get h2 e
    exact ⟨d', by simpa using e1, e2⟩
theorem Reps.getD : ∀ {ds : List D} {vs : List V} {i : Nat} {d : D}, Reps H ρ ds vs → ds[i]? = some d → ∃ v, vs[i]? = some v ∧ Rep H ρ d v
  | [], vs, i, d, h, e => by simp at e
  | d' :: ds, vs, 0, d, h, e => by
    obtain ⟨v, r, rfl, h1, h2⟩ := h
    simp at e
    subst e
    exact ⟨v, rfl, h1⟩
  | d' :: ds, vs, i + 1, d, h, e => by
    obtain ⟨v, r, rfl, h1, h2⟩ := h
    simp at e
    obtain ⟨v', e1, e2⟩ := Reps.getD h2 e
    exact ⟨v', by simpa using e1, e2⟩
theorem Reps.append : ∀ {ds es : List D} {vs us : List V}, Reps H ρ ds vs → Reps H ρ es us → Reps H ρ (ds ++ es) (vs ++ us)
  | [], es, vs, us, h, k => by cases h; exact k
  | d :: ds, es, vs, us, h, k => by
    obtain ⟨v, r, rfl, h1, h2⟩ := h
    exact ⟨v, r ++ us, rfl, h1, Reps.append h2 k⟩
theorem Reps.nil : Reps H ρ [] [] := rfl
theorem Reps.cons {d : D} {v : V} {ds : List D} {vs : List V} (h : Rep H ρ d v) (k : Reps H ρ ds vs) : Reps H ρ (d :: ds) (v :: vs) := ⟨v, vs, rfl, h, k⟩
theorem Reps.one {d : D} {v : V} (h : Rep H ρ d v) : Reps H ρ [d] [v] := ⟨v, [], rfl, h, rfl⟩
theorem Reps.take : ∀ {ds : List D} {vs : List V} (n : Nat), Reps H ρ ds vs → Reps H ρ (ds.take n) (vs.take n)
  | ds, vs, 0, h => rfl
  | [], vs, n + 1, h => by cases h; rfl
  | d :: ds, vs, n + 1, h => by
    obtain ⟨v, r, rfl, h1, h2⟩ := h
    exact ⟨v, _, rfl, h1, Reps.take n h2⟩
theorem Reps.drop : ∀ {ds : List D} {vs : List V} (n : Nat), Reps H ρ ds vs → Reps H ρ (ds.drop n) (vs.drop n)
  | ds, vs, 0, h => h
  | [], vs, n + 1, h => by cases h; rfl
  | d :: ds, vs, n + 1, h => by
    obtain ⟨v, r, rfl, h1, h2⟩ := h
    exact Reps.drop n h2
theorem Reps.set : ∀ {ds : List D} {vs : List V} (n : Nat) {d : D} {v : V}, Reps H ρ ds vs → Rep H ρ d v → Reps H ρ (ds.set n d) (vs.set n v)
  | [], vs, n, d, v, h, k => by cases h; rfl
  | d' :: ds, vs, 0, d, v, h, k => by
    obtain ⟨v', r, rfl, h1, h2⟩ := h
    exact ⟨v, r, rfl, k, h2⟩
  | d' :: ds, vs, n + 1, d, v, h, k => by
    obtain ⟨v', r, rfl, h1, h2⟩ := h
    exact ⟨v', _, rfl, h1, Reps.set n h2 k⟩
theorem Reps.reverse : ∀ {ds : List D} {vs : List V}, Reps H ρ ds vs → Reps H ρ ds.reverse vs.reverse
  | [], vs, h => by cases h; rfl
  | d :: ds, vs, h => by
    obtain ⟨v, r, rfl, h1, h2⟩ := h
    rw [List.reverse_cons, List.reverse_cons]
    exact (Reps.reverse h2).append (Reps.one h1)
theorem TabR.mono {P : Addr} {q : Str} (n : Nx H ρ H' ρ') (e : H' a = H a) (h : TabR H ρ a P q) : TabR H' ρ' a P q := by
  obtain ⟨h0, ps, h1, h2, h3⟩ := h
  refine ⟨h0, ps, e.trans h1, h2, fun pos cv hc => ?_⟩
  obtain ⟨c, e1, e2, e3⟩ := h3 pos cv hc
  exact ⟨c, e1, n.stay c _ e2 e3 fun ps => LamX.codeO_ne ps, n.notin e2 e3⟩
theorem RepC.mono {c : Cell} (n : Nx H ρ H' ρ') (e : H' a = H a) (h : RepC H ρ a c) : RepC H' ρ' a c := by
  cases c with
  | lst ds =>
    obtain ⟨vs, h1, h2⟩ := h
    exact ⟨vs, e.trans h1, Reps.mono n _ _ h2⟩
  | dct ks ds =>
    obtain ⟨vs, h1, l, h2⟩ := h
    exact ⟨vs, e.trans h1, l, Reps.mono n _ _ h2⟩
  | obj C ns ds =>
    obtain ⟨dx, vs, h1, l, h2⟩ := h
    exact ⟨dx, vs, e.trans h1, l, Reps.mono n _ _ h2⟩
  | tab P q => exact TabR.mono n e h
  | emp P q es =>
    refine ⟨TabR.mono n e h.1, fun x hx => ?_⟩
    obtain ⟨⟨ob, h1⟩, h2⟩ := h.2 x hx
    exact ⟨⟨ob, n.stay x _ h1 h2 fun ps z => by cases z⟩, n.notin h1 h2⟩
  | fn κ j l =>
    obtain ⟨pm, c, ctv, h1, h2, h3⟩ := h
    exact ⟨pm, c, ctv, e.trans h1, n.stay c _ h2 h3 fun ps => LamX.codeO_ne ps, n.notin h2 h3⟩
theorem RepC.ne {c : Cell} (h : RepC H ρ a c) : H a ≠ none := by
  cases c with
  | lst ds => obtain ⟨vs, h1, _⟩ := h; rw [h1]; simp
  | dct ks ds => obtain ⟨vs, h1, _⟩ := h; rw [h1]; simp
  | obj C ns ds => obtain ⟨dx, vs, h1, _⟩ := h; rw [h1]; simp
  | tab P q => obtain ⟨_, ps, h1, _⟩ := h; rw [h1]; simp
  | emp P q es => obtain ⟨⟨_, ps, h1, _⟩, _⟩ := h; rw [h1]; simp
  | fn κ j l => obtain ⟨_, _, _, h1, _⟩ := h; rw [h1]; simp
variable {S : Store}
theorem StS.trk (h : StS H S ρ) (ha : a ∈ ρ) : H a ≠ none := by
  obtain ⟨n, hn, e⟩ := List.getElem_of_mem ha
  have e1 : ρ[n]? = some a := by rw [List.getElem?_eq_getElem hn, e]
  have hS : n < S.length := by rw [← h.len]; exact hn
  exact (h.cells n a _ e1 (List.getElem?_eq_getElem hS)).ne
theorem StS.alloc (h : StS H S ρ) (hp : H p = none) : StS (upd H p o) S ρ :=
  ⟨h.len, h.nd, fun n a c e1 e2 => (h.cells n a c e1 e2).mono (Nx.alloc hp) (upd_ne (fun z => by
    have := (h.cells n a c e1 e2).ne
    rw [z] at this
    exact this hp))⟩
theorem StS.push {c : Cell} (h : StS H S ρ) (hp : H p = none) (hc : RepC (upd H p o) (ρ ++ [p]) p c) : StS (upd H p o) (S ++ [c]) (ρ ++ [p]) := by
  have hpn : p ∉ ρ := fun z => h.trk z hp
  refine ⟨by simp [h.len], ?_, fun n a c' e1 e2 => ?_⟩
  · rw [List.nodup_append]
    refine ⟨h.nd, by simp, fun x hx y hy => ?_⟩
    rw [List.mem_singleton] at hy
    intro z
    subst z
    subst hy
    exact hpn hx
  · by_cases hn : n < ρ.length
    · rw [List.getElem?_append_left hn] at e1
      rw [List.getElem?_append_left (by rw [← h.len]; exact hn)] at e2
      refine (h.cells n a c' e1 e2).mono (Nx.push hp) (upd_ne (fun z => ?_))
      subst z
      exact hpn (List.mem_of_getElem? e1)
    · have hn' : ρ.length ≤ n := Nat.le_of_not_lt hn
      rw [List.getElem?_append_right hn'] at e1
      rw [List.getElem?_append_right (by rw [← h.len]; exact hn')] at e2
      have hz : n - ρ.length = 0 := by
        rcases Nat.eq_zero_or_pos (n - ρ.length) with z | z
        · exact z
        · rw [List.getElem?_eq_none (by simp only [List.length_singleton]; omega)] at e1
          cases e1
      rw [hz] at e1
      rw [← h.len, hz] at e2
      simp at e1 e2
      subst e1
      subst e2
      exact hc
theorem StS.set {c : Cell} {n : Nat} (h : StS H S ρ) (ha : ρ[n]? = some a) (hc : RepC (upd H a o) ρ a c) : StS (upd H a o) (S.set n c) ρ := by
  have hm : a ∈ ρ := List.mem_of_getElem? ha
  have nx : Nx H ρ (upd H a o) ρ := Nx.set hm (h.trk hm)
  refine ⟨by simp [h.len], h.nd, fun m b c' e1 e2 => ?_⟩
  by_cases hmn : m = n
  · subst hmn
    rw [ha] at e1
    cases e1
    have hl : m < S.length := by rw [← h.len]; exact (List.getElem?_eq_some_iff.mp ha).1
    rw [List.getElem?_set_self hl] at e2
    cases e2
    exact hc
  · rw [List.getElem?_set_ne (fun z => hmn z.symm)] at e2
    refine (h.cells m b c' e1 e2).mono nx (upd_ne (fun z => hmn ?_))
    subst z
    exact (List.getElem?_inj (List.getElem?_eq_some_iff.mp e1).1 h.nd).mp (e1.trans ha.symm)
theorem EnvS.mono {δ : DEnv} {σ : St} (n : Nx H ρ H' ρ') (h : EnvS H ρ δ σ) : EnvS H' ρ' δ σ := ⟨h.1, fun i d e => by
  obtain ⟨v, e1, r⟩ := h.2 i d e
  exact ⟨v, e1, Rep.mono n _ _ r⟩⟩
theorem EnvS.set {δ : DEnv} {σ : St} {d : D} {v : V} (i : Nat) (h : EnvS H ρ δ σ) (r : Rep H ρ d v) : EnvS H ρ (δ.set i (some d)) (σ.set i (some v)) := by
  refine ⟨by simp [h.1], fun j d' e => ?_⟩
  by_cases hj : j = i
  · subst hj
    by_cases hl : j < δ.length
    · rw [List.getElem?_set_self hl] at e
      cases e
      exact ⟨v, by rw [List.getElem?_set_self (by rw [← h.1]; exact hl)], r⟩
    · rw [List.getElem?_eq_none (by simpa using hl)] at e
      cases e
  · rw [List.getElem?_set_ne (fun z => hj z.symm)] at e ⊢
    exact h.2 j d' e
theorem EnvS.unset {δ : DEnv} {σ : St} {w : Option V} (i : Nat) (h : EnvS H ρ δ σ) : EnvS H ρ (δ.set i none) (σ.set i w) := by
  refine ⟨by simp [h.1], fun j d' e => ?_⟩
  by_cases hj : j = i
  · subst hj
    by_cases hl : j < δ.length
    · rw [List.getElem?_set_self hl] at e
      cases e
    · rw [List.getElem?_eq_none (by simpa using hl)] at e
      cases e
  · rw [List.getElem?_set_ne (fun z => hj z.symm)] at e ⊢
    exact h.2 j d' e
theorem StE.next {σ : St} {δ : DEnv} {S' : Store} (I : StE σ H δ S ρ) (n : Nx H ρ H' ρ') (h : StS H' S' ρ') : StE σ H' δ S' ρ' := ⟨h, I.env.mono n⟩
end
section
variable (W : WX) {α β : Type} (R : Hp → List Addr → α → β → Prop)
def RunG (σ : St) (H : Hp) (ρ : List Addr) (r : Res α) (Q : β → Hp → Prop) : Prop := match r with
  | .ok a S' => ∀ b H' ρ', Nx H ρ H' ρ' → StS H' S' ρ' → R H' ρ' a b → Q b H'
  | .exc x S' => ∀ c dd H' ρ', Nx H ρ H' ρ' → StS H' S' ρ' → RepX H' ρ' x c dd → W c dd σ H'
  | .stuck => False
def tG (m : DEnv → Store → Res α) : St → Hp → (β → Hp → Prop) → Prop := fun σ H Q => ∃ δ S ρ, StE σ H δ S ρ ∧ RunG W R σ H ρ (m δ S) Q
end
abbrev tE (W : WX) (m : DEnv → Store → Res D) : TE := tG W (Rep) m
abbrev tA (W : WX) (m : DEnv → Store → Res (List D)) : TA := tG W (Reps) m
abbrev EqR : Hp → List Addr → Bool → Bool → Prop := fun _ _ a b => a = b
abbrev tT (W : WX) (m : DEnv → Store → Res Bool) : TT := tG W EqR m
section
variable {W : WX} {α β α2 β2 : Type} {R : Hp → List Addr → α → β → Prop} {R2 : Hp → List Addr → α2 → β2 → Prop} {σ : St} {H : Hp} {δ : DEnv} {S : Store} {ρ : List Addr}
theorem bindG {m1 : DEnv → Store → Res α} {k : α → Store → Res α2} {Q : β2 → Hp → Prop} {P : β → Hp → Prop} (I : StE σ H δ S ρ) (h : RunG W R2 σ H ρ ((m1 δ S).bind k) Q)
    (hk : ∀ a b S1 H1 ρ1, Nx H ρ H1 ρ1 → StE σ H1 δ S1 ρ1 → R H1 ρ1 a b → RunG W R2 σ H1 ρ1 (k a S1) Q → P b H1) : tG W R m1 σ H P := by
  refine ⟨δ, S, ρ, I, ?_⟩
  cases e : m1 δ S with
  | ok a S1 =>
    rw [e] at h
    intro b H1 ρ1 n st r
    refine hk a b S1 H1 ρ1 n (I.next n st) r ?_
    have h' : RunG W R2 σ H ρ (k a S1) Q := h
    cases e2 : k a S1 with
    | ok a2 S2 =>
      rw [e2] at h'
      exact fun b2 H2 ρ2 n2 st2 r2 => h' b2 H2 ρ2 (n.trans n2) st2 r2
    | exc x S2 =>
      rw [e2] at h'
      exact fun c dd H2 ρ2 n2 st2 r2 => h' c dd H2 ρ2 (n.trans n2) st2 r2
    | stuck =>
      rw [e2] at h'
      exact h'
  | exc x S1 =>
    rw [e] at h
    exact h
  | stuck =>
    rw [e] at h
    exact h
theorem RunG.ok {a : α} {b : β} {Q : β → Hp → Prop} (h : RunG W R σ H ρ (.ok a S) Q) (st : StS H S ρ) (r : R H ρ a b) : Q b H := h b H ρ (Nx.refl H ρ) st r
theorem RunG.okN {a : α} {b : β} {Q : β → Hp → Prop} {H' : Hp} {ρ' : List Addr} (h : RunG W R σ H ρ (.ok a S) Q) (n : Nx H ρ H' ρ') (st : StS H' S ρ') (r : R H' ρ' a b) : Q b H' := h b H' ρ' n st r
theorem RunG.imp {r : Res α} {Q Q' : β → Hp → Prop} (h : RunG W R σ H ρ r Q) (hq : ∀ b H', Q b H' → Q' b H') : RunG W R σ H ρ r Q' := by
  cases r with
  | ok a S' => exact fun b H' ρ' n st rr => hq _ _ (h b H' ρ' n st rr)
  | exc x S' => exact h
  | stuck => exact h
end
theorem PE.weak {X : Cx} {e : Expr} {t t' : TE} (h : PE X e t) (hw : ∀ σ H Q, t' σ H Q → t σ H Q) : PE X e t' := ⟨fun pins s σ H Q I q => h.run pins s σ H Q I (hw _ _ _ q)⟩
theorem PT.weak {X : Cx} {e : Expr} {t t' : TT} (h : PT X e t) (hw : ∀ σ H Q, t' σ H Q → t σ H Q) : PT X e t' := ⟨fun pins s σ H Q I q => h.run pins s σ H Q I (hw _ _ _ q)⟩
theorem PW.weak {X : Cx} {e : Expr} {t t' : TT} (h : PW X e t) (hw : ∀ σ H Q, t' σ H Q → t σ H Q) : PW X e t' := ⟨fun w pins s σ H Q I q => h.run w pins s σ H Q I (hw _ _ _ q)⟩
theorem PA.weak {X : Cx} {es : List Expr} {t t' : TA} (h : PA X es t) (hw : ∀ σ H Q, t' σ H Q → t σ H Q) : PA X es t' := ⟨fun p pins s σ H Q I q => h.run p pins s σ H Q I (hw _ _ _ q)⟩
theorem PS.weak {X : Cx} {e : Stmt} {t t' : TS} (h : PS X e t) (hw : ∀ D σ H, t' D σ H → t D σ H) : PS X e t' := ⟨fun pins s σ H D I q => h.run pins s σ H D I (hw _ _ _ q)⟩
theorem PSs.weak {X : Cx} {e : List Stmt} {t t' : TS} (h : PSs X e t) (hw : ∀ D σ H, t' D σ H → t D σ H) : PSs X e t' := ⟨fun pins s σ H D I q => h.run pins s σ H D I (hw _ _ _ q)⟩
abbrev ME := DEnv → Store → Res D
abbrev MB := DEnv → Store → Res Bool
abbrev MA := DEnv → Store → Res (List D)
def RO {α : Type} (o : Option α) (S : Store) : Res α := match o with
  | some a => .ok a S
  | none => .stuck
@[simp] theorem RO_some {α : Type} (a : α) (S : Store) : RO (some a) S = .ok a S := rfl
@[simp] theorem RO_none {α : Type} (S : Store) : RO (none : Option α) S = .stuck := rfl
@[simp] theorem bind_ok {α β : Type} (a : α) (S : Store) (f : α → Store → Res β) : (Res.ok a S).bind f = f a S := rfl
@[simp] theorem bind_exc {α β : Type} (x : Ex) (S : Store) (f : α → Store → Res β) : (Res.exc x S : Res α).bind f = .exc x S := rfl
@[simp] theorem bind_stuck {α β : Type} (f : α → Store → Res β) : (Res.stuck : Res α).bind f = .stuck := rfl
def vM (i : Nat) : ME := fun δ S => match δ[i]? with
  | some (some d) => .ok d S
  | _ => .stuck
def cM (d : D) : ME := fun _ S => .ok d S
def op2M (g : Store → D → D → Option D) (ma mb : ME) : ME := fun δ S => (ma δ S).bind fun x S1 => (mb δ S1).bind fun y S2 => RO (g S2 x y) S2
def op1M (g : Store → D → Option D) (ma : ME) : ME := fun δ S => (ma δ S).bind fun x S1 => RO (g S1 x) S1
def nilM : MA := fun _ S => .ok [] S
def consM (ma : ME) (mr : MA) : MA := fun δ S => (ma δ S).bind fun x S1 => (mr δ S1).bind fun r S2 => .ok (x :: r) S2
def callG (g : Store → List D → Option D) (ms : MA) : ME := fun δ S => (ms δ S).bind fun xs S1 => RO (g S1 xs) S1
section
variable {X : Cx} {W : WX} {a b e : Expr} {es : List Expr} {ma mb me : ME} {ms : MA} {pos : Pos}
abbrev KD (H : Hp) (ρ : List Addr) (S : Store) (z : D) (Q : VK) : Prop := ∀ w H', Nx H ρ H' ρ → StS H' S ρ → Rep H' ρ z w → Q w H'
theorem KD.now {H : Hp} {ρ : List Addr} {S : Store} {z : D} {Q : VK} (k : KD H ρ S z Q) (st : StS H S ρ) {w : V} (r : Rep H ρ z w) : Q w H := k w H (Nx.refl H ρ) st r
theorem KD.lst {H : Hp} {ρ : List Addr} {S : Store} {ds : List D} {vs : List V} {Q : VK} (k : KD H ρ S (.lst ds) Q) (st : StS H S ρ) (r : Reps H ρ ds vs) {p : Addr} (hp : H p = none) : Q (.ref p) (upd H p (.lst vs)) :=
  k (.ref p) _ (Nx.alloc hp) (st.alloc hp) ⟨p, vs, rfl, upd_same, fun z => st.trk z hp, Reps.mono (Nx.alloc hp) _ _ r⟩
theorem KD.tup {H : Hp} {ρ : List Addr} {S : Store} {ds : List D} {vs : List V} {Q : VK} (k : KD H ρ S (.tup ds) Q) (st : StS H S ρ) (r : Reps H ρ ds vs) {p : Addr} (hp : H p = none) : Q (.ref p) (upd H p (.tup vs)) :=
  k (.ref p) _ (Nx.alloc hp) (st.alloc hp) ⟨p, vs, rfl, .inl upd_same, fun z => st.trk z hp, Reps.mono (Nx.alloc hp) _ _ r⟩
def OpSnd (r : R2) (g : Store → D → D → Option D) : Prop := ∀ (H : Hp) (ρ : List Addr) (S : Store) (x y z : D) (v u : V) (Q : VK), StS H S ρ → Rep H ρ x v → Rep H ρ y u → g S x y = some z → KD H ρ S z Q → r v u H Q
def UnSnd (r : V → Hp → VK → Prop) (g : Store → D → Option D) : Prop := ∀ (H : Hp) (ρ : List Addr) (S : Store) (x z : D) (v : V) (Q : VK), StS H S ρ → Rep H ρ x v → g S x = some z → KD H ρ S z Q → r v H Q
def CaSnd (r : List V → Hp → VK → Prop) (g : Store → List D → Option D) : Prop := ∀ (H : Hp) (ρ : List Addr) (S : Store) (xs : List D) (z : D) (vs : List V) (Q : VK), StS H S ρ → Reps H ρ xs vs → g S xs = some z → KD H ρ S z Q → r vs H Q
def MtSnd (r : V → List V → Hp → VK → Prop) (g : Store → D → List D → Option D) : Prop := ∀ (H : Hp) (ρ : List Addr) (S : Store) (x : D) (xs : List D) (z : D) (v : V) (vs : List V) (Q : VK), StS H S ρ → Rep H ρ x v → Reps H ρ xs vs → g S x xs = some z → KD H ρ S z Q → r v vs H Q
theorem RunG.ro {α β : Type} {R : Hp → List Addr → α → β → Prop} {σ : St} {H : Hp} {ρ : List Addr} {o : Option α} {S : Store} {Q : β → Hp → Prop} (h : RunG W R σ H ρ (RO o S) Q) : ∃ a, o = some a ∧ ∀ b H' ρ', Nx H ρ H' ρ' → StS H' S ρ' → R H' ρ' a b → Q b H' := by
  cases o with
  | none => exact False.elim h
  | some a => exact ⟨a, rfl, h⟩
theorem OpSnd.tE {r : R2} {g : Store → D → D → Option D} (s : OpSnd r g) (σ : St) (H : Hp) (Q : VK) (h : tE W (op2M g ma mb) σ H Q) : tOp r (tE W ma) (tE W mb) σ H Q := by
  obtain ⟨δ, S, ρ, I, h⟩ := h
  refine bindG I h fun x v S1 H1 ρ1 n1 I1 r1 h1 => ?_
  refine bindG I1 h1 fun y u S2 H2 ρ2 n2 I2 r2 h2 => ?_
  obtain ⟨z, e, k⟩ := h2.ro
  exact s H2 ρ2 S2 x y z v u Q I2.st (Rep.mono n2 _ _ r1) r2 e fun w H' n st r => k w H' ρ2 n st r
theorem pd_op {op : Operator} {r : R2} {g : Store → D → D → Option D} (ho : OpR X (binaryOp op) r) (s : OpSnd r g) (ha : PE X a (tE W ma)) (hb : PE X b (tE W mb)) : PE X (.BinOp a op b pos) (tE W (op2M g ma mb)) :=
  PE.weak (pe_op ho ha hb) s.tE
theorem pd_cmp {op : CmpOp} {r : R2} {g : Store → D → D → Option D} (ho : OpR X (compareOp op) r) (s : OpSnd r g) (ha : PE X a (tE W ma)) (hb : PE X b (tE W mb)) (hm : behindInMarks op b = false := by first | exact nomark _ | rfl) : PE X (.Compare a [op] [b] pos) (tE W (op2M g ma mb)) :=
  PE.weak (pe_cmpR ho ha hb hm) s.tE
def asB (o : Option D) : Option Bool := match o with
  | some (.bl b) => some b
  | _ => none
def cmpB (g : Store → D → D → Option D) (ma mb : ME) : MB := fun δ S => (ma δ S).bind fun x S1 => (mb δ S1).bind fun y S2 => RO (asB (g S2 x y)) S2
theorem pd_cmpT {op : CmpOp} {r : R2} {g : Store → D → D → Option D} (ho : OpR X (compareOp op) r) (s : OpSnd r g) (ha : PE X a (tE W ma)) (hb : PE X b (tE W mb)) (hm : behindInMarks op b = false := by first | exact nomark _ | rfl) : PT X (.Compare a [op] [b] pos) (tT W (cmpB g ma mb)) := by
  refine PT.weak (pt_cmpR ho ha hb hm) fun σ H Q h => ?_
  obtain ⟨δ, S, ρ, I, h⟩ := h
  refine bindG I h fun x v S1 H1 ρ1 n1 I1 r1 h1 => ?_
  refine bindG I1 h1 fun y u S2 H2 ρ2 n2 I2 r2 h2 => ?_
  obtain ⟨z, e, k⟩ := h2.ro
  cases eg : g S2 x y with
  | none => rw [eg] at e; cases e
  | some d =>
    rw [eg] at e
    cases d with
    | bl c =>
      have ez : c = z := Option.some.inj e
      subst ez
      exact s H2 ρ2 S2 x y (.bl c) v u _ I2.st (Rep.mono n2 _ _ r1) r2 eg fun w H' n st r => ⟨c, r, k c H' ρ2 n st rfl⟩
    | _ => cases e
theorem pd_un {op : UnaryOp} {r : V → Hp → VK → Prop} {g : Store → D → Option D} (ho : UnR X (unaryOp op) r) (s : UnSnd r g) (ha : PE X a (tE W ma)) : PE X (.UnaryOp op a pos) (tE W (op1M g ma)) := by
  refine PE.weak (pe_un ho ha) fun σ H Q h => ?_
  obtain ⟨δ, S, ρ, I, h⟩ := h
  refine bindG I h fun x v S1 H1 ρ1 n1 I1 r1 h1 => ?_
  obtain ⟨z, e, k⟩ := h1.ro
  exact s H1 ρ1 S1 x z v Q I1.st r1 e fun w H' n st r => k w H' ρ1 n st r
theorem tE_var {i : Nat} (σ : St) (H : Hp) (Q : VK) (h : tE W (vM i) σ H Q) : tVar i σ H Q := by
  obtain ⟨δ, S, ρ, I, h⟩ := h
  unfold vM at h
  split at h
  · rename_i d e
    obtain ⟨v, e1, r⟩ := I.env.2 i d e
    exact ⟨v, e1, h.ok I.st r⟩
  · exact False.elim h
theorem pd_var (i : Nat) {x : Str} {pos : Pos} (hN : X.N[i]? = some x := by rfl) (hv : Vis X.env.scope x := by first | exact Or.inl rfl | exact Or.inr (Or.inl rfl) | exact Or.inr (Or.inr rfl)) (hd : (x == ("__debug__" : Str)) = false := by decide)
    (hcd : (x == ("__classdict__" : Str)) = false := by decide) : PE X (.Name x pos) (tE W (vM i)) := PE.weak (pe_var hN hv hd hcd) tE_var
theorem tE_c {d : D} {v : V} (hr : ∀ H ρ, Rep H ρ d v) (σ : St) (H : Hp) (Q : VK) (h : tE W (cM d) σ H Q) : tC v σ H Q := by
  obtain ⟨δ, S, ρ, I, h⟩ := h
  exact RunG.ok h I.st (hr _ _)
theorem pd_int {i : Int} {j : Nat} : PE X (.Constant (.int i) j pos) (tE W (cM (.int i))) := PE.weak pe_int (tE_c fun _ _ => rfl)
theorem pd_bl {b : Bool} {j : Nat} : PE X (.Constant (.bool b) j pos) (tE W (cM (.bl b))) := PE.weak pe_bl (tE_c fun _ _ => rfl)
theorem pd_non {j : Nat} : PE X (.Constant .none j pos) (tE W (cM .non)) := PE.weak pe_non (tE_c fun _ _ => rfl)
theorem pd_str {x : Str} {j : Nat} (l : List Nat) (hx : x = ⟨l.toArray⟩ := by decide +kernel) : PE X (.Constant (.str x) j pos) (tE W (cM (.str l))) := PE.weak pe_str (tE_c fun _ _ => by rw [hx]; rfl)
theorem pd_globI {x : Str} {i : Int} {t : Tok} (hm : X.mg x = some (.int i t)) (hg : Gl X x := by rfl) (hd : (x == ("__debug__" : Str)) = false := by decide) : PE X (.Name x pos) (tE W (cM (.int i))) := PE.weak (pe_glob (v := V.int i) hg hm ⟨t, rfl⟩ hd) (tE_c fun _ _ => rfl)
theorem pd_globS {x y : Str} {t : Tok} (l : List Nat) (hm : X.mg x = some (.str y t)) (hy : y = ⟨l.toArray⟩ := by decide +kernel) (hg : Gl X x := by rfl) (hd : (x == ("__debug__" : Str)) = false := by decide) : PE X (.Name x pos) (tE W (cM (.str l))) := PE.weak (pe_glob (v := V.str y) hg hm ⟨t, rfl⟩ hd) (tE_c fun _ _ => by rw [hy]; rfl)
theorem pd_ty {x : Str} {n : String} (hm : X.mg x = none) (hv : bootBuiltins x = some (.type n) := by decide +kernel) (hg : Gl X x := by rfl) (hn : x ≠ "__name__" := by decide) (hd : (x == ("__debug__" : Str)) = false := by decide) : PE X (.Name x pos) (tE W (cM (.raw (.ty n)))) := PE.weak (pe_bltn (v := V.ty n) hg hm hv rfl hn hd) (tE_c fun _ _ => rfl)
theorem pd_nil : PA X [] (tA W nilM) := PA.weak pa_nil fun σ H Q h => by
  obtain ⟨δ, S, ρ, I, h⟩ := h
  exact RunG.ok h I.st Reps.nil
theorem pd_cons (ha : PE X e (tE W me)) (hr : PA X es (tA W ms)) (hs : starEach (e :: es) X.env = (false, eval e X.env) :: starEach es X.env := by rfl) : PA X (e :: es) (tA W (consM me ms)) := by
  refine PA.weak (pa_cons ha hr hs) fun σ H Q h => ?_
  obtain ⟨δ, S, ρ, I, h⟩ := h
  refine bindG I h fun x v S1 H1 ρ1 n1 I1 r1 h1 => ?_
  refine bindG I1 h1 fun xs vs S2 H2 ρ2 n2 I2 r2 h2 => ?_
  exact RunG.ok h2 I2.st (Reps.cons (Rep.mono n2 _ _ r1) r2)
def tupG (_ : Store) (xs : List D) : Option D := if xs.length ≤ 100000 then some (.tup xs) else none
def lstG (_ : Store) (xs : List D) : Option D := if xs.length ≤ 100000 then some (.lst xs) else none
theorem sz5 {n : Nat} (h : n ≤ 100000) : n ≤ sizeLine := Nat.le_trans h (by decide)
theorem pd_tup {x1} (h : PA X es (tA W ms)) : PE X (.Tuple es x1 pos) (tE W (callG tupG ms)) := by
  refine PE.weak (pe_tup h) fun σ H Q h => ?_
  obtain ⟨δ, S, ρ, I, h⟩ := h
  refine bindG I h fun xs vs S1 H1 ρ1 n1 I1 r1 h1 => ?_
  obtain ⟨z, e, k⟩ := h1.ro
  unfold tupG at e
  split at e
  · rename_i hl
    cases e
    refine ⟨by rw [← r1.len]; exact sz5 hl, fun p hp => ?_⟩
    exact KD.tup (Q := Q) (fun w H' n st r => k w H' ρ1 n st r) I1.st r1 hp
  · cases e
theorem pd_lst (h : PA X es (tA W ms)) : PE X (.List es pos) (tE W (callG lstG ms)) := by
  refine PE.weak (pe_lst h) fun σ H Q h => ?_
  obtain ⟨δ, S, ρ, I, h⟩ := h
  refine bindG I h fun xs vs S1 H1 ρ1 n1 I1 r1 h1 => ?_
  obtain ⟨z, e, k⟩ := h1.ro
  unfold lstG at e
  split at e
  · rename_i hl
    cases e
    refine ⟨by rw [← r1.len]; exact sz5 hl, fun p hp => ?_⟩
    exact KD.lst (Q := Q) (fun w H' n st r => k w H' ρ1 n st r) I1.st r1 hp
  · cases e
def lstLM (ms : MA) : ME := fun δ S => (ms δ S).bind fun xs S1 => if xs.length ≤ 100000 then .ok (.loc S1.length) (S1 ++ [.lst xs]) else .stuck
theorem pd_lstL (h : PA X es (tA W ms)) : PE X (.List es pos) (tE W (lstLM ms)) := by
  refine PE.weak (pe_lst h) fun σ H Q h => ?_
  obtain ⟨δ, S, ρ, I, h⟩ := h
  refine bindG I h fun xs vs S1 H1 ρ1 n1 I1 r1 h1 => ?_
  split at h1
  · rename_i hl
    refine ⟨by rw [← r1.len]; exact sz5 hl, fun p hp => ?_⟩
    refine RunG.okN h1 (Nx.push hp) (I1.st.push hp ⟨vs, upd_same, Reps.mono (Nx.push hp) _ _ r1⟩) ⟨p, ?_, rfl⟩
    rw [← I1.st.len]
    simp
  · exact False.elim h1
end
def asL (S : Store) : D → Option (List D)
  | .lst ds => some ds
  | .loc n => match S[n]? with
    | some (.lst ds) => some ds
    | _ => none
  | _ => none
def asT : D → Option (List D)
  | .tup ds => some ds
  | _ => none
def asQ (S : Store) (d : D) : Option (List D) := match asL S d with
  | some ds => some ds
  | none => asT d
section
variable {H : Hp} {ρ : List Addr} {S : Store} {d : D} {ds : List D} {v : V}
theorem asL_rep (st : StS H S ρ) (r : Rep H ρ d v) (h : asL S d = some ds) : ∃ a vs, v = .ref a ∧ H a = some (.lst vs) ∧ Reps H ρ ds vs := by
  cases d with
  | lst es =>
    cases h
    obtain ⟨a, vs, rfl, h1, _, h2⟩ := r
    exact ⟨a, vs, rfl, h1, h2⟩
  | loc n =>
    obtain ⟨a, ha, rfl⟩ := r
    simp only [asL] at h
    split at h
    · rename_i ds' e
      cases h
      obtain ⟨vs, h1, h2⟩ := st.cells n a _ ha e
      exact ⟨a, vs, rfl, h1, h2⟩
    · cases h
  | _ => cases h
theorem asT_rep (r : Rep H ρ d v) (h : asT d = some ds) : ∃ a vs, v = .ref a ∧ RdT H a vs ∧ Reps H ρ ds vs := by
  cases d with
  | tup es =>
    cases h
    obtain ⟨a, vs, rfl, h1, _, h2⟩ := r
    exact ⟨a, vs, rfl, h1, h2⟩
  | _ => cases h
theorem asQ_rep {K : PySem.W.Frag} (st : StS H S ρ) (r : Rep H ρ d v) (h : asQ S d = some ds) : ∃ a vs, v = .ref a ∧ (SqL K H a vs ∨ SqT K H a vs) ∧ Reps H ρ ds vs := by
  unfold asQ at h
  split at h
  · rename_i e
    cases h
    obtain ⟨a, vs, h0, h1, h2⟩ := asL_rep st r e
    exact ⟨a, vs, h0, .inl (.inl (.inl h1)), h2⟩
  · obtain ⟨a, vs, h0, h1, h2⟩ := asT_rep r h
    exact ⟨a, vs, h0, .inr (.inl h1.rd), h2⟩
end
theorem str_app (a b : List Nat) : (⟨a.toArray⟩ : Str) ++ (⟨b.toArray⟩ : Str) = ⟨(a ++ b).toArray⟩ := by
  show (⟨a.toArray ++ b.toArray⟩ : Str) = _
  simp
theorem str_len (a : List Nat) : (⟨a.toArray⟩ : Str).length = a.length := by
  show a.toArray.size = _
  simp
theorem str_inj {a b : List Nat} : ((⟨a.toArray⟩ : Str) = ⟨b.toArray⟩) ↔ a = b := by
  constructor
  · intro h
    have := congrArg (fun s : Str => s.cps.toList) h
    simpa using this
  · rintro rfl
    rfl
section
variable {X : Cx}
def addG (S : Store) (x y : D) : Option D := match x, y with
  | .int i, .int j => some (.int (i + j))
  | .str a, .str b => if a.length + b.length ≤ 1000000 then some (.str (a ++ b)) else none
  | .tup a, .tup b => if a.length + b.length ≤ 1000000 then some (.tup (a ++ b)) else none
  | x, y => match asL S x, asL S y with
    | some a, some b => if a.length + b.length ≤ 1000000 then some (.lst (a ++ b)) else none
    | _, _ => none
theorem sz6 {n : Nat} (h : n ≤ 1000000) : n ≤ sizeLine := Nat.le_trans h (by decide)
def rAddA (K : PySem.W.Frag) : R2 := fun x y H Q => (∃ i j, x = .int i ∧ y = .int j ∧ Q (.int (i + j)) H) ∨ ((∃ i j, x = .str i ∧ y = .str j ∧ i.length + j.length ≤ sizeLine ∧ Q (.str (i ++ j)) H) ∨ (rCatA K x y H Q ∨ rCat x y H Q))
theorem op_addA : OpR X (binaryOp .Add) (rAddA X.K) := OpR.or op_add (OpR.or op_add_str (OpR.or op_catA op_cat))
theorem snd_add {K : PySem.W.Frag} : OpSnd (rAddA K) addG := by
  intro H ρ S x y z v u Q st rx ry e k
  unfold addG at e
  split at e
  · cases e
    cases rx
    cases ry
    exact .inl ⟨_, _, rfl, rfl, k.now st rfl⟩
  · rename_i a b
    split at e
    · rename_i hl
      cases e
      cases rx
      cases ry
      refine .inr (.inl ⟨_, _, rfl, rfl, by rw [str_len, str_len]; exact sz6 hl, ?_⟩)
      rw [str_app]
      exact k.now st rfl
    · cases e
  · rename_i a b
    split at e
    · rename_i hl
      cases e
      obtain ⟨p, vs, rfl, h1, n1, r1⟩ := rx
      obtain ⟨q, us, rfl, h2, n2, r2⟩ := ry
      refine .inr (.inr (.inl ⟨p, q, vs, us, rfl, rfl, .inl h1.rd, .inl h2.rd, by rw [← r1.len, ← r2.len]; exact sz6 hl, fun hx => ?_, fun hx hy => ?_, fun hx hy a' ha => ?_⟩))
      · refine k.now st ⟨q, us, rfl, h2, n2, ?_⟩
        subst hx
        have := r1.len
        cases a with
        | nil => exact r2
        | cons _ _ => simp at this
      · refine k.now st ⟨p, vs, rfl, h1, n1, ?_⟩
        subst hy
        have := r2.len
        cases b with
        | nil => rw [List.append_nil]; exact r1
        | cons _ _ => simp at this
      · exact KD.tup k st (r1.append r2) ha
    · cases e
  · split at e
    · rename_i a b ea eb
      split at e
      · rename_i hl
        cases e
        obtain ⟨p, vs, rfl, h1, r1⟩ := asL_rep st rx ea
        obtain ⟨q, us, rfl, h2, r2⟩ := asL_rep st ry eb
        refine .inr (.inr (.inr ⟨p, q, vs, us, rfl, rfl, h1, h2, by rw [← r1.len, ← r2.len]; exact sz6 hl, fun a' ha => ?_⟩))
        exact KD.lst k st (r1.append r2) ha
      · cases e
    · cases e
def subG (_ : Store) (x y : D) : Option D := match x, y with
  | .int i, .int j => some (.int (i - j))
  | _, _ => none
theorem foldl_rep (a : Array Nat) : ∀ (k : Nat) (acc : Array Nat), ((List.replicate k a).foldl (· ++ ·) acc).toList = acc.toList ++ (List.replicate k a.toList).flatten
  | 0, acc => by simp
  | k + 1, acc => by
    rw [List.replicate_succ, List.foldl_cons, foldl_rep a k, List.replicate_succ, List.flatten_cons, Array.toList_append, List.append_assoc]
def rMulS : R2 := fun x y H Q => ∃ (l : List Nat) (k : Int), x = .str ⟨l.toArray⟩ ∧ y = .int k ∧ 0 ≤ k ∧ k ≤ 1000000 ∧ l.length * k.toNat ≤ 1000000 ∧ Q (.str ⟨(List.replicate k.toNat l).flatten.toArray⟩) H
theorem op_mulS : OpR X (binaryOp .Mult) rMulS := by
  intro pins s σ H x y v u Q I rx ry h
  obtain ⟨l, k, rfl, rfl, h0, h1, h2, q⟩ := h
  obtain ⟨t, rfl⟩ := rx
  obtain ⟨t', rfl⟩ := ry
  refine PySem.P.mul_str ?_ (fun hn hx => ?_) (fun hn hx => ?_) ?_
  · have a1 : ¬ k < -(2 ^ 63 : Int) := by omega
    have a2 : ¬ k ≥ 2 ^ 63 := by omega
    rw [decide_eq_false a1, decide_eq_false a2]; rfl
  · rw [str_len]
    have hk : 1 ≤ k := by omega
    intro hz
    have : (2 ^ 63 - 1 : Int) / k ≥ l.length := by
      refine (Int.le_ediv_iff_mul_le (by omega)).mpr ?_
      have e : (l.length : Int) * k = ((l.length * k.toNat : Nat) : Int) := by
        rw [Int.natCast_mul, Int.toNat_of_nonneg h0]
      rw [e]
      omega
    omega
  · rw [str_len]
    show decide (_ > _) = false
    refine decide_eq_false ?_
    have := sz6 h2
    omega
  · by_cases hn : k < 1
    · rw [if_pos hn]
      have e0 : k.toNat = 0 := by omega
      rw [e0] at q
      refine ⟨by decide, V.str ⟨#[]⟩, H, I.tok _, ⟨_, rfl⟩, by simpa using q⟩
    · rw [if_neg hn]
      split
      · rename_i hx
        refine ⟨V.str ⟨l.toArray⟩, H, I, ⟨t, rfl⟩, ?_⟩
        have e : (List.replicate k.toNat l).flatten = l := by
          rcases Bool.or_eq_true_iff.mp hx with z | z
          · have : k = 1 := by simpa using z
            subst this
            simp
          · rw [str_len] at z
            have : l = [] := by simpa using z
            subst this
            simp
        rw [e] at q
        exact q
      · have e : (⟨(List.replicate k.toNat (⟨l.toArray⟩ : Str).cps).foldl (· ++ ·) #[]⟩ : Str) = ⟨(List.replicate k.toNat l).flatten.toArray⟩ := by
          have := foldl_rep l.toArray k.toNat #[]
          simp only [List.nil_append] at this
          congr 1
          apply Array.toList_inj.mp
          rw [this]
        rw [e]
        refine ⟨?_, V.str ⟨(List.replicate k.toNat l).flatten.toArray⟩, H, I.tok _, ⟨_, rfl⟩, q⟩
        rw [str_len]
        have : (List.replicate k.toNat l).flatten.length = l.length * k.toNat := by
          rw [List.length_flatten, List.map_replicate, List.sum_replicate_nat, Nat.mul_comm]
        rw [this]
        exact sz6 h2
abbrev mulOk (i j : Int) : Prop := ((-(2 ^ 64) < i ∧ i < 2 ^ 64) ∨ (-(2 ^ 64) < j ∧ j < 2 ^ 64)) ∨ i.natAbs.log2 + j.natAbs.log2 < 1000000
def mulG (S : Store) (x y : D) : Option D := match x, y with
  | .int i, .int j => if mulOk i j then some (.int (i * j)) else none
  | .str l, .int k => if 0 ≤ k ∧ k ≤ 1000000 ∧ l.length * k.toNat ≤ 1000000 then some (.str (List.replicate k.toNat l).flatten) else none
  | x, .int k => match asL S x with
    | some a => if 0 ≤ k ∧ k ≤ 1000000 ∧ a.length * k.toNat ≤ 1000000 then some (.lst (List.replicate k.toNat a).flatten) else none
    | none => none
  | _, _ => none
def rMulA : R2 := fun x y H Q => (rI CMul (fun i j => .int (i * j)) x y H Q ∨ rI CMulW (fun i j => .int (i * j)) x y H Q) ∨ (rMulS x y H Q ∨ rRep x y H Q)
theorem op_mulA : OpR X (binaryOp .Mult) rMulA := OpR.or (OpR.or op_mul op_mulW) (OpR.or op_mulS op_rep)
theorem Reps.rep {H : Hp} {ρ : List Addr} {ds : List D} {vs : List V} (r : Reps H ρ ds vs) : ∀ k : Nat, Reps H ρ (List.replicate k ds).flatten (List.replicate k vs).flatten
  | 0 => by simpa using Reps.nil
  | k + 1 => by
    rw [List.replicate_succ, List.replicate_succ, List.flatten_cons, List.flatten_cons]
    exact r.append (Reps.rep r k)
theorem snd_mul : OpSnd rMulA mulG := by
  intro H ρ S x y z v u Q st rx ry e k
  unfold mulG at e
  split at e
  · split at e
    · rename_i hc
      cases e
      cases rx
      cases ry
      rcases hc with hc | hc
      · exact .inl (.inl ⟨_, _, rfl, rfl, hc, k.now st rfl⟩)
      · exact .inl (.inr ⟨_, _, rfl, rfl, hc, k.now st rfl⟩)
    · cases e
  · split at e
    · rename_i hc
      cases e
      cases rx
      cases ry
      exact .inr (.inl ⟨_, _, rfl, rfl, hc.1, hc.2.1, hc.2.2, k.now st rfl⟩)
    · cases e
  · split at e
    · rename_i a ea
      split at e
      · rename_i hc
        cases e
        obtain ⟨p, vs, rfl, h1, r1⟩ := asL_rep st rx ea
        cases ry
        refine .inr (.inr ⟨p, _, vs, rfl, rfl, h1, by omega, by omega, ?_, fun a' ha => ?_⟩)
        · rw [← r1.len]; exact sz6 hc.2.2
        · exact KD.lst k st (r1.rep _) ha
      · cases e
    · cases e
  · cases e
def fdivG (_ : Store) (x y : D) : Option D := match x, y with
  | .int i, .int j => if 0 < j ∧ j.natAbs.log2 < 9000 then some (.int (i / j)) else none
  | _, _ => none
theorem snd_fdiv : OpSnd (rI CDivW fun i j => .int (i / j)) fdivG := by
  intro H ρ S x y z v u Q st rx ry e k
  unfold fdivG at e
  split at e
  · split at e
    · rename_i hc
      cases e
      cases rx
      cases ry
      exact ⟨_, _, rfl, rfl, hc, k.now st rfl⟩
    · cases e
  · cases e
def modG (_ : Store) (x y : D) : Option D := match x, y with
  | .int i, .int j => if 0 < j then some (.int (i % j)) else none
  | _, _ => none
theorem snd_mod : OpSnd (rI (fun _ j => 0 < j) fun i j => .int (i % j)) modG := by
  intro H ρ S x y z v u Q st rx ry e k
  unfold modG at e
  split at e
  · split at e
    · rename_i hc
      cases e
      cases rx
      cases ry
      exact ⟨_, _, rfl, rfl, hc, k.now st rfl⟩
    · cases e
  · cases e
def powG (_ : Store) (x y : D) : Option D := match x, y with
  | .int i, .int j => if 0 ≤ j ∧ j ≤ 1000000 ∧ i.natAbs < 2 ^ 64 then some (.int (i ^ j.toNat)) else none
  | _, _ => none
theorem snd_pow : OpSnd (rI CPow fun i j => .int (i ^ j.toNat)) powG := by
  intro H ρ S x y z v u Q st rx ry e k
  unfold powG at e
  split at e
  · split at e
    · rename_i hc
      cases e
      cases rx
      cases ry
      exact ⟨_, _, rfl, rfl, hc, k.now st rfl⟩
    · cases e
  · cases e
def negG (_ : Store) (x : D) : Option D := match x with
  | .int i => some (.int (-i))
  | _ => none
theorem snd_neg : UnSnd (rU fun i => .int (-i)) negG := by
  intro H ρ S x z v Q st rx e k
  unfold negG at e
  split at e
  · cases e
    cases rx
    exact ⟨_, rfl, k.now st rfl⟩
  · cases e
end
section
variable {X : Cx} {W : WX} {a b c e : Expr} {es rest : List Expr} {ma mb mc me : ME} {na nb : MB} {ms : MA} {pos : Pos}
def ltG (_ : Store) (x y : D) : Option D := match x, y with
  | .int i, .int j => some (.bl (decide (i < j)))
  | .str a, .str b => some (.bl (decide (a < b)))
  | _, _ => none
def leG (_ : Store) (x y : D) : Option D := match x, y with
  | .int i, .int j => some (.bl (decide (i ≤ j)))
  | .str a, .str b => some (.bl (!decide (b < a)))
  | _, _ => none
def gtG (_ : Store) (x y : D) : Option D := match x, y with
  | .int i, .int j => some (.bl (decide (j < i)))
  | .str a, .str b => some (.bl (decide (b < a)))
  | _, _ => none
def geG (_ : Store) (x y : D) : Option D := match x, y with
  | .int i, .int j => some (.bl (decide (j ≤ i)))
  | .str a, .str b => some (.bl (!decide (a < b)))
  | _, _ => none
def rLtA : R2 := fun x y H Q => rI0 (fun i j => .bl (decide (i < j))) x y H Q ∨ ∃ i j, x = .str i ∧ y = .str j ∧ Q (.bl (decide (i.cps.toList < j.cps.toList))) H
def rLeA : R2 := fun x y H Q => rI0 (fun i j => .bl (decide (i ≤ j))) x y H Q ∨ ∃ i j, x = .str i ∧ y = .str j ∧ Q (.bl (!decide (j.cps.toList < i.cps.toList))) H
def rGtA : R2 := fun x y H Q => rI0 (fun i j => .bl (decide (j < i))) x y H Q ∨ ∃ i j, x = .str i ∧ y = .str j ∧ Q (.bl (decide (j.cps.toList < i.cps.toList))) H
def rGeA : R2 := fun x y H Q => rI0 (fun i j => .bl (decide (j ≤ i))) x y H Q ∨ ∃ i j, x = .str i ∧ y = .str j ∧ Q (.bl (!decide (i.cps.toList < j.cps.toList))) H
theorem op_ltA : OpR X (compareOp .Lt) rLtA := OpR.or op_lt op_lt_str
theorem op_leA : OpR X (compareOp .LtE) rLeA := OpR.or op_le op_le_str
theorem op_gtA : OpR X (compareOp .Gt) rGtA := OpR.or op_gt op_gt_str
theorem op_geA : OpR X (compareOp .GtE) rGeA := OpR.or op_ge op_ge_str
theorem snd_lt : OpSnd rLtA ltG := by
  intro H ρ S x y z v u Q st rx ry e k
  unfold ltG at e
  split at e
  · cases e; cases rx; cases ry
    exact .inl ⟨_, _, rfl, rfl, k.now st rfl⟩
  · cases e; cases rx; cases ry
    exact .inr ⟨_, _, rfl, rfl, k.now st rfl⟩
  · cases e
theorem snd_le : OpSnd rLeA leG := by
  intro H ρ S x y z v u Q st rx ry e k
  unfold leG at e
  split at e
  · cases e; cases rx; cases ry
    exact .inl ⟨_, _, rfl, rfl, k.now st rfl⟩
  · cases e; cases rx; cases ry
    exact .inr ⟨_, _, rfl, rfl, k.now st rfl⟩
  · cases e
theorem snd_gt : OpSnd rGtA gtG := by
  intro H ρ S x y z v u Q st rx ry e k
  unfold gtG at e
  split at e
  · cases e; cases rx; cases ry
    exact .inl ⟨_, _, rfl, rfl, k.now st rfl⟩
  · cases e; cases rx; cases ry
    exact .inr ⟨_, _, rfl, rfl, k.now st rfl⟩
  · cases e
theorem snd_ge : OpSnd rGeA geG := by
  intro H ρ S x y z v u Q st rx ry e k
  unfold geG at e
  split at e
  · cases e; cases rx; cases ry
    exact .inl ⟨_, _, rfl, rfl, k.now st rfl⟩
  · cases e; cases rx; cases ry
    exact .inr ⟨_, _, rfl, rfl, k.now st rfl⟩
  · cases e
theorem dec_str {a b : List Nat} : decide (V.str ⟨a.toArray⟩ = V.str ⟨b.toArray⟩) = decide (a = b) := decide_eq_decide.mpr ⟨fun h => str_inj.mp (V.str.inj h), fun h => congrArg V.str (str_inj.mpr h)⟩
theorem dec_int {a b : Int} : decide (V.int a = V.int b) = decide (a = b) := decide_eq_decide.mpr ⟨fun h => V.int.inj h, fun h => congrArg V.int h⟩
mutual
def toPy : D → Option PyData
  | .non => some .none
  | .bl b => some (.bool b)
  | .int i => some (.int i)
  | .str l => some (.str ⟨l.toArray⟩)
  | .tup ds => match toPys ds with
    | some ps => some (.tuple ps)
    | none => none
  | .lst ds => match toPys ds with
    | some ps => some (.list ps)
    | none => none
  | _ => none
def toPys : List D → Option (List PyData)
  | [] => some []
  | d :: ds => match toPy d, toPys ds with
    | some p, some ps => some (p :: ps)
    | _, _ => none
end
def toPyS (S : Store) (d : D) : Option PyData := match d with
  | .loc _ => match asL S d with
    | some ds => match toPys ds with
      | some ps => some (.list ps)
      | none => none
    | none => none
  | d => toPy d
mutual
theorem toPy_dp {K : PySem.W.Frag} {H : Hp} {ρ : List Addr} : ∀ (d : D) (v : V) (p : PyData), toPy d = some p → Rep H ρ d v → Dp K H v p
  | .non, v, p, e, r => by cases e; cases r; exact .non
  | .bl b, v, p, e, r => by cases e; cases r; exact .bl b
  | .int i, v, p, e, r => by cases e; cases r; exact .int i
  | .str l, v, p, e, r => by cases e; cases r; exact .str _
  | .tup ds, v, p, e, r => by
    obtain ⟨a, vs, rfl, h1, _, r1⟩ := r
    simp only [toPy] at e
    split at e
    · rename_i ps ep
      cases e
      exact .tup (.inl h1.rd) (toPys_dp ds vs ps ep r1)
    · cases e
  | .lst ds, v, p, e, r => by
    obtain ⟨a, vs, rfl, h1, _, r1⟩ := r
    simp only [toPy] at e
    split at e
    · rename_i ps ep
      cases e
      exact .lst (.inl (.inl h1)) (toPys_dp ds vs ps ep r1)
    · cases e
  | .dct _ _, v, p, e, r => by cases e
  | .obj _ _ _, v, p, e, r => by cases e
  | .loc _, v, p, e, r => by cases e
  | .raw _, v, p, e, r => by cases e
  | .exn _ _ _ _, v, p, e, r => by cases e
theorem toPys_dp {K : PySem.W.Frag} {H : Hp} {ρ : List Addr} : ∀ (ds : List D) (vs : List V) (ps : List PyData), toPys ds = some ps → Reps H ρ ds vs → DpAll K H vs ps
  | [], vs, ps, e, r => by cases e; cases r; exact .nil
  | d :: ds, vs, ps, e, r => by
    obtain ⟨v, us, rfl, h1, h2⟩ := r
    simp only [toPys] at e
    split at e
    · rename_i p ps' e1 e2
      cases e
      exact .cons (toPy_dp d v p e1 h1) (toPys_dp ds us ps' e2 h2)
    · cases e
end
theorem toPyS_dp {K : PySem.W.Frag} {H : Hp} {ρ : List Addr} {S : Store} {d : D} {v : V} {p : PyData} (st : StS H S ρ) (e : toPyS S d = some p) (r : Rep H ρ d v) : Dp K H v p := by
  cases d with
  | loc n =>
    simp only [toPyS] at e
    split at e
    · rename_i ds ea
      split at e
      · rename_i ps ep
        cases e
        obtain ⟨a, vs, rfl, h1, r1⟩ := asL_rep st r ea
        exact .lst (.inl (.inl h1)) (toPys_dp ds vs ps ep r1)
      · cases e
    · cases e
  | _ => exact toPy_dp _ v p e r
def eqB (S : Store) (x y : D) : Option Bool := match x, y with
  | .str a, .str b => some (decide (a = b))
  | .int i, .int j => some (decide (i = j))
  | x, y => match toPyS S x, toPyS S y with
    | some p, some q => if SeqAt.shaped p = true ∧ SeqAt.shaped q = true then some (PyData.eqv p q) else none
    | _, _ => none
def eqG (S : Store) (x y : D) : Option D := match eqB S x y with
  | some b => some (.bl b)
  | none => none
def neG (S : Store) (x y : D) : Option D := match eqB S x y with
  | some b => some (.bl (!b))
  | none => none
def rEqA (K : PySem.W.Frag) : R2 := fun x y H Q => rEq x y H Q ∨ rEqD K x y H Q
def rNeA (K : PySem.W.Frag) : R2 := fun x y H Q => rNe x y H Q ∨ rNeD K x y H Q
theorem op_eqA (hu : X.A.units + 64 < cLine) : OpR X (compareOp .Eq) (rEqA X.K) := OpR.or op_eq (op_eqD hu)
theorem op_neA (hu : X.A.units + 64 < cLine) : OpR X (compareOp .NotEq) (rNeA X.K) := OpR.or op_ne (op_neD hu)
theorem snd_eq {K : PySem.W.Frag} : OpSnd (rEqA K) eqG := by
  intro H ρ S x y z v u Q st rx ry e k
  unfold eqG at e
  split at e
  · rename_i b eb
    cases e
    unfold eqB at eb
    split at eb
    · cases eb; cases rx; cases ry
      refine .inl ⟨rfl, ?_⟩
      rw [dec_str]
      exact k.now st rfl
    · cases eb; cases rx; cases ry
      refine .inl ⟨rfl, ?_⟩
      rw [dec_int]
      exact k.now st rfl
    · split at eb
      · rename_i p q ep eq
        split at eb
        · rename_i hs
          cases eb
          exact .inr ⟨p, q, toPyS_dp st ep rx, toPyS_dp st eq ry, hs.1, hs.2, k.now st rfl⟩
        · cases eb
      · cases eb
  · cases e
theorem snd_ne {K : PySem.W.Frag} : OpSnd (rNeA K) neG := by
  intro H ρ S x y z v u Q st rx ry e k
  unfold neG at e
  split at e
  · rename_i b eb
    cases e
    unfold eqB at eb
    split at eb
    · cases eb; cases rx; cases ry
      refine .inl ⟨rfl, ?_⟩
      rw [dec_str]
      exact k.now st rfl
    · cases eb; cases rx; cases ry
      refine .inl ⟨rfl, ?_⟩
      rw [dec_int]
      exact k.now st rfl
    · split at eb
      · rename_i p q ep eq
        split at eb
        · rename_i hs
          cases eb
          exact .inr ⟨p, q, toPyS_dp st ep rx, toPyS_dp st eq ry, hs.1, hs.2, k.now st rfl⟩
        · cases eb
      · cases eb
  · cases e
def isN : D → Bool
  | .non => true
  | _ => false
def isB (S : Store) (x y : D) : Option Bool := match y with
  | .non => match x with
    | .raw _ => none
    | x => some (isN x)
  | .bl b => match x with
    | .bl a => some (decide (a = b))
    | .str _ => some false
    | _ => none
  | _ => none
def isG (S : Store) (x y : D) : Option D := match isB S x y with
  | some b => some (.bl b)
  | none => none
def isntG (S : Store) (x y : D) : Option D := match isB S x y with
  | some b => some (.bl (!b))
  | none => none
theorem op_is_sb : OpR X (compareOp .Is) (fun x y H Q => ∃ l b, x = .str l ∧ y = .bl b ∧ Q (.bl false) H) := by
  intro pins s σ H x y v u Q I rx ry h
  obtain ⟨l, b, rfl, rfl, q⟩ := h
  obtain ⟨t, e⟩ := (show ∃ t, v = Value.str l t from rx)
  cases e
  cases (show u = Value.bool b from ry)
  exact wpAny_is_other rfl (fun z => nomatch z) ⟨.bl false, H, I, rfl, q⟩
theorem op_isnot_sb : OpR X (compareOp .IsNot) (fun x y H Q => ∃ l b, x = .str l ∧ y = .bl b ∧ Q (.bl true) H) := by
  intro pins s σ H x y v u Q I rx ry h
  obtain ⟨l, b, rfl, rfl, q⟩ := h
  obtain ⟨t, e⟩ := (show ∃ t, v = Value.str l t from rx)
  cases e
  cases (show u = Value.bool b from ry)
  exact wpAny_isNot_other rfl (fun z => nomatch z) ⟨.bl true, H, I, rfl, q⟩
def rIsA : R2 := fun x y H Q => (y = .non ∧ Q (.bl (decide (x = .non))) H) ∨ ((∃ a b, x = .bl a ∧ y = .bl b ∧ Q (.bl (decide (a = b))) H) ∨ ∃ l b, x = .str l ∧ y = .bl b ∧ Q (.bl false) H)
def rNotA : R2 := fun x y H Q => (y = .non ∧ Q (.bl (!decide (x = .non))) H) ∨ ((∃ a b, x = .bl a ∧ y = .bl b ∧ Q (.bl (!decide (a = b))) H) ∨ ∃ l b, x = .str l ∧ y = .bl b ∧ Q (.bl true) H)
theorem op_isA : OpR X (compareOp .Is) rIsA := OpR.or op_isN (OpR.or op_is_bl op_is_sb)
theorem op_isntA : OpR X (compareOp .IsNot) rNotA := OpR.or op_notN (OpR.or op_isnot_bl op_isnot_sb)
theorem isN_rep {H : Hp} {ρ : List Addr} {x : D} {v : V} (r : Rep H ρ x v) (h : ∀ u, x ≠ .raw u) : decide (v = .non) = isN x := by
  cases x with
  | non => cases r; rfl
  | bl _ => cases r; rfl
  | int _ => cases r; rfl
  | str _ => cases r; rfl
  | tup _ => obtain ⟨a, vs, rfl, _⟩ := r; rfl
  | lst _ => obtain ⟨a, vs, rfl, _⟩ := r; rfl
  | dct _ _ => obtain ⟨a, vs, rfl, _⟩ := r; rfl
  | obj _ _ _ => obtain ⟨a, d, vs, rfl, _⟩ := r; rfl
  | loc _ => obtain ⟨a, _, rfl⟩ := r; rfl
  | raw u => exact absurd rfl (h u)
  | exn _ _ _ _ => obtain ⟨vs, rfl, _⟩ := r; rfl
theorem snd_is : OpSnd rIsA isG := by
  intro H ρ S x y z v u Q st rx ry e k
  unfold isG at e
  split at e
  · rename_i b eb
    cases e
    unfold isB at eb
    split at eb
    · split at eb
      · cases eb
      · rename_i x' hx
        cases eb
        cases ry
        refine .inl ⟨rfl, ?_⟩
        rw [isN_rep rx hx]
        exact k.now st rfl
    · split at eb
      · cases eb
        cases rx
        cases ry
        exact .inr (.inl ⟨_, _, rfl, rfl, k.now st rfl⟩)
      · cases eb
        cases rx
        cases ry
        exact .inr (.inr ⟨_, _, rfl, rfl, k.now st rfl⟩)
      · cases eb
    · cases eb
  · cases e
theorem snd_isnt : OpSnd rNotA isntG := by
  intro H ρ S x y z v u Q st rx ry e k
  unfold isntG at e
  split at e
  · rename_i b eb
    cases e
    unfold isB at eb
    split at eb
    · split at eb
      · cases eb
      · rename_i x' hx
        cases eb
        cases ry
        refine .inl ⟨rfl, ?_⟩
        rw [isN_rep rx hx]
        exact k.now st rfl
    · split at eb
      · cases eb
        cases rx
        cases ry
        exact .inr (.inl ⟨_, _, rfl, rfl, k.now st rfl⟩)
      · cases eb
        cases rx
        cases ry
        exact .inr (.inr ⟨_, _, rfl, rfl, k.now st rfl⟩)
      · cases eb
    · cases eb
  · cases e
def flV : D → Option V
  | .non => some .non
  | .bl b => some (.bl b)
  | .int i => some (.int i)
  | .str l => some (.str ⟨l.toArray⟩)
  | _ => none
theorem flV_rep {H : Hp} {ρ : List Addr} {x : D} {v w : V} (r : Rep H ρ x v) (h : flV x = some w) : v = w ∧ flatV v = true := by
  cases x with
  | non => cases h; cases r; exact ⟨rfl, rfl⟩
  | bl _ => cases h; cases r; exact ⟨rfl, rfl⟩
  | int _ => cases h; cases r; exact ⟨rfl, rfl⟩
  | str _ => cases h; cases r; exact ⟨rfl, rfl⟩
  | _ => cases h
def flVs : List D → Option (List V)
  | [] => some []
  | d :: ds => match flV d, flVs ds with
    | some v, some vs => some (v :: vs)
    | _, _ => none
theorem flVs_rep {H : Hp} {ρ : List Addr} : ∀ {ds : List D} {vs ws : List V}, Reps H ρ ds vs → flVs ds = some ws → vs = ws ∧ vs.all flatV = true
  | [], vs, ws, r, h => by cases r; cases h; exact ⟨rfl, rfl⟩
  | d :: ds, vs, ws, r, h => by
    obtain ⟨v, us, rfl, h1, h2⟩ := r
    simp only [flVs] at h
    split at h
    · rename_i w ws' e1 e2
      cases h
      obtain ⟨rfl, f1⟩ := flV_rep h1 e1
      obtain ⟨rfl, f2⟩ := flVs_rep h2 e2
      exact ⟨rfl, by rw [List.all_cons, f1, f2]; rfl⟩
    · cases h
def memK (ks : List Key) (k : Key) : Bool := ks.any fun q => decide (q = k)
def asDct (S : Store) : D → Option (List Key × List D)
  | .dct ks ds => some (ks, ds)
  | .loc n => match S[n]? with
    | some (.dct ks ds) => some (ks, ds)
    | _ => none
  | _ => none
def keyD : D → Option Key
  | .int i => some (.inl i)
  | .str l => some (.inr ⟨l.toArray⟩)
  | _ => none
theorem asDct_rep {H : Hp} {ρ : List Addr} {S : Store} {d : D} {v : V} {ks : List Key} {ds : List D} (st : StS H S ρ) (r : Rep H ρ d v) (h : asDct S d = some (ks, ds)) : ∃ a vs, v = .ref a ∧ Rd H a (.dK (ks.zip vs)) ∧ ks.length = ds.length ∧ Reps H ρ ds vs := by
  cases d with
  | dct ks' es =>
    cases h
    obtain ⟨a, vs, rfl, h1, _, l, h2⟩ := r
    exact ⟨a, vs, rfl, h1, l, h2⟩
  | loc n =>
    obtain ⟨a, ha, rfl⟩ := r
    simp only [asDct] at h
    split at h
    · rename_i ks' ds' e
      cases h
      obtain ⟨vs, h1, l, h2⟩ := st.cells n a _ ha e
      exact ⟨a, vs, rfl, .inl h1, l, h2⟩
    · cases h
  | _ => cases h
theorem keyD_rep {H : Hp} {ρ : List Addr} {x : D} {v : V} {k : Key} (r : Rep H ρ x v) (h : keyD x = some k) : v = kV k := by
  cases x with
  | int _ => cases h; cases r; rfl
  | str _ => cases h; cases r; rfl
  | _ => cases h
theorem valV_zip_isSome : ∀ {ks : List Key} {vs : List V} {k : Key}, ks.length = vs.length → (valV (ks.zip vs) k).isSome = memK ks k
  | [], [], k, _ => rfl
  | [], _ :: _, _, h => by cases h
  | _ :: _, [], _, h => by cases h
  | q :: ks, v :: vs, k, h => by
    have ih := valV_zip_isSome (ks := ks) (vs := vs) (k := k) (by simpa using h)
    rw [List.zip_cons_cons]
    by_cases e : q = k
    · rw [valV_pos (show ((q, v) : Key × V).1 = k from e)]
      simp [memK, e]
    · have : valV ((q, v) :: ks.zip vs) k = valV (ks.zip vs) k := by simp [valV, List.find?_cons, e]
      rw [this, ih]
      simp [memK, e]
def inB (S : Store) (x y : D) : Option Bool := match y with
  | .str z => match x with
    | .str [c] => some (decide (c ∈ z))
    | .str l => some (!(Builtin.Str.occurrences (⟨z.toArray⟩ : Str) (⟨l.toArray⟩ : Str) 0 (⟨z.toArray⟩ : Str).length 1).isEmpty)
    | _ => none
  | y => match asQ S y with
    | some ds => match flV x, flVs ds with
      | some v, some vs => some (inV v vs)
      | _, _ => none
    | none => match asDct S y, keyD x with
      | some (ks, _), some k => some (memK ks k)
      | _, _ => none
def inG (S : Store) (x y : D) : Option D := match inB S x y with
  | some b => some (.bl b)
  | none => none
def ninG (S : Store) (x y : D) : Option D := match inB S x y with
  | some b => some (.bl (!b))
  | none => none
def rInA (K : PySem.W.Frag) : R2 := fun x y H Q => (∃ (c : Nat) (z : Str), x = .str ⟨#[c]⟩ ∧ y = .str z ∧ Q (.bl (decide (c ∈ z.cps.toList))) H) ∨
  ((∃ i j, x = .str i ∧ y = .str j ∧ Q (.bl (!(Builtin.Str.occurrences j i 0 j.length 1).isEmpty)) H) ∨ (rIn K false x y H Q ∨ ∃ a o, y = .ref a ∧ DGet H a x o ∧ Q (.bl o.isSome) H))
def rNinA (K : PySem.W.Frag) : R2 := fun x y H Q => (∃ (c : Nat) (z : Str), x = .str ⟨#[c]⟩ ∧ y = .str z ∧ Q (.bl (!decide (c ∈ z.cps.toList))) H) ∨
  ((∃ i j, x = .str i ∧ y = .str j ∧ Q (.bl (!(!(Builtin.Str.occurrences j i 0 j.length 1).isEmpty))) H) ∨ (rIn K true x y H Q ∨ ∃ a o, y = .ref a ∧ DGet H a x o ∧ Q (.bl (!o.isSome)) H))
theorem op_inD1 (hu : X.A.units + 1 < cLine) : OpR X (compareOp .In) (fun x y H Q => ∃ a o, y = .ref a ∧ DGet H a x o ∧ Q (.bl o.isSome) H) := by
  intro pins s σ H x y v u Q I rx ry h
  obtain ⟨a, o, rfl, g, q⟩ := h
  cases ry
  exact d_in hu I g rx fun s' I' => ⟨.bl o.isSome, H, I', rfl, q⟩
theorem op_ninD1 (hu : X.A.units + 1 < cLine) : OpR X (compareOp .NotIn) (fun x y H Q => ∃ a o, y = .ref a ∧ DGet H a x o ∧ Q (.bl (!o.isSome)) H) := by
  intro pins s σ H x y v u Q I rx ry h
  obtain ⟨a, o, rfl, g, q⟩ := h
  cases ry
  exact d_notIn hu I g rx fun s' I' => ⟨.bl (!o.isSome), H, I', rfl, q⟩
theorem op_inA (hu : X.A.units + 64 < cLine) : OpR X (compareOp .In) (rInA X.K) := OpR.or op_in_sign (OpR.or op_in_str (OpR.or op_in_seq (op_inD1 (by omega))))
theorem op_ninA (hu : X.A.units + 64 < cLine) : OpR X (compareOp .NotIn) (rNinA X.K) := OpR.or op_notIn_sign (OpR.or op_notin_str (OpR.or op_notIn_seq (op_ninD1 (by omega))))
theorem snd_in {K : PySem.W.Frag} : OpSnd (rInA K) inG := by
  intro H ρ S x y z v u Q st rx ry e k
  unfold inG at e
  split at e
  · rename_i b eb
    cases e
    unfold inB at eb
    split at eb
    · split at eb
      · cases eb; cases rx; cases ry
        exact .inl ⟨_, _, rfl, rfl, by simpa using k.now st rfl⟩
      · cases eb; cases rx; cases ry
        exact .inr (.inl ⟨_, _, rfl, rfl, k.now st rfl⟩)
      · cases eb
    · split at eb
      · rename_i ds ed
        split at eb
        · rename_i v' vs' e1 e2
          cases eb
          obtain ⟨a, vs, rfl, hq, rs⟩ := asQ_rep (K := K) st ry ed
          obtain ⟨rfl, f1⟩ := flV_rep rx e1
          obtain ⟨rfl, f2⟩ := flVs_rep rs e2
          exact .inr (.inr (.inl ⟨a, vs, rfl, hq, f1, f2, k.now st rfl⟩))
        · cases eb
      · split at eb
        · rename_i ks ds' k' e1 e2
          cases eb
          obtain ⟨a, vs, rfl, h1, l, r1⟩ := asDct_rep st ry e1
          have ek := keyD_rep rx e2
          subst ek
          refine .inr (.inr (.inr ⟨a, _, rfl, .inl ⟨_, _, h1, rfl, rfl⟩, ?_⟩))
          rw [valV_zip_isSome (by rw [l, r1.len])]
          exact k.now st rfl
        · cases eb
  · cases e
theorem snd_nin {K : PySem.W.Frag} : OpSnd (rNinA K) ninG := by
  intro H ρ S x y z v u Q st rx ry e k
  unfold ninG at e
  split at e
  · rename_i b eb
    cases e
    unfold inB at eb
    split at eb
    · split at eb
      · cases eb; cases rx; cases ry
        exact .inl ⟨_, _, rfl, rfl, by simpa using k.now st rfl⟩
      · cases eb; cases rx; cases ry
        exact .inr (.inl ⟨_, _, rfl, rfl, k.now st rfl⟩)
      · cases eb
    · split at eb
      · rename_i ds ed
        split at eb
        · rename_i v' vs' e1 e2
          cases eb
          obtain ⟨a, vs, rfl, hq, rs⟩ := asQ_rep (K := K) st ry ed
          obtain ⟨rfl, f1⟩ := flV_rep rx e1
          obtain ⟨rfl, f2⟩ := flVs_rep rs e2
          exact .inr (.inr (.inl ⟨a, vs, rfl, hq, f1, f2, k.now st rfl⟩))
        · cases eb
      · split at eb
        · rename_i ks ds' k' e1 e2
          cases eb
          obtain ⟨a, vs, rfl, h1, l, r1⟩ := asDct_rep st ry e1
          have ek := keyD_rep rx e2
          subst ek
          refine .inr (.inr (.inr ⟨a, _, rfl, .inl ⟨_, _, h1, rfl, rfl⟩, ?_⟩))
          rw [valV_zip_isSome (by rw [l, r1.len])]
          exact k.now st rfl
        · cases eb
  · cases e
end
section
variable {X : Cx} {W : WX} {a b c e : Expr} {es rest : List Expr} {ma mb mc me : ME} {na nb : MB} {ms : MA} {pos : Pos}
def truthB (S : Store) (x : D) : Option Bool := match x with
  | .non => some false
  | .bl b => some b
  | .int i => some (i != 0)
  | .str l => if l.length ≤ 1000000 then some (l.length != 0) else none
  | .lst ds => some (!ds.isEmpty)
  | .tup ds => some (!ds.isEmpty)
  | .loc n => match S[n]? with
    | some (.lst ds) => some (!ds.isEmpty)
    | some (.dct ks _) => some (!ks.isEmpty)
    | _ => none
  | _ => none
theorem Reps.emp {H : Hp} {ρ : List Addr} {ds : List D} {vs : List V} (r : Reps H ρ ds vs) : ds.isEmpty = vs.isEmpty := by
  cases ds with
  | nil => cases r; rfl
  | cons d ds => obtain ⟨v, us, rfl, _⟩ := r; rfl
theorem zip_emp {α β : Type} : ∀ {ks : List α} {vs : List β}, ks.length = vs.length → (ks.zip vs).isEmpty = ks.isEmpty
  | [], _, _ => rfl
  | _ :: _, [], h => by cases h
  | _ :: _, _ :: _, _ => rfl
theorem truth_rep {K : PySem.W.Frag} {H : Hp} {ρ : List Addr} {S : Store} {x : D} {v : V} {c : Bool} (st : StS H S ρ) (r : Rep H ρ x v) (h : truthB S x = some c) : TruV K v H c := by
  cases x with
  | non => cases h; cases r; rfl
  | bl _ => cases h; cases r; rfl
  | int _ => cases h; cases r; rfl
  | str l =>
    cases r
    simp only [truthB] at h
    split at h
    · rename_i hl
      cases h
      refine ⟨by rw [str_len]; exact sz6 hl, ?_⟩
      rw [str_len]
      cases hz : l.length with
      | zero => rfl
      | succ n => simp; omega
    · cases h
  | tup ds =>
    cases h
    obtain ⟨a, vs, rfl, h1, _, r1⟩ := r
    exact .inr (.inl ⟨vs, .inl h1.rd, by rw [r1.emp]⟩)
  | lst ds =>
    cases h
    obtain ⟨a, vs, rfl, h1, _, r1⟩ := r
    exact .inl ⟨vs, .inl (.inl h1), by rw [r1.emp]⟩
  | loc n =>
    obtain ⟨a, ha, rfl⟩ := r
    simp only [truthB] at h
    split at h
    · rename_i ds e
      cases h
      obtain ⟨vs, h1, r1⟩ := st.cells n a _ ha e
      exact .inl ⟨vs, .inl (.inl h1), by rw [r1.emp]⟩
    · rename_i ks ds e
      cases h
      obtain ⟨vs, h1, l, r1⟩ := st.cells n a _ ha e
      exact .inr (.inr ⟨_, h1, by rw [zip_emp (by rw [l, r1.len])]⟩)
    · cases h
  | _ => cases h
def trM (ma : ME) : MB := fun δ S => (ma δ S).bind fun x S1 => RO (truthB S1 x) S1
theorem pd_truth (ha : PE X a (tE W ma)) (he : ∀ whole, isTrue a X.env whole = (do let v ← whole; standAt a.pos; holding [v] (truthy v)) := by intro _; rfl) : PT X a (tT W (trM ma)) := by
  refine PT.weak (pt_truth ha he) fun σ H Q h => ?_
  obtain ⟨δ, S, ρ, I, h⟩ := h
  refine bindG I h fun x v S1 H1 ρ1 n1 I1 r1 h1 => ?_
  obtain ⟨c, ec, k⟩ := h1.ro
  exact ⟨c, truth_rep I1.st r1 ec, k c H1 ρ1 (Nx.refl _ _) I1.st rfl⟩
def andB (na nb : MB) : MB := fun δ S => (na δ S).bind fun c S1 => if c = true then nb δ S1 else .ok false S1
def orB (na nb : MB) : MB := fun δ S => (na δ S).bind fun c S1 => if c = true then .ok true S1 else nb δ S1
def notB (na : MB) : MB := fun δ S => (na δ S).bind fun c S1 => .ok (!c) S1
theorem tT_and {na nb : MB} (σ : St) (H : Hp) (Q : Bool → Hp → Prop) (h : tT W (andB na nb) σ H Q) : tAnd (tT W na) (tT W nb) σ H Q := by
  obtain ⟨δ, S, ρ, I, h⟩ := h
  refine bindG I h fun c c' S1 H1 ρ1 n1 I1 r1 h1 => ?_
  cases r1
  show if c = true then _ else _
  cases c with
  | true => rw [if_pos rfl] at h1 ⊢; exact ⟨δ, S1, ρ1, I1, h1⟩
  | false => rw [if_neg Bool.false_ne_true] at h1 ⊢; exact RunG.ok h1 I1.st rfl
theorem tT_or {na nb : MB} (σ : St) (H : Hp) (Q : Bool → Hp → Prop) (h : tT W (orB na nb) σ H Q) : tOr (tT W na) (tT W nb) σ H Q := by
  obtain ⟨δ, S, ρ, I, h⟩ := h
  refine bindG I h fun c c' S1 H1 ρ1 n1 I1 r1 h1 => ?_
  cases r1
  show if c = true then _ else _
  cases c with
  | true => rw [if_pos rfl] at h1 ⊢; exact RunG.ok h1 I1.st rfl
  | false => rw [if_neg Bool.false_ne_true] at h1 ⊢; exact ⟨δ, S1, ρ1, I1, h1⟩
theorem pw_dand (ha : PT X a (tT W na)) (hb : PW X (.BoolOp .And (b :: rest) pos) (tT W nb)) : PW X (.BoolOp .And (a :: b :: rest) pos) (tT W (andB na nb)) := PW.weak (pw_and ha hb) tT_and
theorem pw_dand1 (ha : PT X a (tT W na)) : PW X (.BoolOp .And [a] pos) (tT W na) := pw_and1 ha
theorem pw_dor (ha : PT X a (tT W na)) (hb : PW X (.BoolOp .Or (b :: rest) pos) (tT W nb)) : PW X (.BoolOp .Or (a :: b :: rest) pos) (tT W (orB na nb)) := PW.weak (pw_or ha hb) tT_or
theorem pw_dor1 (ha : PT X a (tT W na)) : PW X (.BoolOp .Or [a] pos) (tT W na) := pw_or1 ha
theorem pd_bopT {op : BoolOp} (h : PW X (.BoolOp op es pos) (tT W na)) : PT X (.BoolOp op es pos) (tT W na) := h.pt
theorem pd_notT (ha : PT X a (tT W na)) : PT X (.UnaryOp .Not a pos) (tT W (notB na)) := by
  refine PT.weak (pt_not ha) fun σ H Q h => ?_
  obtain ⟨δ, S, ρ, I, h⟩ := h
  refine bindG I h fun c c' S1 H1 ρ1 n1 I1 r1 h1 => ?_
  cases r1
  exact RunG.ok h1 I1.st rfl
def andM (ma mb : ME) : ME := fun δ S => (ma δ S).bind fun x S1 => match truthB S1 x with
  | some true => mb δ S1
  | some false => .ok x S1
  | none => .stuck
def orM (ma mb : ME) : ME := fun δ S => (ma δ S).bind fun x S1 => match truthB S1 x with
  | some false => mb δ S1
  | some true => .ok x S1
  | none => .stuck
def notM (ma : ME) : ME := fun δ S => (ma δ S).bind fun x S1 => match truthB S1 x with
  | some c => .ok (.bl (!c)) S1
  | none => .stuck
theorem pd_and (ha : PE X a (tE W ma)) (hb : PE X (.BoolOp .And (b :: rest) pos) (tE W mb)) : PE X (.BoolOp .And (a :: b :: rest) pos) (tE W (andM ma mb)) := by
  refine PE.weak (pe_andT ha hb) fun σ H Q h => ?_
  obtain ⟨δ, S, ρ, I, h⟩ := h
  refine bindG I h fun x v S1 H1 ρ1 n1 I1 r1 h1 => ?_
  split at h1
  · rename_i e
    refine ⟨true, truth_rep I1.st r1 e, ?_⟩
    rw [if_pos rfl]
    exact ⟨δ, S1, ρ1, I1, h1⟩
  · rename_i e
    refine ⟨false, truth_rep I1.st r1 e, ?_⟩
    rw [if_neg Bool.false_ne_true]
    exact RunG.ok h1 I1.st r1
  · exact False.elim h1
theorem pd_or (ha : PE X a (tE W ma)) (hb : PE X (.BoolOp .Or (b :: rest) pos) (tE W mb)) : PE X (.BoolOp .Or (a :: b :: rest) pos) (tE W (orM ma mb)) := by
  refine PE.weak (pe_orT ha hb) fun σ H Q h => ?_
  obtain ⟨δ, S, ρ, I, h⟩ := h
  refine bindG I h fun x v S1 H1 ρ1 n1 I1 r1 h1 => ?_
  split at h1
  · rename_i e
    refine ⟨false, truth_rep I1.st r1 e, ?_⟩
    rw [if_neg Bool.false_ne_true]
    exact ⟨δ, S1, ρ1, I1, h1⟩
  · rename_i e
    refine ⟨true, truth_rep I1.st r1 e, ?_⟩
    rw [if_pos rfl]
    exact RunG.ok h1 I1.st r1
  · exact False.elim h1
theorem pd_one {op : BoolOp} (h : PE X a (tE W ma)) : PE X (.BoolOp op [a] pos) (tE W ma) := pe_one h
def ifM (nc : MB) (ma mb : ME) : ME := fun δ S => (nc δ S).bind fun c S1 => if c = true then ma δ S1 else mb δ S1
theorem pd_ifExp {nc : MB} (hc : PT X c (tT W nc)) (ha : PE X a (tE W ma)) (hb : PE X b (tE W mb)) : PE X (.IfExp c a b pos) (tE W (ifM nc ma mb)) := by
  refine PE.weak (pe_ifExp hc ha hb) fun σ H Q h => ?_
  obtain ⟨δ, S, ρ, I, h⟩ := h
  refine bindG I h fun c c' S1 H1 ρ1 n1 I1 r1 h1 => ?_
  cases r1
  show if c = true then _ else _
  cases c with
  | true => rw [if_pos rfl] at h1 ⊢; exact ⟨δ, S1, ρ1, I1, h1⟩
  | false => rw [if_neg Bool.false_ne_true] at h1 ⊢; exact ⟨δ, S1, ρ1, I1, h1⟩
def chM (g g' : Store → D → D → Option D) (ma mb mc : ME) : ME := fun δ S => (ma δ S).bind fun x S1 => (mb δ S1).bind fun y S2 => match asB (g S2 x y) with
  | some true => (mc δ S2).bind fun z S3 => RO (g' S3 y z) S3
  | some false => .ok (.bl false) S2
  | none => .stuck
theorem asB_some {o : Option D} {c : Bool} (h : asB o = some c) : o = some (.bl c) := by
  unfold asB at h
  split at h
  · cases h; rfl
  · cases h
theorem tE_chain {r r' : R2} {g g' : Store → D → D → Option D} (s : OpSnd r g) (s' : OpSnd r' g') (σ : St) (H : Hp) (Q : VK) (h : tE W (chM g g' ma mb mc) σ H Q) : tChain r r' (tE W ma) (tE W mb) (tE W mc) σ H Q := by
  obtain ⟨δ, S, ρ, I, h⟩ := h
  refine bindG I h fun x v S1 H1 ρ1 n1 I1 r1 h1 => ?_
  refine bindG I1 h1 fun y u S2 H2 ρ2 n2 I2 r2 h2 => ?_
  split at h2
  · rename_i e
    refine s H2 ρ2 S2 x y (.bl true) v u _ I2.st (Rep.mono n2 _ _ r1) r2 (asB_some e) fun w H3 n3 st3 r3 => ?_
    cases r3
    refine ⟨true, rfl, ?_⟩
    rw [if_pos rfl]
    have h2' := h2
    have I3 := I2.next n3 st3
    refine bindG (W := W) I3 (R2 := Rep) (k := fun z S3 => RO (g' S3 y z) S3) (Q := Q) ?_ fun z t S4 H4 ρ4 n4 I4 r4 h4 => ?_
    · revert h2'
      cases (mc δ S2).bind fun z S3 => RO (g' S3 y z) S3 with
      | ok a S' => exact fun hh b H' ρ' n st r => hh b H' ρ' (n3.trans n) st r
      | exc x S' => exact fun hh b d H' ρ' n st r => hh b d H' ρ' (n3.trans n) st r
      | stuck => exact fun hh => hh
    · obtain ⟨z', e', k⟩ := h4.ro
      exact s' H4 ρ4 S4 y z z' u t Q I4.st (Rep.mono (n3.trans n4) _ _ r2) r4 e' fun w H' n st r => k w H' ρ4 n st r
  · rename_i e
    refine s H2 ρ2 S2 x y (.bl false) v u _ I2.st (Rep.mono n2 _ _ r1) r2 (asB_some e) fun w H3 n3 st3 r3 => ?_
    cases r3
    refine ⟨false, rfl, ?_⟩
    rw [if_neg Bool.false_ne_true]
    exact RunG.okN h2 n3 st3 rfl
  · exact False.elim h2
def bM (ma : ME) : MB := fun δ S => (ma δ S).bind fun x S1 => RO (asB (some x)) S1
theorem pd_chainT {op op' : CmpOp} {r r' : R2} {g g' : Store → D → D → Option D} (ho : OpR X (compareOp op) r) (ho' : OpR X (compareOp op') r') (s : OpSnd r g) (s' : OpSnd r' g') (ha : PE X a (tE W ma)) (hb : PE X b (tE W mb)) (hc : PE X c (tE W mc))
    (hm : lastMarks [op, op'] [b, c] = false := by with_unfolding_all rfl) : PT X (.Compare a [op, op'] [b, c] pos) (tT W (bM (chM g g' ma mb mc))) := by
  refine PT.weak (pt_chain ho ho' ha hb hc hm) fun σ H Q h => ?_
  refine tE_chain (W := W) s s' σ H _ ?_
  obtain ⟨δ, S, ρ, I, h⟩ := h
  refine bindG I h fun x v S1 H1 ρ1 n1 I1 r1 h1 => ?_
  obtain ⟨c, ec, k⟩ := h1.ro
  have := asB_some ec
  cases this
  cases r1
  exact ⟨c, rfl, k c H1 ρ1 (Nx.refl _ _) I1.st rfl⟩
def lookK {α : Type} : List Key → List α → Key → Option α
  | k :: ks, d :: ds, q => if k = q then some d else lookK ks ds q
  | _, _, _ => none
theorem lookK_rep {H : Hp} {ρ : List Addr} : ∀ {ks : List Key} {ds : List D} {vs : List V} {q : Key} {d : D}, Reps H ρ ds vs → lookK ks ds q = some d → ∃ v, valV (ks.zip vs) q = some v ∧ Rep H ρ d v
  | [], _, _, _, _, _, h => by cases h
  | _ :: _, [], _, _, _, _, h => by cases h
  | k :: ks, d' :: ds, vs, q, d, r, h => by
    obtain ⟨v, us, rfl, h1, h2⟩ := r
    rw [List.zip_cons_cons]
    unfold lookK at h
    split at h
    · rename_i e
      cases h
      exact ⟨v, by rw [valV_pos (show ((k, v) : Key × V).1 = q from e)], h1⟩
    · rename_i e
      obtain ⟨w, e1, r1⟩ := lookK_rep h2 h
      refine ⟨w, ?_, r1⟩
      rw [← e1]
      simp [valV, List.find?_cons, e]
def ixG (S : Store) (x y : D) : Option D := match x, y with
  | .str l, .int i => if l.length ≤ 1000000 then (match atI l i with
      | some c => some (.str [c])
      | none => none) else none
  | x, y => match asDct S x, keyD y with
    | some (ks, ds), some k => lookK ks ds k
    | _, _ => match asQ S x, y with
      | some ds, .int i => atI ds i
      | _, _ => none
def rIxA (K : PySem.W.Frag) : R2 := fun x y H Q => rIxS x y H Q ∨ ((∃ a v, x = .ref a ∧ DGet H a y (some v) ∧ Q v H) ∨ (rIxL K x y H Q ∨ rIxT K x y H Q))
theorem ix_dict (hu : X.A.units + 1 < cLine) : IxR X (fun x y H Q => ∃ a v, x = .ref a ∧ DGet H a y (some v) ∧ Q v H) := by
  intro value slice pins s σ H x y v u Q I rx ry h hs
  obtain ⟨a, w, rfl, g, q⟩ := h
  cases rx
  exact tail_any (dict_typeIs I g) PySem.F.slot_dict_getitem.lookup (d_getItem hu I g ry fun w' s' I' rw' => ⟨w, H, I', rw', q⟩) hs
theorem ix_A (hu : X.A.units + 64 < cLine) : IxR X (rIxA X.K) := IxR.or ix_str (IxR.or (ix_dict (by omega)) (IxR.or ix_list ix_tup))
theorem atI_reps {H : Hp} {ρ : List Addr} {ds : List D} {vs : List V} {i : Int} {d : D} (r : Reps H ρ ds vs) (h : atI ds i = some d) : ∃ v, atI vs i = some v ∧ Rep H ρ d v := by
  unfold atI at h ⊢
  rw [r.len] at h
  cases e : ixN vs.length i with
  | none => rw [e] at h; cases h
  | some j =>
    rw [e] at h
    exact Reps.getD r h
theorem snd_ix {K : PySem.W.Frag} : OpSnd (rIxA K) ixG := by
  intro H ρ S x y z v u Q st rx ry e k
  unfold ixG at e
  split at e
  · rename_i l i
    split at e
    · rename_i hl
      split at e
      · rename_i c ec
        cases e; cases rx; cases ry
        exact .inl ⟨_, _, c, rfl, rfl, by rw [str_len]; exact sz6 hl, by simpa using ec, k.now st rfl⟩
      · cases e
    · cases e
  · split at e
    · rename_i ks ds q e1 e2
      obtain ⟨a, vs, rfl, h1, l, r1⟩ := asDct_rep st rx e1
      have ek := keyD_rep ry e2
      subst ek
      obtain ⟨w, e3, r3⟩ := lookK_rep r1 e
      exact .inr (.inl ⟨a, w, rfl, .inl ⟨_, _, h1, rfl, e3.symm⟩, k.now st r3⟩)
    · split at e
      · rename_i ds i ed o1 o2
        obtain ⟨a, vs, rfl, hq, rs⟩ := asQ_rep (K := K) st rx ed
        cases ry
        obtain ⟨w, e1, r1⟩ := atI_reps rs e
        rcases hq with hq | hq
        · exact .inr (.inr (.inl ⟨a, vs, i, w, rfl, rfl, hq, e1, k.now st r1⟩))
        · exact .inr (.inr (.inr ⟨a, vs, i, w, rfl, rfl, hq, e1, k.now st r1⟩))
      · cases e
theorem pd_ix (hu : X.A.units + 64 < cLine) (ha : PE X a (tE W ma)) (hb : PE X b (tE W mb)) (hs : PlainIx b := by exact fun _ _ => rfl) : PE X (.Subscript a b pos) (tE W (op2M ixG ma mb)) := PE.weak (pe_ix (ix_A hu) ha hb hs) snd_ix.tE
abbrev MO := DEnv → Store → Res (Option Int)
abbrev tO (W : WX) (m : MO) : TO := tG W (fun _ _ a b => a = b) m
theorem PO.weak {X : Cx} {e : Option Expr} {t t' : TO} (h : PO X e t) (hw : ∀ σ H Q, t' σ H Q → t σ H Q) : PO X e t' := ⟨fun pins s σ H Q I q => h.run pins s σ H Q I (hw _ _ _ q)⟩
def noO : MO := fun _ S => .ok none S
def asI : D → Option Int
  | .int i => some i
  | _ => none
def soO (ma : ME) : MO := fun δ S => (ma δ S).bind fun x S1 => match asI x with
  | some i => .ok (some i) S1
  | none => .stuck
theorem po_dno : PO X none (tO W noO) := PO.weak po_none fun σ H Q h => by
  obtain ⟨δ, S, ρ, I, h⟩ := h
  exact RunG.ok h I.st rfl
theorem po_dso (ha : PE X a (tE W ma)) : PO X (some a) (tO W (soO ma)) := PO.weak (po_some ha) fun σ H Q h => by
  obtain ⟨δ, S, ρ, I, h⟩ := h
  refine bindG I h fun x v S1 H1 ρ1 n1 I1 r1 h1 => ?_
  split at h1
  · rename_i i e
    cases x with
    | int j => cases e; cases r1; exact ⟨i, rfl, RunG.ok h1 I1.st rfl⟩
    | _ => cases e
  · exact False.elim h1
def cutL {α : Type} (xs : List α) (lo hi : Option Int) : List α := (xs.drop (HT.sIx xs.length 0 lo)).take (HT.sIx xs.length xs.length hi - HT.sIx xs.length 0 lo)
def slG (S : Store) (x : D) (lo hi : Option Int) : Option D := match x with
  | .str l => if l.length ≤ 1000000 then some (.str (cutL l lo hi)) else none
  | .tup ds => some (.tup (cutL ds lo hi))
  | x => match asL S x with
    | some ds => some (.lst (cutL ds lo hi))
    | none => none
def slM (ma : ME) (ml mh : MO) : ME := fun δ S => (ma δ S).bind fun x S1 => (ml δ S1).bind fun lo S2 => (mh δ S2).bind fun hi S3 => RO (slG S3 x lo hi) S3
def rSlD (K : PySem.W.Frag) : V → Option Int → Option Int → Hp → VK → Prop := fun x lo hi H Q => rSlS x lo hi H Q ∨ (rSlL K x lo hi H Q ∨ L2.rSlA K x lo hi H Q)
theorem sl_D : SlR X (rSlD X.K) := SlR.or sl_str (SlR.or sl_list sl_tupA)
theorem cutL_reps {H : Hp} {ρ : List Addr} {ds : List D} {vs : List V} (r : Reps H ρ ds vs) (lo hi : Option Int) : Reps H ρ (cutL ds lo hi) (cutV vs lo hi) := by
  unfold cutL cutV
  rw [r.len]
  exact (r.drop _).take _
theorem cut_str (l : List Nat) (lo hi : Option Int) : cutS ⟨l.toArray⟩ lo hi = ⟨(cutL l lo hi).toArray⟩ := by
  unfold cutS cutL
  rw [str_len]
theorem cutV_whole {vs : List V} {lo hi : Option Int} (h : HT.sIx vs.length 0 lo = 0 ∧ HT.sIx vs.length vs.length hi = vs.length) : cutV vs lo hi = vs := by
  unfold cutV
  rw [h.1, h.2]
  simp
theorem pd_sl {p2 : Pos} {lo hi : Option Expr} {ml mh : MO} (ha : PE X a (tE W ma)) (hl : PO X lo (tO W ml)) (hh : PO X hi (tO W mh)) : PE X (.Subscript a (.Slice lo hi none p2) pos) (tE W (slM ma ml mh)) := by
  refine PE.weak (pe_slice sl_D ha hl hh) fun σ H Q h => ?_
  obtain ⟨δ, S, ρ, I, h⟩ := h
  refine bindG I h fun x v S1 H1 ρ1 n1 I1 r1 h1 => ?_
  refine bindG I1 h1 fun lo' lo S2 H2 ρ2 n2 I2 e1 h2 => ?_
  refine bindG I2 h2 fun hi' hi S3 H3 ρ3 n3 I3 e2 h3 => ?_
  subst e1 e2
  obtain ⟨z, e, k⟩ := h3.ro
  have rx := Rep.mono (n2.trans n3) _ _ r1
  have kd : KD H3 ρ3 S3 z Q := fun w H' n st r => k w H' ρ3 n st r
  unfold slG at e
  split at e
  · rename_i l
    split at e
    · rename_i hl
      cases e
      cases rx
      refine .inl ⟨_, rfl, by rw [str_len]; exact sz6 hl, ?_⟩
      rw [cut_str]
      exact kd.now I3.st rfl
    · cases e
  · rename_i ds
    cases e
    obtain ⟨a', vs, rfl, h1', na, rs⟩ := rx
    refine .inr (.inr ⟨a', vs, rfl, .inl h1'.rd, fun hw => ?_, fun hw p hp => ?_⟩)
    · have := cutL_reps rs lo' hi'
      rw [cutV_whole hw] at this
      exact kd.now I3.st ⟨a', vs, rfl, h1', na, this⟩
    · exact KD.tup kd I3.st (cutL_reps rs lo' hi') hp
  · split at e
    · rename_i ds ed
      cases e
      obtain ⟨a', vs, rfl, h1', rs⟩ := asL_rep I3.st rx ed
      exact .inr (.inl ⟨a', vs, rfl, .inl (.inl h1'), fun p hp => KD.lst kd I3.st (cutL_reps rs lo' hi') hp⟩)
    · cases e
end
section
variable {X : Cx} {W : WX} {a b c e o : Expr} {es rest : List Expr} {ma mb mc me mo : ME} {ms : MA} {p pos apos cpos : Pos} {x : Str}
theorem CaSnd.tE {r : List V → Hp → VK → Prop} {g : Store → List D → Option D} (s : CaSnd r g) (σ : St) (H : Hp) (Q : VK) (h : tE W (callG g ms) σ H Q) : tCB r (tA W ms) σ H Q := by
  obtain ⟨δ, S, ρ, I, h⟩ := h
  refine bindG I h fun xs vs S1 H1 ρ1 n1 I1 r1 h1 => ?_
  obtain ⟨z, e, k⟩ := h1.ro
  exact s H1 ρ1 S1 xs z vs Q I1.st r1 e fun w H' n st r => k w H' ρ1 n st r
theorem pd_callB {id : String} {r : List V → Hp → VK → Prop} {g : Store → List D → Option D} (hc : CallR X (.builtin id) r) (s : CaSnd r g) (hm : X.mg x = none) (ha : PA X (e :: es) (tA W ms)) (hg : Gl X x := by rfl) (hv : bootBuiltins x = some (.builtin id) := by decide +kernel)
    (hn : x ≠ "__name__" := by decide) (hdb : (x == ("__debug__" : Str)) = false := by decide)
    (he : starEach (e :: es) X.env = (false, eval e X.env) :: starEach es X.env := by rfl) (hpl : (backTo pos (starEach es X.env)).any (·.1) = false := by rfl) : PE X (.Call (.Name x p) (e :: es) [] pos) (tE W (callG g ms)) :=
  PE.weak (pe_callB hc hg hm hv ha hn hdb he hpl) s.tE
theorem pd_callTy {T : String} {r : List V → Hp → VK → Prop} {g : Store → List D → Option D} (hc : CallR X (.type T) r) (s : CaSnd r g) (hm : X.mg x = none) (ha : PA X (e :: es) (tA W ms)) (hg : Gl X x := by rfl) (hv : bootBuiltins x = some (.type T) := by decide +kernel)
    (hn : x ≠ "__name__" := by decide) (hdb : (x == ("__debug__" : Str)) = false := by decide)
    (he : starEach (e :: es) X.env = (false, eval e X.env) :: starEach es X.env := by rfl) (hpl : (backTo pos (starEach es X.env)).any (·.1) = false := by rfl) : PE X (.Call (.Name x p) (e :: es) [] pos) (tE W (callG g ms)) :=
  PE.weak (pe_callTy hc hg hm hv ha hn hdb he hpl) s.tE
def lenN (S : Store) (x : D) : Option Nat := match x with
  | .str l => if l.length ≤ 1000000 then some l.length else none
  | .tup ds => some ds.length
  | x => match asL S x with
    | some ds => some ds.length
    | none => match asDct S x with
      | some (ks, _) => some ks.length
      | none => none
def lenG (S : Store) (xs : List D) : Option D := match xs with
  | [x] => match lenN S x with
    | some n => some (.int n)
    | none => none
  | _ => none
def rLenA (K : PySem.W.Frag) : List V → Hp → VK → Prop := fun xs H Q => (∃ x n, xs = [x] ∧ LenV K x H n ∧ Q (.int n) H) ∨ (∃ a kvs, xs = [.ref a] ∧ Rd H a (.dK kvs) ∧ Q (.int (kvs.length : Nat)) H)
theorem call_lenA : CallR X (.builtin "len") (rLenA X.K) := CallR.or call_len (fun pins s σ H xs us Q I r h => by
  obtain ⟨a, kvs, e1, e2, q⟩ := h
  subst e1
  obtain ⟨u, rfl, ru⟩ := vals1 r
  cases ru
  exact d_len I e2 fun t s' I' => ⟨.int kvs.length, H, I', ⟨t, rfl⟩, q⟩)
theorem zip_len {ks : List Key} {vs : List V} (h : ks.length = vs.length) : (ks.zip vs).length = ks.length := by
  rw [List.length_zip, h, Nat.min_self]
theorem snd_len {K : PySem.W.Frag} : CaSnd (rLenA K) lenG := by
  intro H ρ S xs z vs Q st rs e k
  unfold lenG at e
  split at e
  · rename_i x
    obtain ⟨v, us, rfl, rx, ru⟩ := rs
    cases ru
    split at e
    · rename_i n en
      cases e
      unfold lenN at en
      split at en
      · split at en
        · rename_i hl
          cases en; cases rx
          exact .inl ⟨_, _, rfl, ⟨by rw [str_len]; exact sz6 hl, by rw [str_len]⟩, k.now st rfl⟩
        · cases en
      · cases en
        obtain ⟨a, vs, rfl, h1, _, r1⟩ := rx
        exact .inl ⟨_, _, rfl, .inr ⟨vs, .inl h1.rd, r1.len⟩, k.now st rfl⟩
      · split at en
        · rename_i ds ed
          cases en
          obtain ⟨a, vs, rfl, h1, r1⟩ := asL_rep st rx ed
          exact .inl ⟨_, _, rfl, .inl ⟨vs, .inl (.inl h1), r1.len⟩, k.now st rfl⟩
        · split at en
          · rename_i ks ds ed
            cases en
            obtain ⟨a, vs, rfl, h1, l, r1⟩ := asDct_rep st rx ed
            refine .inr ⟨a, _, rfl, h1, ?_⟩
            rw [zip_len (by rw [l, r1.len])]
            exact k.now st rfl
          · cases en
    · cases e
  · cases e
def intG (_ : Store) (xs : List D) : Option D := match xs with
  | [.int i] => some (.int i)
  | [.bl b] => some (.int (if b then 1 else 0))
  | [.str l] => if l.length ≤ 640 then (match PySem.intText? ⟨l.toArray⟩ with
      | some n => some (.int n)
      | none => none) else none
  | _ => none
def strI (i : Int) : List Nat := (Str.ofString (toString i)).cps.toList
def strG (_ : Store) (xs : List D) : Option D := match xs with
  | [.int i] => if i.natAbs.log2 < 1920 then some (.str (strI i)) else none
  | _ => none
def listG (S : Store) (xs : List D) : Option D := match xs with
  | [x] => match asQ S x with
    | some ds => some (.lst ds)
    | none => none
  | _ => none
def tupleG (S : Store) (xs : List D) : Option D := match xs with
  | [.tup ds] => some (.tup ds)
  | [x] => match asL S x with
    | some ds => some (.tup ds)
    | none => none
  | _ => none
theorem snd_list {K : PySem.W.Frag} : CaSnd (fun xs H Q => ∃ p ys, xs = [.ref p] ∧ (SqL K H p ys ∨ SqT K H p ys) ∧ ∀ l, H l = none → Q (.ref l) (upd H l (.lst ys))) listG := by
  intro H ρ S xs z vs Q st rs e k
  unfold listG at e
  split at e
  · obtain ⟨v, us, rfl, rx, ru⟩ := rs
    split at e
    · rename_i ds ed
      cases ru; cases e
      obtain ⟨a, vs, rfl, hq, r1⟩ := asQ_rep (K := K) st rx ed
      exact ⟨a, vs, rfl, hq, fun l hl => KD.lst k st r1 hl⟩
    · cases e
  · cases e
def asBs : List D → Option (List Bool)
  | [] => some []
  | .bl b :: ds => match asBs ds with
    | some bs => some (b :: bs)
    | none => none
  | _ => none
def asIs : List D → Option (List Int)
  | [] => some []
  | .int b :: ds => match asIs ds with
    | some bs => some (b :: bs)
    | none => none
  | _ => none
def asSs : List D → Option (List (List Nat))
  | [] => some []
  | .str b :: ds => match asSs ds with
    | some bs => some (b :: bs)
    | none => none
  | _ => none
@[simp] theorem asBs_map (bs : List Bool) : asBs (bs.map D.bl) = some bs := by
  induction bs with
  | nil => rfl
  | cons b bs ih => simp [asBs, ih]
@[simp] theorem asIs_map (bs : List Int) : asIs (bs.map D.int) = some bs := by
  induction bs with
  | nil => rfl
  | cons b bs ih => simp [asIs, ih]
@[simp] theorem asSs_map (bs : List (List Nat)) : asSs (bs.map D.str) = some bs := by
  induction bs with
  | nil => rfl
  | cons b bs ih => simp [asSs, ih]
theorem asBs_rep {H : Hp} {ρ : List Addr} : ∀ {ds : List D} {vs : List V} {bs : List Bool}, Reps H ρ ds vs → asBs ds = some bs → vs = bs.map V.bl
  | [], vs, bs, r, h => by cases r; cases h; rfl
  | .bl b :: ds, vs, bs, r, h => by
    obtain ⟨v, us, rfl, rx, ru⟩ := r
    simp only [asBs] at h
    split at h
    · rename_i bs' e
      cases h; cases rx
      rw [asBs_rep ru e]; rfl
    · cases h
  | .non :: _, _, _, _, h => by cases h
  | .int _ :: _, _, _, _, h => by cases h
  | .str _ :: _, _, _, _, h => by cases h
  | .tup _ :: _, _, _, _, h => by cases h
  | .lst _ :: _, _, _, _, h => by cases h
  | .dct _ _ :: _, _, _, _, h => by cases h
  | .obj _ _ _ :: _, _, _, _, h => by cases h
  | .exn _ _ _ _ :: _, _, _, _, h => by cases h
  | .loc _ :: _, _, _, _, h => by cases h
  | .raw _ :: _, _, _, _, h => by cases h
abbrev sOf (l : List Nat) : Str := ⟨l.toArray⟩
def allG (S : Store) (xs : List D) : Option D := match xs with
  | [x] => match asL S x with
    | some ds => match asBs ds with
      | some bs => some (.bl (bs.all id))
      | none => none
    | none => none
  | _ => none
def anyG (S : Store) (xs : List D) : Option D := match xs with
  | [x] => match asL S x with
    | some ds => match asBs ds with
      | some bs => some (.bl (bs.any id))
      | none => none
    | none => none
  | _ => none
def sumG (S : Store) (xs : List D) : Option D := match xs with
  | [x] => match asL S x with
    | some ds => match asIs ds with
      | some bs => some (.int bs.sum)
      | none => none
    | none => none
  | _ => none
theorem snd_all {K : PySem.W.Frag} : CaSnd (rAll K) allG := by
  intro H ρ S xs z vs Q st rs e k
  unfold allG at e
  split at e
  · obtain ⟨v, us, rfl, rx, ru⟩ := rs
    split at e
    · rename_i ds ed
      split at e
      · rename_i bs eb
        cases ru; cases e
        obtain ⟨a, vs, rfl, h1, r1⟩ := asL_rep st rx ed
        have := asBs_rep r1 eb
        subst this
        exact ⟨a, bs, rfl, .inl (.inl h1), k.now st rfl⟩
      · cases e
    · cases e
  · cases e
theorem snd_any {K : PySem.W.Frag} : CaSnd (rAny K) anyG := by
  intro H ρ S xs z vs Q st rs e k
  unfold anyG at e
  split at e
  · obtain ⟨v, us, rfl, rx, ru⟩ := rs
    split at e
    · rename_i ds ed
      split at e
      · rename_i bs eb
        cases ru; cases e
        obtain ⟨a, vs, rfl, h1, r1⟩ := asL_rep st rx ed
        have := asBs_rep r1 eb
        subst this
        exact ⟨a, bs, rfl, .inl (.inl h1), k.now st rfl⟩
      · cases e
    · cases e
  · cases e
def tyN (S : Store) : D → Option String
  | .non => some "NoneType"
  | .bl _ => some "bool"
  | .int _ => some "int"
  | .str _ => some "str"
  | .tup _ => some "tuple"
  | .lst _ => some "list"
  | .loc n => match S[n]? with
    | some (.lst _) => some "list"
    | some (.dct _ _) => some "dict"
    | _ => none
  | _ => none
theorem tyN_rep {K : PySem.W.Frag} {H : Hp} {ρ : List Addr} {S : Store} {x : D} {v : V} {t : String} (st : StS H S ρ) (r : Rep H ρ x v) (h : tyN S x = some t) : TyX K H v (.type t) := by
  cases x with
  | non => cases h; cases r; exact .base .non
  | bl _ => cases h; cases r; exact .base (.bl _)
  | int _ => cases h; cases r; exact .base (.int _)
  | str _ => cases h; cases r; exact .base (.str _)
  | tup _ =>
    cases h
    obtain ⟨a, vs, rfl, h1, _⟩ := r
    rcases h1 with h1 | ⟨_, o, h1⟩
    · exact .base (.tup h1)
    · exact .fTuple h1
  | lst _ => cases h; obtain ⟨a, vs, rfl, h1, _⟩ := r; exact .base (.lst h1)
  | loc n =>
    obtain ⟨a, ha, rfl⟩ := r
    simp only [tyN] at h
    split at h
    · rename_i ds e
      cases h
      obtain ⟨vs, h1, _⟩ := st.cells n a _ ha e
      exact .base (.lst h1)
    · rename_i ks ds e
      cases h
      obtain ⟨vs, h1, _⟩ := st.cells n a _ ha e
      exact .base (.dK h1)
    · cases h
  | _ => cases h
def f_str (t : String) : Option Bool := if t = "str" then some true else if t = "NoneType" ∨ t = "bool" ∨ t = "int" ∨ t = "tuple" ∨ t = "list" ∨ t = "dict" then some false else none
def f_int (t : String) : Option Bool := if t = "int" ∨ t = "bool" then some true else if t = "NoneType" ∨ t = "str" ∨ t = "tuple" ∨ t = "list" ∨ t = "dict" then some false else none
def f_bool (t : String) : Option Bool := if t = "bool" then some true else if t = "NoneType" ∨ t = "int" ∨ t = "str" ∨ t = "tuple" ∨ t = "list" ∨ t = "dict" then some false else none
def f_tuple (t : String) : Option Bool := if t = "tuple" then some true else if t = "NoneType" ∨ t = "bool" ∨ t = "int" ∨ t = "str" ∨ t = "list" ∨ t = "dict" then some false else none
def f_list (t : String) : Option Bool := if t = "list" then some true else if t = "NoneType" ∨ t = "bool" ∨ t = "int" ∨ t = "str" ∨ t = "tuple" ∨ t = "dict" then some false else none
end
section
variable {X : Cx} {W : WX} {a b c e o : Expr} {es rest : List Expr} {ma mb mc me mo : ME} {ms : MA} {p pos apos cpos : Pos} {x : Str}
def isTy (n t : String) : Option Bool :=
  if n = "str" then f_str t else if n = "int" then f_int t else if n = "bool" then f_bool t else if n = "tuple" then f_tuple t else if n = "list" then f_list t else none
theorem isTy_kit {n t : String} {b : Bool} (h : isTy n t = some b) : kitB t n = some b := by
  unfold isTy at h
  split at h
  · rename_i e; subst e; unfold f_str at h
    split at h
    · rename_i e; subst e; cases h; decide +kernel
    · split at h
      · rename_i e; cases h; rcases e with e | e | e | e | e | e <;> subst e <;> decide +kernel
      · cases h
  · split at h
    · rename_i e; subst e; unfold f_int at h
      split at h
      · rename_i e; cases h; rcases e with e | e <;> subst e <;> decide +kernel
      · split at h
        · rename_i e; cases h; rcases e with e | e | e | e | e <;> subst e <;> decide +kernel
        · cases h
    · split at h
      · rename_i e; subst e; unfold f_bool at h
        split at h
        · rename_i e; subst e; cases h; decide +kernel
        · split at h
          · rename_i e; cases h; rcases e with e | e | e | e | e | e <;> subst e <;> decide +kernel
          · cases h
      · split at h
        · rename_i e; subst e; unfold f_tuple at h
          split at h
          · rename_i e; subst e; cases h; decide +kernel
          · split at h
            · rename_i e; cases h; rcases e with e | e | e | e | e | e <;> subst e <;> decide +kernel
            · cases h
        · split at h
          · rename_i e; subst e; unfold f_list at h
            split at h
            · rename_i e; subst e; cases h; decide +kernel
            · split at h
              · rename_i e; cases h; rcases e with e | e | e | e | e | e <;> subst e <;> decide +kernel
              · cases h
          · cases h
def isiA (S : Store) (xs : List D) : Option D := match xs with
  | [x, .raw (.ty n)] => match tyN S x with
    | some t => match isTy n t with
      | some b => some (.bl b)
      | none => none
    | none => none
  | [x, .tup [.raw (.ty n), .raw (.ty m)]] => match tyN S x with
    | some t => match isTy n t, isTy m t with
      | some b, some c => some (.bl (b || c))
      | _, _ => none
    | none => none
  | _ => none
def rIsiA (K : PySem.W.Frag) : List V → Hp → VK → Prop := fun xs H Q => rIsi K xs H Q ∨ rIsiT K xs H Q
theorem call_isiA : CallR X (.builtin "isinstance") (rIsiA X.K) := CallR.or call_isi call_isiT
theorem snd_isi {K : PySem.W.Frag} : CaSnd (rIsiA K) isiA := by
  intro H ρ S xs z vs Q st rs e k
  unfold isiA at e
  split at e
  · obtain ⟨v, us, rfl, rx, ru⟩ := rs
    obtain ⟨u, ws, rfl, ry, rw'⟩ := ru
    cases rw'
    cases ry
    split at e
    · rename_i t et
      split at e
      · rename_i b eb
        cases e
        exact .inl ⟨v, _, _, _, b, rfl, .ty _, tyN_rep st rx et, kit_ty (isTy_kit eb), k.now st rfl⟩
      · cases e
    · cases e
  · obtain ⟨v, us, rfl, rx, ru⟩ := rs
    obtain ⟨u, ws, rfl, ry, rw'⟩ := ru
    cases rw'
    obtain ⟨tp, cs, rfl, h1, _, rc⟩ := ry
    obtain ⟨c1, cs1, rfl, rc1, rc2⟩ := rc
    obtain ⟨c2, cs2, rfl, rc3, rc4⟩ := rc2
    cases rc4; cases rc1; cases rc3
    split at e
    · rename_i t et
      split at e
      · rename_i b c eb ec
        cases e
        refine .inr ⟨v, tp, _, _, _, b || c, rfl, h1.at (by simp), .cons (.ty _) (.cons (.ty _) .nil), tyN_rep st rx et, ?_, k.now st rfl⟩
        refine kitAny_cons (kit_ty (isTy_kit eb)) (fun hb => kitAny_cons (kit_ty (isTy_kit ec)) (fun hc => ?_) (fun hc => ?_)) (fun hb => ?_)
        · rw [hb, hc]; rfl
        · rw [hb, hc]; rfl
        · rw [hb]; rfl
      · cases e
    · cases e
  · cases e
def isS : D → Bool
  | .str _ => true
  | _ => false
def mtS (g : Store → D → List D → Option D) (mo : ME) (ms : MA) : ME := fun δ S => (mo δ S).bind fun x S1 => if isS x = true then (ms δ S1).bind fun xs S2 => RO (g S2 x xs) S2 else .stuck
theorem isS_rep {K : PySem.W.Frag} {H : Hp} {ρ : List Addr} {d : D} {v : V} (r : Rep H ρ d v) (h : isS d = true) : tyV K "str" v H := by
  cases d with
  | str _ => cases r; rfl
  | _ => cases h
theorem pd_strm0 {name : Str} {id : String} {r : V → List V → Hp → VK → Prop} {g : Store → D → List D → Option D} (slot : Slot "str" name id) (hty : typeOf (.builtin id) = pure (.type "method_descriptor")) (hm : MtR X id r) (s : MtSnd r g) (ho : PE X o (tE W mo))
    (hbase : attributeBase o name X.env (eval o X.env) = eval o X.env := by rfl) (hline : (apos.endLine == cpos.line) = true := by rfl) :
    PE X (.Call (.Attribute o name apos) [] [] cpos) (tE W (mtS g mo nilM)) := by
  refine PE.weak (pe_bm0 PySem.F.plainAttrs_str slot hty hm ho hbase hline) fun σ H Q h => ?_
  obtain ⟨δ, S, ρ, I, h⟩ := h
  refine bindG I h fun x v S1 H1 ρ1 n1 I1 r1 h1 => ?_
  split at h1
  · rename_i hx
    refine ⟨isS_rep r1 hx, ?_⟩
    obtain ⟨z, e, k⟩ := h1.ro
    exact s H1 ρ1 S1 x [] z v [] Q I1.st r1 Reps.nil e fun w H' n st r => k w H' ρ1 n st r
  · exact False.elim h1
def upL (c : Nat) : Nat := if 97 ≤ c ∧ c ≤ 122 then c - 32 else c
def loL (c : Nat) : Nat := if 65 ≤ c ∧ c ≤ 90 then c + 32 else c
def asc (l : List Nat) : Bool := l.all fun c => decide (c < 128)
theorem asc_lt {l : List Nat} (h : asc l = true) : ∀ c ∈ l, c < 128 := fun c hc => of_decide_eq_true (List.all_eq_true.mp h c hc)
def upperG (_ : Store) (x : D) (xs : List D) : Option D := match x, xs with
  | .str l, [] => if asc l = true ∧ l.length ≤ 1000000 then some (.str (l.map upL)) else none
  | _, _ => none
def lowerG (_ : Store) (x : D) (xs : List D) : Option D := match x, xs with
  | .str l, [] => if asc l = true ∧ l.length ≤ 1000000 then some (.str (l.map loL)) else none
  | _, _ => none
theorem snd_upper : MtSnd (fun x xs H Q => ∃ a, x = .str a ∧ xs = [] ∧ a.length ≤ 5592405 ∧ Q (.str (Txt.upper a)) H) upperG := by
  intro H ρ S x xs z v vs Q st rx rs e k
  unfold upperG at e
  split at e
  · rename_i l
    split at e
    · rename_i h
      cases e; cases rx; cases rs
      refine ⟨_, rfl, rfl, by rw [str_len]; omega, ?_⟩
      have : Txt.upper (⟨l.toArray⟩ : Str) = ⟨(l.map upL).toArray⟩ := by
        rw [PyProof.Rows.upper_ascii (by simpa using asc_lt h.1)]
        simp
        exact fun _ _ => rfl
      rw [this]
      exact k.now st rfl
    · cases e
  · cases e
theorem snd_lower : MtSnd (fun x xs H Q => ∃ a, x = .str a ∧ xs = [] ∧ a.length ≤ 5592405 ∧ Q (.str (Txt.lower a)) H) lowerG := by
  intro H ρ S x xs z v vs Q st rx rs e k
  unfold lowerG at e
  split at e
  · rename_i l
    split at e
    · rename_i h
      cases e; cases rx; cases rs
      refine ⟨_, rfl, rfl, by rw [str_len]; omega, ?_⟩
      have : Txt.lower (⟨l.toArray⟩ : Str) = ⟨(l.map loL).toArray⟩ := by
        rw [PyProof.Rows.lower_ascii (by simpa using asc_lt h.1)]
        simp
        exact fun _ _ => rfl
      rw [this]
      exact k.now st rfl
    · cases e
  · cases e
end
inductive Flw where
  | nx (δ : DEnv) (S : Store) | rt (d : D) (S : Store) | bk (δ : DEnv) (S : Store) | ct (δ : DEnv) (S : Store) | exc (x : Ex) (δ : DEnv) (S : Store) | stuck
abbrev MS := DEnv → Store → Flw
def bindS {α : Type} (r : Res α) (δ : DEnv) (k : α → Store → Flw) : Flw := match r with
  | .ok a S => k a S
  | .exc x S => .exc x δ S
  | .stuck => .stuck
@[simp] theorem bindS_ok {α : Type} (a : α) (S : Store) (δ : DEnv) (k : α → Store → Flw) : bindS (.ok a S) δ k = k a S := rfl
@[simp] theorem bindS_exc {α : Type} (x : Ex) (S : Store) (δ : DEnv) (k : α → Store → Flw) : bindS (.exc x S) δ k = .exc x δ S := rfl
@[simp] theorem bindS_stuck {α : Type} (δ : DEnv) (k : α → Store → Flw) : bindS .stuck δ k = .stuck := rfl
section
variable (W : WX) (G : Ends)
def RunF (H : Hp) (ρ : List Addr) (r : Flw) : Prop := match r with
  | .nx δ' S' => ∀ σ' H' ρ', Nx H ρ H' ρ' → StE σ' H' δ' S' ρ' → G.nx σ' H'
  | .bk δ' S' => ∀ σ' H' ρ', Nx H ρ H' ρ' → StE σ' H' δ' S' ρ' → G.bk σ' H'
  | .ct δ' S' => ∀ σ' H' ρ', Nx H ρ H' ρ' → StE σ' H' δ' S' ρ' → G.ct σ' H'
  | .rt d S' => ∀ v H' ρ', Nx H ρ H' ρ' → StS H' S' ρ' → Rep H' ρ' d v → G.rt v H'
  | .exc x δ' S' => ∀ c dd σ' H' ρ', Nx H ρ H' ρ' → StE σ' H' δ' S' ρ' → RepX H' ρ' x c dd → W c dd σ' H'
  | .stuck => False
end
def tS (W : WX) (m : MS) : TS := fun G σ H => ∃ δ S ρ, StE σ H δ S ρ ∧ RunF W G H ρ (m δ S)
section
variable {X : Cx} {W : WX} {G : Ends} {H H1 : Hp} {ρ ρ1 : List Addr} {σ : St} {δ : DEnv} {S : Store} {α β : Type} {R : Hp → List Addr → α → β → Prop}
theorem RunF.mono {r : Flw} (n : Nx H ρ H1 ρ1) (h : RunF W G H ρ r) : RunF W G H1 ρ1 r := by
  cases r with
  | nx δ S => exact fun σ' H' ρ' n' st => h σ' H' ρ' (n.trans n') st
  | bk δ S => exact fun σ' H' ρ' n' st => h σ' H' ρ' (n.trans n') st
  | ct δ S => exact fun σ' H' ρ' n' st => h σ' H' ρ' (n.trans n') st
  | rt d S => exact fun v H' ρ' n' st r => h v H' ρ' (n.trans n') st r
  | exc x δ S => exact fun c dd σ' H' ρ' n' st r => h c dd σ' H' ρ' (n.trans n') st r
  | stuck => exact h
theorem bindGF {m1 : DEnv → Store → Res α} {k : α → Store → Flw} {P : β → Hp → Prop} (I : StE σ H δ S ρ) (h : RunF W G H ρ (bindS (m1 δ S) δ k))
    (hk : ∀ a b S1 H1 ρ1, Nx H ρ H1 ρ1 → StE σ H1 δ S1 ρ1 → R H1 ρ1 a b → RunF W G H1 ρ1 (k a S1) → P b H1) : tG W R m1 σ H P := by
  refine ⟨δ, S, ρ, I, ?_⟩
  cases e : m1 δ S with
  | ok a S1 =>
    rw [e] at h
    intro b H1 ρ1 n st r
    exact hk a b S1 H1 ρ1 n (I.next n st) r (h.mono n)
  | exc x S1 =>
    rw [e] at h
    exact fun c dd H' ρ' n st r => h c dd σ H' ρ' n (I.next n st) r
  | stuck =>
    rw [e] at h
    exact h
def asgM (i : Nat) (me : ME) : MS := fun δ S => bindS (me δ S) δ fun d S1 => .nx (δ.set i (some d)) S1
def retM (me : ME) : MS := fun δ S => bindS (me δ S) δ fun d S1 => .rt d S1
def retN : MS := fun _ S => .rt .non S
def exprM (me : ME) : MS := fun δ S => bindS (me δ S) δ fun _ S1 => .nx δ S1
def ifSM (nc : MB) (m1 m2 : MS) : MS := fun δ S => bindS (nc δ S) δ fun c S1 => if c = true then m1 δ S1 else m2 δ S1
def seqM (m1 m2 : MS) : MS := fun δ S => match m1 δ S with
  | .nx δ1 S1 => m2 δ1 S1
  | r => r
def nxM : MS := fun δ S => .nx δ S
def bkM : MS := fun δ S => .bk δ S
def ctM : MS := fun δ S => .ct δ S
variable {st : Stmt} {rest sa sb : List Stmt} {e c : Expr} {es : List Expr} {me mb : ME} {nc : MB} {m1 m2 : MS} {pos pos' : Pos}
theorem pss_dnil : PSs X [] (tS W nxM) := PSs.weak pss_nil fun G σ H h => by
  obtain ⟨δ, S, ρ, I, h⟩ := h
  exact h σ H ρ (Nx.refl _ _) I
theorem pss_dcons (h1 : PS X st (tS W m1)) (h2 : PSs X rest (tS W m2)) : PSs X (st :: rest) (tS W (seqM m1 m2)) := PSs.weak (pss_cons h1 h2) fun G σ H h => by
  obtain ⟨δ, S, ρ, I, h⟩ := h
  refine ⟨δ, S, ρ, I, ?_⟩
  unfold seqM at h
  cases e : m1 δ S with
  | nx δ1 S1 =>
    rw [e] at h
    exact fun σ' H' ρ' n st => ⟨δ1, S1, ρ', st, h.mono n⟩
  | bk δ S => rw [e] at h; exact h
  | ct δ S => rw [e] at h; exact h
  | rt d S => rw [e] at h; exact h
  | exc x δ S => rw [e] at h; exact h
  | stuck => rw [e] at h; exact h
theorem pss_done (h1 : PS X st (tS W m1)) : PSs X [st] (tS W m1) := pss_one h1
theorem ps_dset {i : Nat} {x : Str} (hN : X.N.Nodup) (hi : X.N[i]? = some x) (hx : Loc X.env.scope x) (he : PE X e (tE W me)) (hs : swapsWith e (some (.Name x pos')) pos.line X.env = pure false := by rfl)
    (hf : X.fn x = true ∨ X.env.scope.names.lookup x = some .local := by first | exact .inl rfl | exact .inr rfl | assumption) : PS X (.Assign [.Name x pos'] e pos) (tS W (asgM i me)) :=
  PS.weak (ps_set hN hi hx he hs hf) fun G σ H h => by
    obtain ⟨δ, S, ρ, I, h⟩ := h
    refine bindGF I h fun d v S1 H1 ρ1 n1 I1 r1 h1 => ?_
    exact h1 _ H1 ρ1 (Nx.refl _ _) ⟨I1.st, I1.env.set i r1⟩
theorem ps_dret (he : PE X e (tE W me)) : PS X (.Return (some e) pos) (tS W (retM me)) := PS.weak (ps_ret he) fun G σ H h => by
  obtain ⟨δ, S, ρ, I, h⟩ := h
  refine bindGF I h fun d v S1 H1 ρ1 n1 I1 r1 h1 => ?_
  exact h1 v H1 ρ1 (Nx.refl _ _) I1.st r1
theorem ps_dexpr (he : PE X e (tE W me)) (hs : swapsWith e none pos.line X.env = pure false := by rfl) : PS X (.Expr e pos) (tS W (exprM me)) := PS.weak (ps_expr he hs) fun G σ H h => by
  obtain ⟨δ, S, ρ, I, h⟩ := h
  refine bindGF I h fun d v S1 H1 ρ1 n1 I1 r1 h1 => ?_
  exact h1 σ H1 ρ1 (Nx.refl _ _) I1
theorem ps_dif (hc : PT X c (tT W nc)) (ha : PSs X sa (tS W m1)) (hb : PSs X sb (tS W m2)) : PS X (.If c sa sb pos) (tS W (ifSM nc m1 m2)) := PS.weak (ps_if hc ha hb) fun G σ H h => by
  obtain ⟨δ, S, ρ, I, h⟩ := h
  refine bindGF I h fun b b' S1 H1 ρ1 n1 I1 r1 h1 => ?_
  cases r1
  show if b = true then _ else _
  cases b with
  | true => rw [if_pos rfl] at h1 ⊢; exact ⟨δ, S1, ρ1, I1, h1⟩
  | false => rw [if_neg Bool.false_ne_true] at h1 ⊢; exact ⟨δ, S1, ρ1, I1, h1⟩
theorem ps_dcont : PS X (.Continue pos) (tS W ctM) := PS.weak ps_continue fun G σ H h => by
  obtain ⟨δ, S, ρ, I, h⟩ := h
  exact h σ H ρ (Nx.refl _ _) I
inductive Tg where
  | nm (i : Nat) | tp (ts : List Tg)
mutual
def bindT : Tg → D → DEnv → Option DEnv
  | .nm i, d, δ => some (δ.set i (some d))
  | .tp ts, .tup ds, δ => bindTs ts ds δ
  | .tp _, _, _ => none
def bindTs : List Tg → List D → DEnv → Option DEnv
  | [], [], δ => some δ
  | t :: ts, d :: ds, δ => match bindT t d δ with
    | some δ1 => bindTs ts ds δ1
    | none => none
  | _, _, _ => none
end
mutual
def Tg.sl : Tg → List Nat
  | .nm i => [i]
  | .tp ts => Tg.sls ts
def Tg.sls : List Tg → List Nat
  | [] => []
  | t :: ts => t.sl ++ Tg.sls ts
end
def Off (l : List Nat) (σ σ' : St) : Prop := σ'.length = σ.length ∧ ∀ j, j ∉ l → σ'[j]? = σ[j]?
def gD (tg : Tg) : TG := fun v σ H Q => ∃ d δ S ρ δ', StE σ H δ S ρ ∧ Rep H ρ d v ∧ bindT tg d δ = some δ' ∧ ∀ σ', StE σ' H δ' S ρ → Off tg.sl σ σ' → Q σ' H
def gsD (tgs : List Tg) : TGs := fun vs σ H Q => ∃ ds δ S ρ δ', StE σ H δ S ρ ∧ Reps H ρ ds vs ∧ bindTs tgs ds δ = some δ' ∧ ∀ σ', StE σ' H δ' S ρ → Off (Tg.sls tgs) σ σ' → Q σ' H
theorem PG.weak {tg : Expr} {t t' : TG} (h : PG X tg t) (hw : ∀ v σ H Q, t' v σ H Q → t v σ H Q) : PG X tg t' := ⟨fun pins s σ H v u Q I r q => h.run pins s σ H v u Q I r (hw _ _ _ _ q)⟩
theorem PGs.weak {tg : List Expr} {t t' : TGs} (h : PGs X tg t) (hw : ∀ v σ H Q, t' v σ H Q → t v σ H Q) : PGs X tg t' := ⟨fun pins s σ H v u Q I r q => h.run pins s σ H v u Q I r (hw _ _ _ _ q)⟩
theorem pg_dname {i : Nat} {x : Str} (hN : X.N.Nodup) (hi : X.N[i]? = some x) (hx : Loc X.env.scope x) (hf : X.fn x = true ∨ X.env.scope.names.lookup x = some .local := by first | exact .inl rfl | exact .inr rfl | assumption) : PG X (.Name x pos) (gD (.nm i)) :=
  PG.weak (pg_name hN hi hx hf) fun v σ H Q h => by
    obtain ⟨d, δ, S, ρ, δ', I, r, e, q⟩ := h
    cases e
    refine q _ ⟨I.st, I.env.set i r⟩ ⟨by simp, fun j hj => ?_⟩
    rw [List.getElem?_set_ne (fun z => hj (by simp [Tg.sl, z]))]
theorem pgs_dnil : PGs X [] (gsD []) := PGs.weak pgs_nil fun vs σ H Q h => by
  obtain ⟨ds, δ, S, ρ, δ', I, r, e, q⟩ := h
  cases ds with
  | nil =>
    cases r; cases e
    exact ⟨rfl, q σ I ⟨rfl, fun j _ => rfl⟩⟩
  | cons _ _ => cases e
theorem pgs_dcons {t : Expr} {ts : List Expr} {tg : Tg} {tgs : List Tg} (h1 : PG X t (gD tg)) (h2 : PGs X ts (gsD tgs))
    (hs : (assignEach (t :: ts) X.env).map (·.2) = assign t X.env :: (assignEach ts X.env).map (·.2) := by rfl) : PGs X (t :: ts) (gsD (tg :: tgs)) := PGs.weak (pgs_cons h1 h2 hs) fun vs σ H Q h => by
  obtain ⟨ds, δ, S, ρ, δ', I, r, e, q⟩ := h
  cases ds with
  | nil => cases e
  | cons d ds =>
    obtain ⟨v, us, rfl, r1, r2⟩ := r
    simp only [bindTs] at e
    split at e
    · rename_i δ1 e1
      refine ⟨v, us, rfl, d, δ, S, ρ, δ1, I, r1, e1, fun σ' I' o' => ⟨ds, δ1, S, ρ, δ', I', r2, e, fun σ2 I2 o2 => q σ2 I2 ⟨o2.1.trans o'.1, fun j hj => ?_⟩⟩⟩
      simp only [Tg.sls, List.mem_append, not_or] at hj
      exact (o2.2 j hj.2).trans (o'.2 j hj.1)
    · cases e
theorem bindTs_len : ∀ {tgs : List Tg} {ds : List SL.D} {δ δ' : DEnv}, bindTs tgs ds δ = some δ' → tgs.length = ds.length
  | [], [], _, _, _ => rfl
  | [], _ :: _, _, _, h => by cases h
  | _ :: _, [], _, _, h => by cases h
  | t :: ts, d :: ds, δ, δ', h => by
    simp only [bindTs] at h
    split at h
    · simp [bindTs_len h]
    · cases h
theorem pg_dtup {k : Nat} {tgs : List Tg} (hc : X.calm = true) (h : PGs X es (gsD tgs)) (hn : (assignEach es X.env).length = tgs.length := by rfl) (hst : (assignEach es X.env).findIdx? (·.1) = none := by rfl) : PG X (.Tuple es k pos) (gD (.tp tgs)) :=
  PG.weak (pg_tup (n := tgs.length) hc h hn hst) fun v σ H Q h => by
    obtain ⟨d, δ, S, ρ, δ', I, r, e, q⟩ := h
    cases d with
    | tup ds =>
      simp only [bindT] at e
      obtain ⟨a, vs, rfl, h1, n1, r1⟩ := r
      exact ⟨a, vs, rfl, .inl h1.rd, by rw [← r1.len, bindTs_len e], ds, δ, S, ρ, δ', I, r1, e, q⟩
    | _ => simp only [bindT] at e; cases e
def asgT (tg : Tg) (me : ME) : MS := fun δ S => bindS (me δ S) δ fun d S1 => match bindT tg d δ with
  | some δ1 => .nx δ1 S1
  | none => .stuck
theorem ps_dasg {tg : Expr} {t : Tg} (he : PE X e (tE W me)) (hg : PG X tg (gD t)) (hs : swapsWithSole [tg] e pos.line X.env = pure false := by rfl) (hw : swappedStores [tg] e X.env = pure none := by rfl)
    (h1 : (assignEach [tg] X.env).map (·.2) = [assign tg X.env] := by rfl) : PS X (.Assign [tg] e pos) (tS W (asgT t me)) := PS.weak (ps_asg he hg hs hw h1) fun G σ H h => by
  obtain ⟨δ, S, ρ, I, h⟩ := h
  refine bindGF I h fun d v S1 H1 ρ1 n1 I1 r1 h1 => ?_
  split at h1
  · rename_i δ1 e1
    exact ⟨d, δ, S1, ρ1, δ1, I1, r1, e1, fun σ' I' _ => h1 σ' H1 ρ1 (Nx.refl _ _) I'⟩
  · exact False.elim h1
def whileN (nc : MB) (b : MS) : Nat → MS
  | 0, _, _ => .stuck
  | n + 1, δ, S => bindS (nc δ S) δ fun c S1 => if c = true then (match b δ S1 with
      | .nx δ2 S2 => whileN nc b n δ2 S2
      | .ct δ2 S2 => whileN nc b n δ2 S2
      | .bk δ2 S2 => .nx δ2 S2
      | r => r) else .nx δ S1
open Classical in
noncomputable def whileM (nc : MB) (b : MS) : MS := fun δ S => if h : ∃ n, whileN nc b n δ S ≠ .stuck then whileN nc b (Classical.choose h) δ S else .stuck
theorem whileN_more {nc : MB} {b : MS} : ∀ {n : Nat} {δ : DEnv} {S : Store}, whileN nc b n δ S ≠ .stuck → ∀ m, n ≤ m → whileN nc b m δ S = whileN nc b n δ S
  | 0, _, _, h, _, _ => absurd rfl h
  | n + 1, δ, S, h, 0, hm => absurd hm (by omega)
  | n + 1, δ, S, h, m + 1, hm => by
    unfold whileN at h ⊢
    cases e : nc δ S with
    | ok c S1 =>
      rw [e] at h
      simp only [bindS_ok] at h ⊢
      cases c with
      | false => rfl
      | true =>
        simp only [if_true] at h ⊢
        cases eb : b δ S1 with
        | nx δ2 S2 => rw [eb] at h; exact whileN_more h m (by omega)
        | ct δ2 S2 => rw [eb] at h; exact whileN_more h m (by omega)
        | bk δ2 S2 => rfl
        | rt d S2 => rfl
        | exc x δ2 S2 => rfl
        | stuck => rfl
    | exc x S1 => rfl
    | stuck => rfl
theorem whileM_of {nc : MB} {b : MS} {δ : DEnv} {S : Store} (n : Nat) (h : whileN nc b n δ S ≠ .stuck) : whileM nc b δ S = whileN nc b n δ S := by
  have hx : ∃ n, whileN nc b n δ S ≠ .stuck := ⟨n, h⟩
  unfold whileM
  rw [dif_pos hx]
  have h2 := Classical.choose_spec hx
  rcases Nat.le_total n (Classical.choose hx) with l | l
  · exact whileN_more h _ l
  · exact (whileN_more h2 _ l).symm
theorem whileM_is {nc : MB} {b : MS} {δ : DEnv} {S : Store} {r : Flw} (n : Nat) (e : whileN nc b n δ S = r) (h : r ≠ .stuck) : whileM nc b δ S = r := by
  rw [whileM_of n (by rw [e]; exact h), e]
theorem ps_dwhile (hp : PassesOwn (model X.prog X.w) X.A X.env X.xe) (hc : PT X c (tT W nc)) (hb : PSs X sb (tS W m1)) : PS X (.While c sb [] pos) (tS W (whileM nc m1)) := PS.weak (ps_while hp hc hb) fun G σ H h => by
  obtain ⟨δ, S, ρ, I, h⟩ := h
  unfold whileM at h
  split at h
  · rename_i hx
    generalize Classical.choose hx = n at h
    refine ⟨fun m σ' H' => ∃ δ' S' ρ', StE σ' H' δ' S' ρ' ∧ RunF W G H' ρ' (whileN nc m1 m δ' S'), ⟨n, δ, S, ρ, I, h⟩, ?_⟩
    rintro m σ' H' ⟨δ', S', ρ', I', h'⟩
    cases m with
    | zero => exact False.elim h'
    | succ m =>
      unfold whileN at h'
      refine bindGF I' h' fun b b' S1 H1 ρ1 n1 I1 r1 h1 => ?_
      cases r1
      cases b with
      | false =>
        rw [if_neg Bool.false_ne_true] at h1 ⊢
        exact h1 σ' H1 ρ1 (Nx.refl _ _) I1
      | true =>
        rw [if_pos rfl] at h1 ⊢
        refine ⟨fun σ2 H2 => ∃ δ2 S2 ρ2, StE σ2 H2 δ2 S2 ρ2 ∧ RunF W G H2 ρ2 (whileN nc m1 m δ2 S2), fun σ2 H2 q => ⟨m, Nat.lt_succ_self m, q⟩, δ', S1, ρ1, I1, ?_⟩
        cases e : m1 δ' S1 with
        | nx δ2 S2 => rw [e] at h1; exact fun σ2 H2 ρ2 n2 st => ⟨δ2, S2, ρ2, st, h1.mono n2⟩
        | ct δ2 S2 => rw [e] at h1; exact fun σ2 H2 ρ2 n2 st => ⟨δ2, S2, ρ2, st, h1.mono n2⟩
        | bk δ2 S2 => rw [e] at h1; exact h1
        | rt d S2 => rw [e] at h1; exact h1
        | exc x δ2 S2 => rw [e] at h1; exact h1
        | stuck => rw [e] at h1; exact h1
  · exact False.elim h
end
mutual
def okD (n : Nat) : D → Bool
  | .loc m => decide (m < n)
  | .tup ds => okL n ds
  | .lst ds => okL n ds
  | .dct _ ds => okL n ds
  | .obj _ _ ds => okL n ds
  | .exn _ _ _ ds => okL n ds
  | _ => true
def okL (n : Nat) : List D → Bool
  | [] => true
  | d :: ds => okD n d && okL n ds
end
def okC (n : Nat) : Cell → Bool
  | .lst ds => okL n ds
  | .dct _ ds => okL n ds
  | .obj _ _ ds => okL n ds
  | .tab _ _ => true
  | .emp _ _ _ => true
  | .fn _ _ _ => true
section
variable {H H' H1 : Hp} {ρ ρ' t : List Addr} {S S' : Store}
mutual
theorem Rep.ok : ∀ (d : D) (v : V), Rep H ρ d v → okD ρ.length d = true
  | .non, _, _ => rfl
  | .bl _, _, _ => rfl
  | .int _, _, _ => rfl
  | .str _, _, _ => rfl
  | .raw _, _, _ => rfl
  | .loc m, v, h => by
    obtain ⟨a, e, _⟩ := h
    simp only [okD]
    exact decide_eq_true (List.getElem?_eq_some_iff.mp e).1
  | .tup ds, v, h => by
    obtain ⟨a, vs, _, _, _, h2⟩ := h
    simp only [okD]
    exact Reps.ok ds vs h2
  | .lst ds, v, h => by
    obtain ⟨a, vs, _, _, _, h2⟩ := h
    simp only [okD]
    exact Reps.ok ds vs h2
  | .dct ks ds, v, h => by
    obtain ⟨a, vs, _, _, _, _, h2⟩ := h
    simp only [okD]
    exact Reps.ok ds vs h2
  | .obj C ns ds, v, h => by
    obtain ⟨a, dx, vs, _, _, _, _, h2⟩ := h
    simp only [okD]
    exact Reps.ok ds vs h2
  | .exn a dd ns ds, v, h => by
    obtain ⟨vs, _, _, _, _, h2⟩ := h
    simp only [okD]
    exact Reps.ok ds vs h2
theorem Reps.ok : ∀ (ds : List D) (vs : List V), Reps H ρ ds vs → okL ρ.length ds = true
  | [], _, _ => rfl
  | d :: ds, vs, h => by
    obtain ⟨v, us, _, h1, h2⟩ := h
    simp only [okL, Bool.and_eq_true]
    exact ⟨Rep.ok d v h1, Reps.ok ds us h2⟩
end
mutual
theorem Rep.cut : ∀ (d : D) (v : V), Rep H (ρ ++ t) d v → okD ρ.length d = true → Rep H ρ d v
  | .non, _, h, _ => h
  | .bl _, _, h, _ => h
  | .int _, _, h, _ => h
  | .str _, _, h, _ => h
  | .raw _, _, h, _ => h
  | .loc m, v, h, k => by
    obtain ⟨a, e, h2⟩ := h
    simp only [okD] at k
    rw [List.getElem?_append_left (of_decide_eq_true k)] at e
    exact ⟨a, e, h2⟩
  | .tup ds, v, h, k => by
    obtain ⟨a, vs, h0, h1, na, h2⟩ := h
    simp only [okD] at k
    exact ⟨a, vs, h0, h1, fun z => na (List.mem_append_left _ z), Reps.cut ds vs h2 k⟩
  | .lst ds, v, h, k => by
    obtain ⟨a, vs, h0, h1, na, h2⟩ := h
    simp only [okD] at k
    exact ⟨a, vs, h0, h1, fun z => na (List.mem_append_left _ z), Reps.cut ds vs h2 k⟩
  | .dct ks ds, v, h, k => by
    obtain ⟨a, vs, h0, h1, na, l, h2⟩ := h
    simp only [okD] at k
    exact ⟨a, vs, h0, h1, fun z => na (List.mem_append_left _ z), l, Reps.cut ds vs h2 k⟩
  | .obj C ns ds, v, h, k => by
    obtain ⟨a, dx, vs, h0, h1, na, l, h2⟩ := h
    simp only [okD] at k
    exact ⟨a, dx, vs, h0, h1, fun z => na (List.mem_append_left _ z), l, Reps.cut ds vs h2 k⟩
  | .exn a dd ns ds, v, h, k => by
    obtain ⟨vs, h0, h1, na, l, h2⟩ := h
    simp only [okD] at k
    exact ⟨vs, h0, h1, fun z => na (List.mem_append_left _ z), l, Reps.cut ds vs h2 k⟩
theorem Reps.cut : ∀ (ds : List D) (vs : List V), Reps H (ρ ++ t) ds vs → okL ρ.length ds = true → Reps H ρ ds vs
  | [], _, h, _ => h
  | d :: ds, vs, h, k => by
    obtain ⟨v, us, h0, h1, h2⟩ := h
    simp only [okL, Bool.and_eq_true] at k
    exact ⟨v, us, h0, Rep.cut d v h1 k.1, Reps.cut ds us h2 k.2⟩
end
theorem RepC.ok {a : Addr} {c : Cell} (h : RepC H ρ a c) : okC ρ.length c = true := by
  cases c with
  | lst ds => obtain ⟨vs, _, h2⟩ := h; exact Reps.ok _ _ h2
  | dct ks ds => obtain ⟨vs, _, _, h2⟩ := h; exact Reps.ok _ _ h2
  | obj C ns ds => obtain ⟨dx, vs, _, _, h2⟩ := h; exact Reps.ok _ _ h2
  | tab P q => rfl
  | emp P q es => rfl
  | fn κ j l => rfl
theorem TabR.cut {a P : Addr} {q : Str} (h : TabR H (ρ ++ t) a P q) : TabR H ρ a P q := by
  obtain ⟨h0, ps, h1, h2, h3⟩ := h
  refine ⟨h0, ps, h1, h2, fun pos cv hc => ?_⟩
  obtain ⟨c, e1, e2, e3⟩ := h3 pos cv hc
  exact ⟨c, e1, e2, fun z => e3 (List.mem_append_left _ z)⟩
theorem RepC.cut {a : Addr} {c : Cell} (h : RepC H (ρ ++ t) a c) (k : okC ρ.length c = true) : RepC H ρ a c := by
  cases c with
  | lst ds => obtain ⟨vs, h1, h2⟩ := h; exact ⟨vs, h1, Reps.cut _ _ h2 k⟩
  | dct ks ds => obtain ⟨vs, h1, l, h2⟩ := h; exact ⟨vs, h1, l, Reps.cut _ _ h2 k⟩
  | obj C ns ds => obtain ⟨dx, vs, h1, l, h2⟩ := h; exact ⟨dx, vs, h1, l, Reps.cut _ _ h2 k⟩
  | tab P q => exact TabR.cut h
  | emp P q es => exact ⟨TabR.cut h.1, fun x hx => ⟨(h.2 x hx).1, fun z => (h.2 x hx).2 (List.mem_append_left _ z)⟩⟩
  | fn κ j l => obtain ⟨pm, c, ctv, h1, h2, h3⟩ := h; exact ⟨pm, c, ctv, h1, h2, fun z => h3 (List.mem_append_left _ z)⟩
theorem StS.cellOk (st : StS H S ρ) {i : Nat} {c : Cell} (e : S[i]? = some c) : okC S.length c = true := by
  have hi : i < ρ.length := by rw [st.len]; exact (List.getElem?_eq_some_iff.mp e).1
  have := (st.cells i _ c (List.getElem?_eq_getElem hi) e).ok
  rw [st.len] at this
  exact this
def Settles (S S' : Store) : Prop := ∀ i c, i < S.length → S'[i]? = some c → S[i]? = some c ∨ okC S.length c = true
theorem Settles.same : Settles S S := fun i c _ e => .inl e
theorem Settles.app {g : Store} : Settles S (S ++ g) := fun i c hi e => .inl (by rwa [List.getElem?_append_left hi] at e)
theorem StS.settle (st0 : StS H S ρ) (st : StS H' S' (ρ ++ t)) (hs : Settles S S') : StS H' (S'.take S.length) ρ := by
  have hl : S.length ≤ S'.length := by rw [← st.len, ← st0.len]; simp
  refine ⟨by rw [List.length_take, Nat.min_eq_left hl, st0.len], (List.nodup_append.mp st.nd).1, fun n a c e1 e2 => ?_⟩
  have hn : n < ρ.length := (List.getElem?_eq_some_iff.mp e1).1
  have hn' : n < S.length := by rw [← st0.len]; exact hn
  rw [List.getElem?_take_of_lt hn'] at e2
  have e1' : (ρ ++ t)[n]? = some a := by rw [List.getElem?_append_left hn]; exact e1
  refine (st.cells n a c e1' e2).cut ?_
  rw [st0.len]
  rcases hs n c hn' e2 with h | h
  · exact st0.cellOk h
  · exact h
theorem Nx.settle (n : Nx H ρ H' ρ') : Nx H ρ H' ρ := ⟨⟨[], by simp⟩, fun a h k => absurd h k, n.thr, n.stay, n.tbl⟩
end
inductive Src where
  | vals (d : D) | rng (lo c : Int) (n : Nat) | zip (d e : D) (n m : Nat) | enm (d : D) (n : Nat) | keys (ks : List Key)
def kD : Key → D
  | .inl i => .int i
  | .inr s => .str s.cps.toList
theorem kD_rep {H : Hp} {ρ : List Addr} (k : Key) : Rep H ρ (kD k) (kV k) := by
  cases k with
  | inl i => rfl
  | inr s => show V.str s = .str ⟨(s.cps.toList).toArray⟩; rw [Array.toArray_toList]
def signs (l : List Nat) : List D := l.map fun c => .str [c]
def iterD (S : Store) (d : D) : Option (List D) := match d with
  | .str l => some (signs l)
  | d => asQ S d
def zipT : List D → List D → List D
  | x :: xs, y :: ys => .tup [x, y] :: zipT xs ys
  | _, _ => []
def enmT (k : Nat) : List D → List D
  | x :: xs => .tup [.int (k : Int), x] :: enmT (k + 1) xs
  | [] => []
def items (S : Store) : Src → Option (List D)
  | .vals d => iterD S d
  | .rng lo c n => some ((List.range n).map fun (i : Nat) => .int (lo + (i : Int) * c))
  | .zip d e n m => match iterD S d, iterD S e with
    | some xs, some ys => if xs.length = n ∧ ys.length = m then some (zipT xs ys) else none
    | _, _ => none
  | .keys ks => some (ks.map kD)
  | .enm d n => match iterD S d with
    | some xs => if xs.length = n then some (enmT 0 xs) else none
    | none => none
def ItR (H : Hp) (ρ : List Addr) (src : Src) (J : It) : Prop := ∀ (i : Nat) (H' : Hp) (ρ' : List Addr) (S : Store) (ds : List D), Nx H ρ H' ρ' → StS H' S ρ' → items S src = some ds →
  (∀ d, ds[i]? = some d → J.go i H' ∧ ∀ x H2, J.yld i H' x H2 → Nx H' ρ' H2 ρ' ∧ StS H2 S ρ' ∧ Rep H2 ρ' d x) ∧ (ds[i]? = none → J.stop i H')
section
variable {X : Cx} {W : WX} {e tg a b c : Expr} {ma mb mc : ME} {pos p : Pos}
def srcV (ma : ME) : DEnv → Store → Res Src := fun δ S => (ma δ S).bind fun d S1 => match iterD S1 d with
  | some _ => .ok (.vals d) S1
  | none => .stuck
theorem PI.weak {iter : Expr} {t t' : TI} (h : PI X tg iter t) (hw : ∀ σ H R, t' σ H R → t σ H R) : PI X tg iter t' := ⟨fun pins s σ H R I q => h.run pins s σ H R I (hw _ _ _ q)⟩
theorem PI.or {iter : Expr} {t t' : TI} (h : PI X tg iter t) (h' : PI X tg iter t') : PI X tg iter (fun σ H R => t σ H R ∨ t' σ H R) := ⟨fun pins s σ H R I q => q.elim (h.run pins s σ H R I) (h'.run pins s σ H R I)⟩
theorem itr_str {H : Hp} {ρ : List Addr} {l : List Nat} : ItR H ρ (.vals (.str l)) (Its (sOf l)) := fun i H' ρ' S ds n st e => by
  cases e
  constructor
  · intro d hd
    simp only [signs, List.getElem?_map] at hd
    cases hc : l[i]? with
    | none => rw [hc] at hd; cases hd
    | some c =>
      rw [hc] at hd
      cases hd
      have hi : i < l.length := (List.getElem?_eq_some_iff.mp hc).1
      refine ⟨by show i < (l.toArray).size; simpa using hi, ?_⟩
      rintro x H2 ⟨rfl, c', e1, rfl⟩
      have : some c' = some c := by rw [← e1, ← hc]; show (l.toArray)[i]? = _; simp
      cases this
      exact ⟨Nx.refl _ _, st, rfl⟩
  · intro hd
    simp only [signs, List.getElem?_map, Option.map_eq_none_iff] at hd
    have := List.getElem?_eq_none_iff.mp hd
    show (l.toArray).size ≤ i
    simpa using this
theorem itr_lst {K : PySem.W.Frag} {H : Hp} {ρ : List Addr} {d : D} {a : Addr} (r : Rep H ρ d (.ref a)) (hl : ∀ S ds, asQ S d = some ds → asL S d = some ds) (hi : ∀ S ds, iterD S d = some ds → asL S d = some ds) : ItR H ρ (.vals d) (Itl K a) := fun i H' ρ' S ds n st e => by
  have ed := hi S ds e
  obtain ⟨a', vs, ea, h1, r1⟩ := asL_rep st (Rep.mono n _ _ r) ed
  cases ea
  have hs : SqL K H' a vs := .inl (.inl h1)
  constructor
  · intro d' hd
    obtain ⟨v, hv, rv⟩ := Reps.getD r1 hd
    refine ⟨⟨vs, v, hs, hv⟩, ?_⟩
    rintro x H2 ⟨rfl, f⟩
    have := (f vs hs).symm.trans hv
    cases this
    exact ⟨Nx.refl _ _, st, rv⟩
  · intro hd
    refine ⟨vs, hs, ?_⟩
    rw [← r1.len]
    exact List.getElem?_eq_none_iff.mp hd
theorem itr_tup {K : PySem.W.Frag} {H : Hp} {ρ : List Addr} {es : List D} {a : Addr} (r : Rep H ρ (.tup es) (.ref a)) : ItR H ρ (.vals (.tup es)) (Itt K a) := fun i H' ρ' S ds n st e => by
  have ed : asT (.tup es) = some ds := e
  obtain ⟨a', vs, ea, h1, r1⟩ := asT_rep (Rep.mono n _ _ r) ed
  cases ea
  have hs : SqT K H' a vs := .inl h1.rd
  constructor
  · intro d' hd
    obtain ⟨v, hv, rv⟩ := Reps.getD r1 hd
    refine ⟨⟨vs, v, hs, hv⟩, ?_⟩
    rintro x H2 ⟨rfl, f⟩
    have := (f vs hs).symm.trans hv
    cases this
    exact ⟨Nx.refl _ _, st, rv⟩
  · intro hd
    refine ⟨vs, hs, ?_⟩
    rw [← r1.len]
    exact List.getElem?_eq_none_iff.mp hd
theorem pi_dvals (he : PE X e (tE W ma)) : PI X tg e (tG W ItR (srcV ma)) := PI.weak (PI.or (pi_str he) (PI.or (pi_list he) (pi_tup he))) fun σ H R h => by
  obtain ⟨δ, S, ρ, I, h⟩ := h
  unfold srcV at h
  have key : ∀ P : It → Hp → Prop, (∀ d S1, (ma δ S) = .ok d S1 → ∀ v H1 ρ1, Nx H ρ H1 ρ1 → StS H1 S1 ρ1 → Rep H1 ρ1 d v → True) → True := fun _ _ => trivial
  cases em : ma δ S with
  | stuck => rw [em] at h; exact False.elim h
  | exc x S1 =>
    rw [em] at h
    exact .inl ⟨δ, S, ρ, I, by rw [em]; exact h⟩
  | ok d S1 =>
    rw [em] at h
    simp only [bind_ok] at h
    split at h
    · rename_i ds0 e0
      cases d with
      | str l =>
        refine .inl ⟨δ, S, ρ, I, ?_⟩
        rw [em]
        intro v H1 ρ1 n st r
        cases r
        exact ⟨sOf l, rfl, h _ H1 ρ1 n st itr_str⟩
      | tup es =>
        refine .inr (.inr ⟨δ, S, ρ, I, ?_⟩)
        rw [em]
        intro v H1 ρ1 n st r
        obtain ⟨a, vs, rfl, h1, n1, r1⟩ := id r
        exact ⟨a, rfl, ⟨vs, .inl h1.rd⟩, h _ H1 ρ1 n st (itr_tup r)⟩
      | lst es =>
        refine .inr (.inl ⟨δ, S, ρ, I, ?_⟩)
        rw [em]
        intro v H1 ρ1 n st r
        obtain ⟨a, vs, rfl, h1, n1, r1⟩ := id r
        exact ⟨a, rfl, ⟨vs, .inl (.inl h1)⟩, h _ H1 ρ1 n st (itr_lst r (fun _ _ z => z) (fun _ _ z => z))⟩
      | loc m =>
        refine .inr (.inl ⟨δ, S, ρ, I, ?_⟩)
        rw [em]
        intro v H1 ρ1 n st r
        have hq : ∀ S ds, asQ S (.loc m) = some ds → asL S (.loc m) = some ds := fun S ds z => by
          unfold asQ at z
          split at z
          · rename_i e; cases z; exact e
          · cases z
        have e0' := hq S1 ds0 e0
        obtain ⟨a, vs, rfl, h1, r1⟩ := asL_rep st r e0'
        exact ⟨a, rfl, ⟨vs, .inl (.inl h1)⟩, h _ H1 ρ1 n st (itr_lst r hq hq)⟩
      | _ => cases e0
    · exact False.elim h
theorem itr_rng {H : Hp} {ρ : List Addr} {lo c : Int} {n : Nat} : ItR H ρ (.rng lo c n) (Itc lo c n) := fun i H' ρ' S ds nx st e => by
  cases e
  constructor
  · intro d hd
    rw [List.getElem?_map] at hd
    by_cases hi : i < n
    · rw [List.getElem?_range hi] at hd
      cases hd
      refine ⟨hi, ?_⟩
      rintro x H2 ⟨rfl, rfl⟩
      exact ⟨Nx.refl _ _, st, rfl⟩
    · rw [List.getElem?_eq_none (by simpa using hi)] at hd
      cases hd
  · intro hd
    have := List.getElem?_eq_none_iff.mp hd
    show n ≤ i
    simpa using this
def src1 (ma : ME) : DEnv → Store → Res Src := fun δ S => (ma δ S).bind fun d S1 => match d with
  | .int j => if j.natAbs ≤ 1000000000 then .ok (.rng 0 1 j.toNat) S1 else .stuck
  | _ => .stuck
def src2 (ma mb : ME) : DEnv → Store → Res Src := fun δ S => (ma δ S).bind fun d S1 => (mb δ S1).bind fun e S2 => match d, e with
  | .int i, .int j => if i.natAbs ≤ 1000000000 ∧ j.natAbs ≤ 1000000000 then .ok (.rng i 1 (j - i).toNat) S2 else .stuck
  | _, _ => .stuck
theorem itr_rng1 {H : Hp} {ρ : List Addr} {lo : Int} {n : Nat} : ItR H ρ (.rng lo 1 n) (Itr lo n) := fun i H' ρ' S ds nx st e => by
  obtain ⟨h1, h2⟩ := itr_rng (H := H) (ρ := ρ) (lo := lo) (c := 1) (n := n) i H' ρ' S ds nx st e
  refine ⟨fun d hd => ?_, h2⟩
  obtain ⟨g, y⟩ := h1 d hd
  refine ⟨g, ?_⟩
  rintro x H2 ⟨rfl, rfl⟩
  exact y _ _ ⟨rfl, by rw [Int.mul_one]⟩
theorem pi_drange1 (hm : X.mg "range" = none) (ha : PE X a (tE W ma)) (hg : Gl X "range" := by rfl) (hs : starEach [a] X.env = [(false, eval a X.env)] := by rfl) (hs' : starEach (a :: []) X.env = (false, eval a X.env) :: starEach [] X.env := by rfl) : PI X tg (.Call (.Name "range" p) [a] [] pos) (tG W ItR (src1 ma)) :=
  PI.weak (pi_range1 hg hm (pd_cons ha pd_nil hs') hs) fun σ H R h => by
    obtain ⟨δ, S, ρ, I, h⟩ := h
    refine ⟨δ, S, ρ, I, ?_⟩
    unfold src1 at h
    unfold consM nilM
    cases em : ma δ S with
    | stuck => rw [em] at h; exact False.elim h
    | exc x S1 => rw [em] at h; exact h
    | ok d S1 =>
      rw [em] at h
      simp only [bind_ok] at h ⊢
      intro vs H1 ρ1 n st r
      obtain ⟨v, us, rfl, rv, ru⟩ := r
      cases ru
      split at h
      · rename_i j
        split at h
        · rename_i hj
          cases rv
          exact ⟨j, rfl, by omega, by omega, h _ H1 ρ1 n st itr_rng1⟩
        · exact False.elim h
      · exact False.elim h
theorem pi_drange2 (hm : X.mg "range" = none) (ha : PE X a (tE W ma)) (hb : PE X b (tE W mb)) (hg : Gl X "range" := by rfl) (hs : starEach [a, b] X.env = [(false, eval a X.env), (false, eval b X.env)] := by rfl) (hs2 : starEach [b] X.env = [(false, eval b X.env)] := by rfl)
    (hs' : starEach (a :: [b]) X.env = (false, eval a X.env) :: starEach [b] X.env := by rfl) (hs2' : starEach (b :: []) X.env = (false, eval b X.env) :: starEach [] X.env := by rfl) : PI X tg (.Call (.Name "range" p) [a, b] [] pos) (tG W ItR (src2 ma mb)) :=
  PI.weak (pi_range2 hg hm (pd_cons ha (pd_cons hb pd_nil hs2') hs') hs hs2) fun σ H R h => by
    obtain ⟨δ, S, ρ, I, h⟩ := h
    refine ⟨δ, S, ρ, I, ?_⟩
    unfold src2 at h
    unfold consM nilM
    cases em : ma δ S with
    | stuck => rw [em] at h; exact False.elim h
    | exc x S1 => rw [em] at h; exact h
    | ok d S1 =>
      rw [em] at h
      simp only [bind_ok] at h ⊢
      cases em2 : mb δ S1 with
      | stuck => rw [em2] at h; exact False.elim h
      | exc x S2 => rw [em2] at h; exact h
      | ok e S2 =>
        rw [em2] at h
        simp only [bind_ok] at h ⊢
        intro vs H1 ρ1 n st r
        obtain ⟨v, us, rfl, rv, ru⟩ := r
        obtain ⟨u, ws, rfl, r2, rw'⟩ := ru
        cases rw'
        split at h
        · rename_i i j
          split at h
          · rename_i hj
            cases rv
            cases r2
            exact ⟨i, j, rfl, ⟨by omega, by omega, by omega, by omega⟩, h _ H1 ρ1 n st itr_rng1⟩
          · exact False.elim h
        · exact False.elim h
open Classical in
noncomputable def forL (src : Src) (tg : Tg) (b : MS) (ds : List D) : List D → MS
  | [], δ, S => if items S src = some ds then .nx δ S else .stuck
  | d :: r, δ, S => if items S src = some ds then (match bindT tg d δ with
      | some δ1 => match b δ1 S with
        | .nx δ2 S2 => forL src tg b ds r δ2 S2
        | .ct δ2 S2 => forL src tg b ds r δ2 S2
        | .bk δ2 S2 => .nx δ2 S2
        | o => o
      | none => .stuck) else .stuck
noncomputable def forM (mi : DEnv → Store → Res Src) (tg : Tg) (b : MS) : MS := fun δ S => bindS (mi δ S) δ fun src S1 => match items S1 src with
  | some ds => forL src tg b ds ds δ S1
  | none => .stuck
theorem ps_dfor {iter tge : Expr} {body : List Stmt} {mi : DEnv → Store → Res Src} {t : Tg} {m : MS} (hp : PassesOwn (model X.prog X.w) X.A X.env X.xe) (hc : X.calm = true) (hi : PI X tge iter (tG W ItR mi)) (hg : PG X tge (gD t)) (hb : PSs X body (tS W m))
    (hs : ∀ x, foldedSetIterable iter X.env x = pure x := by intro _; rfl) : PS X (.For tge iter body [] pos) (tS W (forM mi t m)) := PS.weak (ps_for hp hc hi hg hb hs) fun G σ H h => by
  obtain ⟨δ, S, ρ, I, h⟩ := h
  refine bindGF I h fun src J S1 H1 ρ1 n1 I1 r1 h1 => ?_
  split at h1
  · rename_i ds eds
    refine ⟨fun i k σ' H' => ∃ δ' S' ρ', StE σ' H' δ' S' ρ' ∧ Nx H1 ρ1 H' ρ' ∧ k = ds.length - i ∧ RunF W G H' ρ' (forL src t m ds (ds.drop i) δ' S'), ⟨_, δ, S1, ρ1, I1, Nx.refl _ _, rfl, by simpa using h1⟩, ?_⟩
    rintro i k σ' H' ⟨δ', S', ρ', I', n', rfl, h'⟩
    cases ed : ds[i]? with
    | none =>
      have hd : ds.drop i = [] := List.drop_eq_nil_of_le (List.getElem?_eq_none_iff.mp ed)
      rw [hd] at h'
      unfold forL at h'
      split at h'
      · rename_i ei
        obtain ⟨_, f⟩ := r1 i H' ρ' S' ds n' I'.st ei
        exact .inl ⟨f ed, h' σ' H' ρ' (Nx.refl _ _) I'⟩
      · exact False.elim h'
    | some d =>
      have hil := (List.getElem?_eq_some_iff.mp ed).1
      have hd : ds.drop i = d :: ds.drop (i + 1) := by
        rw [List.drop_eq_getElem_cons hil, (List.getElem?_eq_some_iff.mp ed).2]
      rw [hd] at h'
      unfold forL at h'
      split at h'
      · rename_i ei
        obtain ⟨f, _⟩ := r1 i H' ρ' S' ds n' I'.st ei
        obtain ⟨go, y⟩ := f d ed
        refine .inr ⟨go, fun σ2 H2 => ∃ δ2 S2 ρ2, StE σ2 H2 δ2 S2 ρ2 ∧ Nx H1 ρ1 H2 ρ2 ∧ RunF W G H2 ρ2 (forL src t m ds (ds.drop (i + 1)) δ2 S2), fun σ2 H2 ⟨δ2, S2, ρ2, q1, q2, q3⟩ => ⟨_, Nat.sub_lt_sub_left hil (Nat.lt_succ_self i), δ2, S2, ρ2, q1, q2, rfl, q3⟩, ?_⟩
        intro x H2 hy
        obtain ⟨n2, st2, rx⟩ := y x H2 hy
        split at h'
        · rename_i δ1 eb
          refine ⟨d, δ', S', ρ', δ1, ⟨st2, I'.env.mono n2⟩, rx, eb, fun σ3 I3 _ => ⟨δ1, S', ρ', I3, ?_⟩⟩
          have h2 := RunF.mono n2 h'
          cases em : m δ1 S' with
          | nx δ2 S2 => rw [em] at h2; exact fun σ4 H4 ρ4 n4 st4 => ⟨δ2, S2, ρ4, st4, (n'.trans n2).trans n4, h2.mono n4⟩
          | ct δ2 S2 => rw [em] at h2; exact fun σ4 H4 ρ4 n4 st4 => ⟨δ2, S2, ρ4, st4, (n'.trans n2).trans n4, h2.mono n4⟩
          | bk δ2 S2 => rw [em] at h2; exact h2
          | rt d S2 => rw [em] at h2; exact h2
          | exc x δ2 S2 => rw [em] at h2; exact h2
          | stuck => rw [em] at h2; exact h2
        · exact False.elim h'
      · exact False.elim h'
  · exact False.elim h1
end
abbrev W0 : WX := fun _ _ _ _ => False
def wipeD (δ : DEnv) : List Nat → DEnv
  | [] => δ
  | v :: vs => (wipeD δ vs).set v none
section
variable {H H' : Hp} {ρ : List Addr} {δ : DEnv} {σ : St} {S : Store}
theorem EnvS.wipe (h : EnvS H ρ δ σ) : ∀ vs : List Nat, EnvS H ρ (wipeD δ vs) (wipe σ vs)
  | [] => h
  | v :: vs => EnvS.unset v (EnvS.wipe h vs)
theorem wipe_get : ∀ {vs : List Nat} {σ : St} {j : Nat}, (wipe σ vs)[j]? = if j ∈ vs then (if j < σ.length then some none else none) else σ[j]?
  | [], σ, j => by simp [wipe]
  | v :: vs, σ, j => by
    unfold wipe
    by_cases hv : v = j
    · subst hv
      by_cases hl : v < σ.length
      · rw [List.getElem?_set_self (by rw [wipe_length]; exact hl)]
        simp [hl]
      · rw [List.getElem?_eq_none (by rw [List.length_set, wipe_length]; omega)]
        simp [hl]
    · rw [List.getElem?_set_ne hv, wipe_get]
      by_cases hj : j ∈ vs
      · simp [hj]
      · have : ¬ j = v := fun z => hv z.symm
        simp [hj, this]
theorem wipe_off {vs l : List Nat} {σ σ2 : St} (o : Off l (wipe σ vs) σ2) (hl : ∀ j ∈ l, j ∈ vs) : wipe σ2 vs = wipe σ vs := by
  apply List.ext_getElem?
  intro j
  rw [wipe_get, wipe_get]
  have hlen : σ2.length = σ.length := by rw [o.1, wipe_length]
  by_cases hj : j ∈ vs
  · rw [if_pos hj, if_pos hj, hlen]
  · rw [if_neg hj, if_neg hj, o.2 j (fun z => hj (hl j z)), wipe_get, if_neg hj]
end
noncomputable def appC (n : Nat) (S : Store) (x : D) : Option Store := match S[n]? with
  | some (.lst acc) => if acc.length < 1000000 then some (S.set n (.lst (acc ++ [x]))) else none
  | _ => none
open Classical in
noncomputable def compL (src : Src) (tg : Tg) (tst : MB) (el : ME) (n : Nat) (ds : List D) (δ : DEnv) : List D → Store → Option Store
  | [], S => if items S src = some ds then some S else none
  | d :: r, S => if items S src = some ds then (match bindT tg d δ with
      | some δ1 => match tst δ1 S with
        | .ok true S1 => match el δ1 S1 with
          | .ok x S2 => match appC n S2 x with
            | some S3 => compL src tg tst el n ds δ r S3
            | none => none
          | _ => none
        | .ok false S1 => compL src tg tst el n ds δ r S1
        | _ => none
      | none => none) else none
open Classical in
noncomputable def endC (S1 Sf : Store) : Res D := match Sf[S1.length]? with
  | some (.lst acc) => if Sf.length = S1.length + 1 ∧ okL S1.length acc = true ∧ Settles S1 Sf then .ok (.lst acc) (Sf.take S1.length) else .ok (.loc S1.length) Sf
  | _ => .stuck
noncomputable def compM (mi : DEnv → Store → Res Src) (tg : Tg) (tst : MB) (el : ME) (vs : List Nat) : ME := fun δ S => (mi δ S).bind fun src S1 => match items S1 src with
  | some ds => match compL src tg tst el S1.length ds (wipeD δ vs) ds (S1 ++ [.lst []]) with
    | some Sf => endC S1 Sf
    | none => .stuck
  | none => .stuck
def yesB : MB := fun _ S => .ok true S
section
variable {X : Cx} {W : WX}
theorem PTs.weak {ifs : List Expr} {t t' : TT} (h : PTs X ifs t) (hw : ∀ σ H Q, t' σ H Q → t σ H Q) : PTs X ifs t' := ⟨fun pins s σ H Q I q => h.run pins s σ H Q I (hw _ _ _ q)⟩
theorem pts_dnil : PTs X [] (tT W yesB) := PTs.weak pts_nil fun σ H Q h => by
  obtain ⟨δ, S, ρ, I, h⟩ := h
  exact RunG.ok h I.st rfl
theorem pts_done {c : Expr} {m : MB} (h : PT X c (tT W m)) : PTs X [c] (tT W m) := pts_one h
theorem tLc_of {mi : DEnv → Store → Res Src} {tg : Tg} {tst : MB} {el : ME} {vs : List Nat} (hv : ∀ j ∈ tg.sl, j ∈ vs) {σ : St} {H1 : Hp} {δ : DEnv} {S1 Sf : Store} {ρ1 : List Addr} {src : Src} {J : It} {ds : List D} {Q : VK}
    (I1 : StE σ H1 δ S1 ρ1) (r1 : ItR H1 ρ1 src J) (hc : compL src tg tst el S1.length ds (wipeD δ vs) ds (S1 ++ [.lst []]) = some Sf) {p : Addr} (hp : H1 p = none)
    (hq : ∀ H' ρ', Nx H1 (ρ1 ++ [p]) H' ρ' → StS H' Sf ρ' → Q (.ref p) H') :
    ∃ WW : Nat → Nat → Hp → Prop, (∃ m, WW 0 m (upd H1 p (.lst []))) ∧ ∀ i m H, WW i m H →
  (J.stop i H ∧ Q (.ref p) H) ∨ (J.go i H ∧ ∃ Nt : Hp → Prop, (∀ H', Nt H' → ∃ m', m' < m ∧ WW (i + 1) m' H') ∧ ∀ x H', J.yld i H x H' → gD tg x (wipe σ vs) H' fun σ2 H2 => wipe σ2 vs = wipe σ vs ∧ tT W0 tst σ2 H2 fun b H3 =>
    if b = true then tE W0 el σ2 H3 fun y H4 => ∃ acc, H4 p = some (.lst acc) ∧ acc.length < sizeLine ∧ Nt (upd H4 p (.lst (acc ++ [y]))) else Nt H3) := by
  have n0 : Nx H1 ρ1 (upd H1 p (.lst [])) (ρ1 ++ [p]) := Nx.push hp
  have st0 : StS (upd H1 p (.lst [])) (S1 ++ [.lst []]) (ρ1 ++ [p]) := I1.st.push hp ⟨[], upd_same, Reps.nil⟩
  have env0 := (EnvS.wipe I1.env vs).mono n0
  refine ⟨fun i m H => ∃ S ρ, StS H S ρ ∧ Nx (upd H1 p (.lst [])) (ρ1 ++ [p]) H ρ ∧ Nx H1 (ρ1 ++ [p]) H ρ ∧ m = ds.length - i ∧ compL src tg tst el S1.length ds (wipeD δ vs) (ds.drop i) S = some Sf, ⟨_, _, _, st0, Nx.refl _ _, ?_, rfl, by simpa using hc⟩, ?_⟩
  · refine ⟨⟨[], by simp⟩, fun a h k => absurd h k, n0.thr, fun a o h k t => ?_, fun a ps h k => ?_⟩
    · exact n0.stay a o h (fun z => k (List.mem_append_left _ z)) t
    · exact n0.tbl a ps h (fun z => k (List.mem_append_left _ z))
  rintro i m H ⟨S, ρ, st, nx, nx', rfl, hl⟩
  have hpρ : ρ[S1.length]? = some p := by
    have : (ρ1 ++ [p])[S1.length]? = some p := by rw [← I1.st.len]; simp
    exact nx.at this
  cases ed : ds[i]? with
  | none =>
    have hd : ds.drop i = [] := List.drop_eq_nil_of_le (List.getElem?_eq_none_iff.mp ed)
    rw [hd] at hl
    unfold compL at hl
    split at hl
    · rename_i ei
      have eS : S = Sf := Option.some.inj hl
      subst eS
      obtain ⟨_, f⟩ := r1 i H ρ S ds (n0.trans nx) st ei
      exact .inl ⟨f ed, hq H ρ nx' st⟩
    · cases hl
  | some d =>
    have hil := (List.getElem?_eq_some_iff.mp ed).1
    have hd : ds.drop i = d :: ds.drop (i + 1) := by
      rw [List.drop_eq_getElem_cons hil, (List.getElem?_eq_some_iff.mp ed).2]
    rw [hd] at hl
    unfold compL at hl
    split at hl
    · rename_i ei
      obtain ⟨f, _⟩ := r1 i H ρ S ds (n0.trans nx) st ei
      obtain ⟨go, y⟩ := f d ed
      refine .inr ⟨go, fun H2 => ∃ S2 ρ2, StS H2 S2 ρ2 ∧ Nx (upd H1 p (.lst [])) (ρ1 ++ [p]) H2 ρ2 ∧ Nx H1 (ρ1 ++ [p]) H2 ρ2 ∧ compL src tg tst el S1.length ds (wipeD δ vs) (ds.drop (i + 1)) S2 = some Sf, fun H2 ⟨S2, ρ2, q1, q2, q2', q3⟩ => ⟨_, Nat.sub_lt_sub_left hil (Nat.lt_succ_self i), S2, ρ2, q1, q2, q2', rfl, q3⟩, ?_⟩
      intro x H2 hy
      obtain ⟨n2, st2, rx⟩ := y x H2 hy
      split at hl
      · rename_i δ1 eb
        refine ⟨d, wipeD δ vs, S, ρ, δ1, ⟨st2, env0.mono (nx.trans n2)⟩, rx, eb, fun σ3 I3 o3 => ⟨wipe_off o3 hv, δ1, S, ρ, I3, ?_⟩⟩
        split at hl
        · rename_i S4 et
          rw [et]
          intro b H4 ρ4 n4 st4 rb
          cases rb
          rw [if_pos rfl]
          refine ⟨δ1, S4, ρ4, I3.next n4 st4, ?_⟩
          split at hl
          · rename_i xd S5 ee
            rw [ee]
            intro v H5 ρ5 n5 st5 rv
            split at hl
            · rename_i S6 ea
              unfold appC at ea
              split at ea
              · rename_i acc e5
                split at ea
                · rename_i hacc
                  cases ea
                  have n25 := (n2.trans n4).trans n5
                  have hp5 : ρ5[S1.length]? = some p := n25.at hpρ
                  obtain ⟨ws, h5, rs⟩ := st5.cells S1.length p _ hp5 e5
                  have hm : p ∈ ρ5 := List.mem_of_getElem? hp5
                  have n6 : Nx H5 ρ5 (upd H5 p (.lst (ws ++ [v]))) ρ5 := Nx.set hm (by rw [h5]; simp)
                  refine ⟨ws, h5, by rw [← rs.len]; exact Nat.lt_of_lt_of_le hacc (by decide), _, ρ5, st5.set (c := .lst (acc ++ [xd])) hp5 ⟨ws ++ [v], upd_same, (Reps.mono n6 _ _ rs).append (Reps.one (Rep.mono n6 _ _ rv))⟩, (nx.trans n25).trans n6, (nx'.trans n25).trans n6, hl⟩
                · cases ea
              · cases ea
            · cases hl
          · cases hl
        · rename_i S4 et
          rw [et]
          intro b H4 ρ4 n4 st4 rb
          cases rb
          rw [if_neg Bool.false_ne_true]
          exact ⟨S4, ρ4, st4, (nx.trans n2).trans n4, (nx'.trans n2).trans n4, hl⟩
        · cases hl
      · cases hl
    · cases hl
variable {elt tge iter : Expr} {ifs : List Expr} {scope : Scope} {own : List (Str × Nat)} {pos spos : Pos} {mi : DEnv → Store → Res Src} {tg : Tg} {tst : MB} {el : ME}
theorem endC_run {σ : St} {H1 H' : Hp} {ρ1 ρ' : List Addr} {δ : DEnv} {S1 Sf : Store} {p : Addr} {Q : VK} (I1 : StE σ H1 δ S1 ρ1) (hp : H1 p = none) (h : RunG W Rep σ H1 ρ1 (endC S1 Sf) Q) (n : Nx H1 (ρ1 ++ [p]) H' ρ') (st : StS H' Sf ρ') : Q (.ref p) H' := by
  have hpρ : ρ'[S1.length]? = some p := n.at (by rw [← I1.st.len]; simp)
  have n1 : Nx H1 ρ1 H' ρ' := by
    obtain ⟨t, ht⟩ := n.pre
    refine ⟨⟨[p] ++ t, by rw [ht]; simp⟩, fun a ha na => ?_, n.thr, fun a o ho na t' => ?_, fun a ps ho na => ?_⟩
    · by_cases hap : a = p
      · rw [hap]; exact hp
      · exact n.new a ha (by simp [na, hap])
    · exact n.stay a o ho (by simp [na, ne_of_none ho hp]) t'
    · exact n.tbl a ps ho (by simp [na, ne_of_none ho hp])
  unfold endC at h
  split at h
  · rename_i acc ea
    split at h
    · rename_i hz
      obtain ⟨t, ht⟩ := n1.pre
      subst ht
      obtain ⟨ws, h5, rs⟩ := st.cells S1.length p _ hpρ ea
      have hpn : p ∉ ρ1 := fun z => I1.st.trk z hp
      have hok : okL ρ1.length acc = true := by rw [I1.st.len]; exact hz.2.1
      exact RunG.okN h n1.settle (I1.st.settle st hz.2.2) ⟨p, ws, rfl, h5, hpn, Reps.cut acc ws rs hok⟩
    · exact RunG.okN h n1 st ⟨p, hpρ, rfl⟩
  · exact False.elim h
theorem tE_comp {vs : List Nat} (hv : ∀ j ∈ tg.sl, j ∈ vs) (σ : St) (H : Hp) (Q : VK) (h : tE W (compM mi tg tst el vs) σ H Q) : tLc (tG W ItR mi) (gD tg) (tT W0 tst) (tE W0 el) vs σ H Q := by
  obtain ⟨δ, S, ρ, I, h⟩ := h
  refine bindG I h fun src J S1 H1 ρ1 n1 I1 r1 h1 => fun p hp => ?_
  split at h1
  · rename_i ds eds
    split at h1
    · rename_i Sf ec
      exact tLc_of (mi := mi) hv I1 r1 ec hp fun H' ρ' n st => endC_run (W := W) I1 hp h1 n st
    · exact False.elim h1
  · exact False.elim h1
theorem pd_lc (own : List (Str × Nat)) (hc : X.calm = true) (hN : X.N.Nodup) (hi : PI X tge iter (tG W ItR mi)) (ok : BlkOk X.N X.env.scope scope own) (hv : ∀ j ∈ tg.sl, j ∈ own.map (·.2))
    (hg : ∀ (s : Shared) (H : Hp) (C : Addr) (cl : List (Str × Addr)) (fp : List Addr), PG (X.blk s H scope (compEnvC scope cl C X.env) fp) tge (gD tg)) (ht : ∀ (s : Shared) (H : Hp) (C : Addr) (cl : List (Str × Addr)) (fp : List Addr), PTs (X.blk s H scope (compEnvC scope cl C X.env) fp) ifs (tT W0 tst))
    (he : ∀ (s : Shared) (H : Hp) (C : Addr) (cl : List (Str × Addr)) (fp : List Addr), PE (X.blk s H scope (compEnvC scope cl C X.env) fp) elt (tE W0 el)) (hs : ∀ x, foldedSetIterable iter X.env x = pure x := by intro _; rfl) :
    PE X (.ListComp elt [⟨tge, iter, ifs, 0⟩] scope pos) (tE W (compM mi tg tst el (own.map (·.2)))) := PE.weak (pe_lc hc hN hi ok hg ht he hs) (tE_comp hv)
theorem ps_dsetLc (own : List (Str × Nat)) {i : Nat} {y : Str} {py : Pos} (hc : X.calm = true) (hN : X.N.Nodup) (hy : X.N[i]? = some y) (hyl : X.env.scope.names.lookup y = some .local)
    (hsw : swapsWith (.ListComp elt [⟨tge, iter, ifs, 0⟩] scope pos) (some (.Name y py)) spos.line X.env = pure true) (hi : PI X tge iter (tG W ItR mi)) (ok : BlkOk X.N X.env.scope scope own) (hv : ∀ j ∈ tg.sl, j ∈ own.map (·.2))
    (hg : ∀ (s : Shared) (H : Hp) (C : Addr) (cl : List (Str × Addr)) (fp : List Addr), PG (X.blk s H scope (compEnvC scope cl C X.env) fp) tge (gD tg)) (ht : ∀ (s : Shared) (H : Hp) (C : Addr) (cl : List (Str × Addr)) (fp : List Addr), PTs (X.blk s H scope (compEnvC scope cl C X.env) fp) ifs (tT W0 tst))
    (he : ∀ (s : Shared) (H : Hp) (C : Addr) (cl : List (Str × Addr)) (fp : List Addr), PE (X.blk s H scope (compEnvC scope cl C X.env) fp) elt (tE W0 el)) (hs : ∀ x, foldedSetIterable iter X.env x = pure x := by intro _; rfl) :
    PS X (.Assign [.Name y py] (.ListComp elt [⟨tge, iter, ifs, 0⟩] scope pos) spos) (tS W (asgM i (compM mi tg tst el (own.map (·.2))))) := PS.weak (ps_setLc hc hN hy hyl hsw hi ok hg ht he hs) fun G σ H h => by
  obtain ⟨δ, S, ρ, I, h⟩ := h
  refine tE_comp (W := W) hv σ H _ ?_
  refine bindGF I h fun d v S1 H1 ρ1 n1 I1 r1 h1 => ?_
  exact h1 _ H1 ρ1 (Nx.refl _ _) ⟨I1.st, I1.env.set i r1⟩
end
abbrev RX : Hp → List Addr → Ex → Value × Option Addr → Prop := fun H ρ x p => RepX H ρ x p.1 p.2
abbrev Fn := List D → Store → Res D
def spD (n : Nat) (φ : Fn) : Sp := fun vs H Q E => ∃ ds S ρ, ds.length = n ∧ StS H S ρ ∧ Reps H ρ ds vs ∧ RunG (fun c dd _ H' => E c dd H') Rep [] H ρ (φ ds S) Q
abbrev FnD (P : Program) (w : World) (K : PySem.W.Frag) (mg : Str → Option Value) (base : Heap) (k : Nat) (f : Addr) (fd : FuncData) (ps : List Str) (φ : Fn) : Prop := FnOk P w K mg base (L2.CX P w) k f fd ps (spD ps.length φ)
def allO (f : D → Option D) : List D → Option (List D)
  | [] => some []
  | d :: ds => match f d with
    | some e => match allO f ds with
      | some es => some (e :: es)
      | none => none
    | none => none
def fzN (n : Nat) (S : Store) : Nat → D → Option D
  | 0, d => if okD n d = true then some d else none
  | f + 1, d => if okD n d = true then some d else match d with
    | .loc m => match S[m]? with
      | some (.lst ds) => match allO (fzN n S f) ds with
        | some es => some (.lst es)
        | none => none
      | some (.dct ks ds) => match allO (fzN n S f) ds with
        | some es => some (.dct ks es)
        | none => none
      | some (.obj C ns ds) => match allO (fzN n S f) ds with
        | some es => some (.obj C ns es)
        | none => none
      | _ => none
    | .tup ds => match allO (fzN n S f) ds with
      | some es => some (.tup es)
      | none => none
    | .lst ds => match allO (fzN n S f) ds with
      | some es => some (.lst es)
      | none => none
    | .dct ks ds => match allO (fzN n S f) ds with
      | some es => some (.dct ks es)
      | none => none
    | .obj C ns ds => match allO (fzN n S f) ds with
      | some es => some (.obj C ns es)
      | none => none
    | _ => none
abbrev fz (n : Nat) (S : Store) (d : D) : Option D := fzN n S 8 d
open Classical in
noncomputable def finV (S : Store) (d : D) (S' : Store) : Res D := match fz S.length S' d with
  | some e => if Settles S S' then .ok e (S'.take S.length) else .ok d S'
  | none => .ok d S'
open Classical in
noncomputable def finX (S : Store) (x : Ex) (S' : Store) : Res D := if okL S.length x.ds = true ∧ Settles S S' then .exc x (S'.take S.length) else .exc x S'
noncomputable def finD (S : Store) (r : Flw) : Res D := match r with
  | .nx _ S' => finV S .non S'
  | .rt d S' => finV S d S'
  | .exc x _ S' => finX S x S'
  | _ => .stuck
def startD (n : Nat) (ds : List D) : DEnv := ds.map some ++ List.replicate (n - ds.length) none
noncomputable def defM (n : Nat) (m : MS) : Fn := fun ds S => finD S (m (startD n ds) S)
section
variable {H H' : Hp} {ρ t : List Addr} {S S' : Store} {d e : D} {v : V}
theorem allO_len {f : D → Option D} : ∀ {ds es : List D}, allO f ds = some es → es.length = ds.length
  | [], es, h => by cases h; rfl
  | d :: ds, es, h => by
    simp only [allO] at h
    split at h
    · split at h
      · rename_i es' e2
        cases h
        simp [allO_len e2]
      · cases h
    · cases h
theorem allO_rep {f : D → Option D} (hf : ∀ (d e : D) (v : V), Rep H (ρ ++ t) d v → f d = some e → Rep H ρ e v) : ∀ {ds es : List D} {vs : List V}, Reps H (ρ ++ t) ds vs → allO f ds = some es → Reps H ρ es vs
  | [], es, vs, r, h => by cases h; exact r
  | d :: ds, es, vs, r, h => by
    obtain ⟨v, us, rfl, r1, r2⟩ := r
    simp only [allO] at h
    split at h
    · rename_i e e1
      split at h
      · rename_i es' e2
        cases h
        exact ⟨v, us, rfl, hf _ _ _ r1 e1, allO_rep hf r2 e2⟩
      · cases h
    · cases h
theorem fzN_rep (st : StS H S (ρ ++ t)) : ∀ (f : Nat) (d e : D) (v : V), Rep H (ρ ++ t) d v → fzN ρ.length S f d = some e → Rep H ρ e v
  | 0, d, e, v, r, h => by
    simp only [fzN] at h
    split at h
    · rename_i ho
      cases h
      exact Rep.cut _ _ r ho
    · cases h
  | f + 1, d, e, v, r, h => by
    have ih := fzN_rep st f
    unfold fzN at h
    split at h
    · rename_i ho
      cases h
      exact Rep.cut _ _ r ho
    · rename_i ho
      split at h
      · rename_i m
        obtain ⟨a, ea, rfl⟩ := r
        have hna : a ∉ ρ := fun z => by
          obtain ⟨j, hj, ej⟩ := List.getElem_of_mem z
          have e1 : (ρ ++ t)[j]? = some a := by rw [List.getElem?_append_left hj, List.getElem?_eq_getElem hj, ej]
          have := (List.getElem?_inj (List.getElem?_eq_some_iff.mp e1).1 st.nd).mp (e1.trans ea.symm)
          simp only [okD, decide_eq_true_eq] at ho
          omega
        split at h
        · rename_i ds es
          split at h
          · rename_i es' he
            cases h
            obtain ⟨vs, h1, r1⟩ := st.cells m a _ ea es
            exact ⟨a, vs, rfl, h1, hna, allO_rep ih r1 he⟩
          · cases h
        · rename_i ks ds es
          split at h
          · rename_i es' he
            cases h
            obtain ⟨vs, h1, l, r1⟩ := st.cells m a _ ea es
            exact ⟨a, vs, rfl, .inl h1, hna, by rw [l, allO_len he], allO_rep ih r1 he⟩
          · cases h
        · rename_i C ns ds es
          split at h
          · rename_i es' he
            cases h
            obtain ⟨dx, vs, h1, l, r1⟩ := st.cells m a _ ea es
            exact ⟨a, dx, vs, rfl, h1, hna, by rw [l, allO_len he], allO_rep ih r1 he⟩
          · cases h
        · cases h
      · rename_i ds
        split at h
        · rename_i es he
          cases h
          obtain ⟨a, vs, rfl, h1, na, r1⟩ := r
          exact ⟨a, vs, rfl, h1, fun z => na (List.mem_append_left _ z), allO_rep ih r1 he⟩
        · cases h
      · rename_i ds
        split at h
        · rename_i es he
          cases h
          obtain ⟨a, vs, rfl, h1, na, r1⟩ := r
          exact ⟨a, vs, rfl, h1, fun z => na (List.mem_append_left _ z), allO_rep ih r1 he⟩
        · cases h
      · rename_i ks ds
        split at h
        · rename_i es he
          cases h
          obtain ⟨a, vs, rfl, h1, na, l, r1⟩ := r
          exact ⟨a, vs, rfl, h1, fun z => na (List.mem_append_left _ z), by rw [l, allO_len he], allO_rep ih r1 he⟩
        · cases h
      · rename_i C ns ds
        split at h
        · rename_i es he
          cases h
          obtain ⟨a, dx, vs, rfl, h1, na, l, r1⟩ := r
          exact ⟨a, dx, vs, rfl, h1, fun z => na (List.mem_append_left _ z), by rw [l, allO_len he], allO_rep ih r1 he⟩
        · cases h
      · cases h
theorem fz_rep (st : StS H S (ρ ++ t)) (r : Rep H (ρ ++ t) d v) (h : fz ρ.length S d = some e) : Rep H ρ e v := fzN_rep st 8 d e v r h
theorem finV_run {W : WX} {σ : St} {Q : VK} {H0 : Hp} {ρ' : List Addr} (st0 : StS H0 S ρ) (h : RunG W Rep σ H0 ρ (finV S d S') Q) (n : Nx H0 ρ H' ρ') (st : StS H' S' ρ') (r : Rep H' ρ' d v) : Q v H' := by
  unfold finV at h
  split at h
  · rename_i e he
    split at h
    · rename_i hs
      obtain ⟨t, ht⟩ := n.pre
      subst ht
      rw [← st0.len] at he
      exact RunG.okN h n.settle (st0.settle st hs) (fz_rep st r he)
    · exact RunG.okN h n st r
  · exact RunG.okN h n st r
theorem finX_run {W : WX} {σ : St} {Q : VK} {H0 : Hp} {ρ' : List Addr} {x : Ex} {c : Value} {dd : Option Addr} (st0 : StS H0 S ρ) (h : RunG W Rep σ H0 ρ (finX S x S') Q) (n : Nx H0 ρ H' ρ') (st : StS H' S' ρ') (r : RepX H' ρ' x c dd) : W c dd σ H' := by
  unfold finX at h
  split at h
  · rename_i hs
    obtain ⟨t, ht⟩ := n.pre
    subst ht
    obtain ⟨rc, d, vs, e1, e2, na, l, r1⟩ := r
    exact h c dd H' ρ n.settle (st0.settle st hs.2) ⟨rc, d, vs, e1, e2, fun z => na (List.mem_append_left _ z), l, Reps.cut _ _ r1 (by rw [st0.len]; exact hs.1)⟩
  · exact h c dd H' ρ' n st r
theorem start_env {n : Nat} {N : List Str} {ds : List D} {vs : List V} (hn : N.length = n) (r : Reps H ρ ds vs) : EnvS H ρ (startD n ds) (L2.start N vs) := by
  have hl := r.len
  unfold startD L2.start
  refine ⟨by simp [hn, hl], fun i d e => ?_⟩
  by_cases hi : i < ds.length
  · rw [List.getElem?_append_left (by simpa using hi), List.getElem?_map] at e
    rw [List.getElem?_append_left (by rw [List.length_map, ← hl]; exact hi), List.getElem?_map]
    cases ed : ds[i]? with
    | none => rw [ed] at e; cases e
    | some d' =>
      rw [ed] at e
      cases e
      obtain ⟨v, hv, rv⟩ := Reps.getD r ed
      exact ⟨v, by rw [hv]; rfl, rv⟩
  · rw [List.getElem?_append_right (by simpa using Nat.le_of_not_lt hi), List.getElem?_replicate] at e
    split at e <;> cases e
end
section
variable {P : Program} {w : World} {K : PySem.W.Frag} {mg : Str → Option Value} {base : Heap} {k : Nat} {f : Addr} {fd : FuncData} {x qual : Str} {params : Arguments} {body : List Stmt} {scope : Scope} {dvs : List V} {kws : List (Str × V)} {N ps : List Str} {m : MS}
theorem FnD.mk (F : FunD K x qual params body scope dvs kws f fd) (S : FnScope N ps scope)
    (hb : ∀ (cdv : Value) (A : Around) (outer : List Env) (s : Shared) (H : Hp) (E : XK), Room k (A.deeper (envOfC qual scope s.heap.objs.size f cdv)) →
      PSs (cxOf (L2.CX P w) P w K mg base N qual scope f cdv A outer s H E) body (tS (fun c dd _ H' => E c dd H') m)) : FnD P w K mg base (k + 1) f fd ps (defM N.length m) := by
  refine FunD.ok F S (fun vs H Q E h => ?_) (fun cdv A outer s H vs Q E hr h => ⟨_, hb cdv A outer s H E hr, ?_⟩)
  · obtain ⟨ds, S, ρ, hl, _, r, _⟩ := h
    rw [← r.len, hl]
  · obtain ⟨ds, S0, ρ, hl, st0, r, h⟩ := h
    refine ⟨startD N.length ds, S0, ρ, ⟨st0, start_env rfl r⟩, ?_⟩
    unfold defM at h
    cases e : m (startD N.length ds) S0 with
    | nx δ' S' =>
      rw [e] at h
      exact fun σ' H' ρ' n I => finV_run (v := V.non) (d := D.non) st0 (show RunG _ Rep [] H ρ (finV S0 .non S') Q from h) n I.st rfl
    | rt d S' =>
      rw [e] at h
      exact fun v H' ρ' n st r => finV_run st0 h n st r
    | exc x δ' S' =>
      rw [e] at h
      exact fun c dd σ' H' ρ' n I r => finX_run (W := fun c dd _ H' => E c dd H') st0 h n I.st r
    | bk _ _ => rw [e] at h; exact False.elim h
    | ct _ _ => rw [e] at h; exact False.elim h
    | stuck => rw [e] at h; exact False.elim h
theorem FnD.of {φ ψ : Fn} (F : FnD P w K mg base k f fd ps φ) (h : ∀ ds S, ψ ds S = .stuck ∨ φ ds S = ψ ds S) : FnD P w K mg base k f fd ps ψ := F.imp fun vs H Q E ⟨ds, S, ρ, hl, st, r, q⟩ => by
  refine ⟨ds, S, ρ, hl, st, r, ?_⟩
  rcases h ds S with e | e
  · rw [e] at q; exact False.elim q
  · rw [e]; exact q
end
def appM (n : Nat) (φ : Fn) (ms : MA) (dD : List D) : ME := fun δ S => (ms δ S).bind fun xs S1 => if (xs ++ dD).length = n then φ (xs ++ dD) S1 else .stuck
def TkW (X : Cx) (W : WX) : Prop := ∀ σ, PassesAt (L2.CX X.prog X.w) X σ (fun c d H => W c d σ H)
section
variable {X : Cx} {W : WX} {a b c e o : Expr} {es rest : List Expr} {ma mb mc me mo : ME} {ms : MA} {p pos apos : Pos} {x m : Str} {k n : Nat} {f C : Addr} {fd : FuncData} {ps : List Str} {φ : Fn} {dD : List D} {dvs : List V} {ds : List Value}
theorem tk_of (tk : Takes X W) : TkW X W := fun σ pins H s e s' I c => tk e s' (XE.of_call I (fun cls d H' h => h) c)
theorem tk_no : TkW X W0 := fun σ pins H s e s' I c => by
  obtain ⟨a, B, H', cls, d, _, _, _, _, _, _, _, h⟩ := c
  exact False.elim h
theorem RunG.sig {α β : Type} {R : Hp → List Addr → α → β → Prop} {σ : St} {H : Hp} {ρ : List Addr} {r : Res α} {Q : β → Hp → Prop} (h : RunG W R σ H ρ r Q) : RunG (fun c dd _ H' => W c dd σ H') R [] H ρ r Q := by
  cases r with
  | ok a S => exact h
  | exc x S => exact h
  | stuck => exact h
theorem sp_of {σ : St} {H : Hp} {ρ : List Addr} {S : Store} {xs : List D} {vs : List V} {Q : VK} (st : StS H S ρ) (r : Reps H ρ xs vs) (h : RunG W Rep σ H ρ (if xs.length = n then φ xs S else .stuck) Q) : spD n φ vs H Q (fun c dd H' => W c dd σ H') := by
  split at h
  · rename_i hl
    exact ⟨xs, S, ρ, hl, st, r, h.sig⟩
  · exact False.elim h
theorem pd_callD (F : FnOk X.prog X.w X.K X.mg X.base (L2.CX X.prog X.w) k f fd ps (spD n φ)) (hr : Room k X.A) (hm : X.mg x = some (.ref f)) (hk : PySem.W.keepIn X.K (.ref f) = true) (hb : Binds X.K fd ps ds) (hd : Vals dvs ds) (hD : ∀ H ρ, Reps H ρ dD dvs) (tk : TkW X W)
    (ha : PA X (e :: es) (tA W ms)) (hg : Gl X x := by rfl) (hdb : (x == ("__debug__" : Str)) = false := by decide) (he : starEach (e :: es) X.env = (false, eval e X.env) :: starEach es X.env := by rfl) (hpl : (backTo pos (starEach es X.env)).any (·.1) = false := by rfl) :
    PE X (.Call (.Name x p) (e :: es) [] pos) (tE W (appM n φ ms dD)) := PE.weak (pe_callSD F hr hg hm hk hb hd tk ha hdb he hpl) fun σ H Q h => by
  obtain ⟨δ, S, ρ, I, h⟩ := h
  refine bindG I h fun xs vs S1 H1 ρ1 n1 I1 r1 h1 => ?_
  exact sp_of I1.st (r1.append (hD _ _)) h1
theorem pd_call (F : FnOk X.prog X.w X.K X.mg X.base (L2.CX X.prog X.w) k f fd ps (spD n φ)) (hr : Room k X.A) (hm : X.mg x = some (.ref f)) (hk : PySem.W.keepIn X.K (.ref f) = true) (hb : Binds X.K fd ps []) (tk : TkW X W)
    (ha : PA X (e :: es) (tA W ms)) (hg : Gl X x := by rfl) (hdb : (x == ("__debug__" : Str)) = false := by decide) (he : starEach (e :: es) X.env = (false, eval e X.env) :: starEach es X.env := by rfl) (hpl : (backTo pos (starEach es X.env)).any (·.1) = false := by rfl) :
    PE X (.Call (.Name x p) (e :: es) [] pos) (tE W (appM n φ ms [])) := pd_callD F hr hm hk hb .nil (fun _ _ => Reps.nil) tk ha hg hdb he hpl
theorem pd_call0 (F : FnOk X.prog X.w X.K X.mg X.base (L2.CX X.prog X.w) k f fd ps (spD n φ)) (hr : Room k X.A) (hm : X.mg x = some (.ref f)) (hk : PySem.W.keepIn X.K (.ref f) = true) (hb : Binds X.K fd ps []) (tk : TkW X W)
    (hg : Gl X x := by rfl) (hdb : (x == ("__debug__" : Str)) = false := by decide) : PE X (.Call (.Name x p) [] [] pos) (tE W (appM n φ nilM [])) := by
  refine ⟨fun pins s σ H Q I h => ?_⟩
  refine wpAny_Call_Name_kw (ld_glob I hg hm ?_ hdb)
  refine PySem.W.callWith_K0 I.kIn hk (run_fnSD (E := fun σ c d H => W c d σ H) (us := []) (vs := []) (dvs := []) F hr hb .nil (tk σ) I .nil ?_)
  obtain ⟨δ, S, ρ, I', h⟩ := h
  exact sp_of (xs := []) I'.st Reps.nil h
def asO (S : Store) : D → Option (Addr × List Str × List D)
  | .obj C ns ds => some (C, ns, ds)
  | .loc n => match S[n]? with
    | some (.obj C ns ds) => some (C, ns, ds)
    | _ => none
  | _ => none
def lookS {α : Type} : List Str → List α → Str → Option α
  | k :: ks, d :: ds, q => if q = k then some d else lookS ks ds q
  | _, _, _ => none
theorem lookup_zip {α : Type} : ∀ {ns : List Str} {vs : List α} {q : Str}, (ns.zip vs).lookup q = lookS ns vs q
  | [], _, _ => by simp [lookS]
  | _ :: _, [], _ => by simp [lookS]
  | n :: ns, v :: vs, q => by
    rw [List.zip_cons_cons, List.lookup_cons, lookS]
    by_cases h : q = n
    · rw [if_pos h]
      simp [h]
    · rw [if_neg h]
      have : (q == n) = false := by simpa using h
      rw [this]
      exact lookup_zip
theorem lookS_rep {H : Hp} {ρ : List Addr} : ∀ {ns : List Str} {ds : List D} {vs : List V} {q : Str} {d : D}, Reps H ρ ds vs → lookS ns ds q = some d → ∃ v, lookS ns vs q = some v ∧ Rep H ρ d v
  | [], _, _, _, _, _, h => by cases h
  | _ :: _, [], _, _, _, _, h => by cases h
  | n :: ns, d' :: ds, vs, q, d, r, h => by
    obtain ⟨v, us, rfl, h1, h2⟩ := r
    simp only [lookS] at h ⊢
    split at h
    · rename_i e
      cases h
      exact ⟨v, by rw [if_pos e], h1⟩
    · rename_i e
      rw [if_neg e]
      exact lookS_rep h2 h
open Classical in
/-- e.f, e of the class at C -/
noncomputable def fldM (C : Addr) (fl : Str) (mo : ME) : ME := fun δ S => (mo δ S).bind fun x S1 => match asO S1 x with
  | some (C', ns, ds) => if C' = C then RO (lookS ns ds fl) S1 else .stuck
  | none => .stuck
end
section
variable {K : PySem.W.Frag} {x qual : Str} {params : Arguments} {body : List Stmt} {scope : Scope} {dvs : List V} {kws : List (Str × V)} {f : Addr} {fd : FuncData} {ps : List Str}
end
section
variable {X : Cx} {W : WX} {a b c e o i : Expr} {es rest : List Expr} {ma mb mc me mo mi : ME} {ms mk : MA} {p pos apos pos' tpos : Pos} {x m : Str} {k n j : Nat} {f C : Addr} {fd : FuncData} {ps ks : List Str} {φ : Fn} {dD : List D} {dvs : List V} {ds : List Value} {kws : List Keyword}
theorem PK.weak {kws : List Keyword} {t t' : TA} (h : PK X kws t) (hw : ∀ σ H Q, t' σ H Q → t σ H Q) : PK X kws t' := ⟨fun p pins s σ H Q I q => h.run p pins s σ H Q I (hw _ _ _ q)⟩
theorem pk_dnil : PK X [] (tA W nilM) := PK.weak pk_nil fun σ H Q h => by
  obtain ⟨δ, S, ρ, I, h⟩ := h
  exact RunG.ok h I.st Reps.nil
theorem pk_dcons {nm : Option Str} {kpos : Pos} (ha : PE X e (tE W me)) (hr : PK X kws (tA W ms)) : PK X (⟨nm, e, kpos⟩ :: kws) (tA W (consM me ms)) := PK.weak (pk_cons ha hr) fun σ H Q h => by
  obtain ⟨δ, S, ρ, I, h⟩ := h
  refine bindG I h fun x v S1 H1 ρ1 n1 I1 r1 h1 => ?_
  refine bindG I1 h1 fun xs vs S2 H2 ρ2 n2 I2 r2 h2 => ?_
  exact RunG.ok h2 I2.st (Reps.cons (Rep.mono n2 _ _ r1) r2)
theorem run_fnKS {pins : List (Addr × Obj)} {σ : St} {H : Hp} {s : Shared} {Q : VK} {us ws : List Value} {vs zs : List V} {sp : Sp} {E : St → XK} {CX : CXT} {g : List Value → List Value → List Value} {gV : List V → List V → List V} (F : FnOk X.prog X.w X.K X.mg X.base CX k f fd ps sp) (hr : Room k X.A) (hb : KBn X.K fd ps n ks g gV) (hx : PassesAt CX X σ (E σ))
    (I : Inv X pins σ H s) (r : Vals vs us) (rz : Vals zs ws) (l1 : vs.length = n) (l2 : zs.length = ks.length) (h : sp (gV vs zs) H Q (E σ)) : wpAny (model X.prog X.w) X.A (call (.ref f) us (ks.zip ws)) (EP X pins σ Q) X.xe s := by
  have r2 := hb.rel r rz
  refine wpAny_call (codeAny_mono (F.run X.A X.stack s H ⟨us, ks.zip ws⟩ (g us ws) (gV vs zs) Q (E σ) hr I.env0 (hb.to s us ws I.kIn (r.length.symm.trans l1) (rz.length.symm.trans l2)) r2 h) fun r s' hq => ?_)
  cases r with
  | error e => exact hx pins H s e s' I hq
  | ok fl =>
    cases fl with
    | ret u => exact I.after hq
    | next => exact False.elim hq
    | brk => exact False.elim hq
    | cont => exact False.elim hq
structure GRel (gD : List D → List D → List D) (gV : List V → List V → List V) : Prop where
  rel : ∀ {H : Hp} {ρ : List Addr} {ds es : List D} {vs zs : List V}, Reps H ρ ds vs → Reps H ρ es zs → Reps H ρ (gD ds es) (gV vs zs)
def appN (n j : Nat) (q : Nat) (φ : Fn) (gD : List D → List D → List D) (ms mk : MA) : ME := fun δ S => (ms δ S).bind fun xs S1 => (mk δ S1).bind fun zs S2 => if xs.length = n ∧ zs.length = j then (if (gD xs zs).length = q then φ (gD xs zs) S2 else .stuck) else .stuck
open Classical in
noncomputable def selfM (C : Addr) (m : Str) (mo : ME) (kk : D → Store → Res D) (δ : DEnv) (S : Store) : Res D := (mo δ S).bind fun x S1 => match asO S1 x with
  | some (C', ns, ds) => if C' = C ∧ lookS ns ds m = none then kk x S1 else .stuck
  | none => .stuck
noncomputable def methM (C : Addr) (m : Str) (n : Nat) (φ : Fn) (mo : ME) (ms : MA) (dD : List D) : ME := fun δ S => selfM C m mo (fun x S1 => (ms δ S1).bind fun xs S2 => if (x :: (xs ++ dD)).length = n then φ (x :: (xs ++ dD)) S2 else .stuck) δ S
end
section
variable {X : Cx} {W : WX} {a b c e o i value : Expr} {es rest : List Expr} {ma mb mc me mo mi mv : ME} {ms mk : MA} {p pos apos pos' tpos : Pos} {x m : Str} {k n j : Nat} {f C : Addr} {fd : FuncData} {ps ks : List Str} {φ : Fn} {dD : List D} {dvs : List V} {ds : List Value} {kws : List Keyword}
noncomputable def freezeM (me : ME) : ME := fun δ S => (me δ S).bind fun d S2 => finV S d S2
def locL (S : Store) : D → Option (Nat × List D)
  | .loc n => match S[n]? with
    | some (.lst ds) => some (n, ds)
    | _ => none
  | _ => none
theorem locL_rep {H : Hp} {ρ : List Addr} {S : Store} {d : D} {v : V} {n : Nat} {ds : List D} (st : StS H S ρ) (r : Rep H ρ d v) (h : locL S d = some (n, ds)) : d = .loc n ∧ S[n]? = some (.lst ds) ∧ ∃ a vs, v = .ref a ∧ ρ[n]? = some a ∧ H a = some (.lst vs) ∧ Reps H ρ ds vs := by
  cases d with
  | loc m =>
    simp only [locL] at h
    split at h
    · rename_i es e
      cases h
      obtain ⟨a, ea, rfl⟩ := r
      obtain ⟨vs, h1, r1⟩ := st.cells _ a _ ea e
      exact ⟨rfl, e, a, vs, rfl, ea, h1, r1⟩
    · cases h
  | _ => cases h
def lmM (g : List D → List D → Option (D × List D)) (mo : ME) (ms : MA) : ME := fun δ S => (mo δ S).bind fun x S1 => match locL S1 x with
  | some _ => (ms δ S1).bind fun xs S2 => match locL S2 x with
    | some (n, ds) => match g ds xs with
      | some (d, es) => .ok d (S2.set n (.lst es))
      | none => .stuck
    | none => .stuck
  | none => .stuck
def LmSnd (r : V → List V → Hp → VK → Prop) (g : List D → List D → Option (D × List D)) : Prop := ∀ (H : Hp) (ρ : List Addr) (ds xs : List D) (d : D) (es : List D) (aa : Addr) (vs us : List V) (Q : VK), H aa = some (.lst vs) → Reps H ρ ds vs → Reps H ρ xs us → g ds xs = some (d, es) →
  (∀ v ws, Rep H ρ d v → Reps H ρ es ws → Q v (upd H aa (.lst ws))) → r (.ref aa) us H Q
theorem lm_run {r : V → List V → Hp → VK → Prop} {g : List D → List D → Option (D × List D)} (s : LmSnd r g) {σ : St} {H : Hp} {ρ : List Addr} {S2 : Store} {x : D} {v : V} {xs : List D} {us : List V} {Q : VK} {n : Nat} {ds : List D} (st : StS H S2 ρ) (rx : Rep H ρ x v) (ru : Reps H ρ xs us) (e : locL S2 x = some (n, ds))
    (h : RunG W Rep σ H ρ (match g ds xs with | some (d, es) => Res.ok d (S2.set n (.lst es)) | none => .stuck) Q) : r v us H Q := by
  obtain ⟨rfl, ec, aa, vs, rfl, ea, hH, rv⟩ := locL_rep st rx e
  split at h
  · rename_i d es eg
    refine s H ρ ds xs d es aa vs us Q hH rv ru eg fun w ws rw' rws => ?_
    have hm : aa ∈ ρ := List.mem_of_getElem? ea
    have nx : Nx H ρ (upd H aa (.lst ws)) ρ := Nx.set hm (by rw [hH]; simp)
    exact RunG.okN h nx (st.set ea ⟨ws, upd_same, Reps.mono nx _ _ rws⟩) (Rep.mono nx _ _ rw')
  · exact False.elim h
theorem pd_lm {name : Str} {id : String} {r : V → List V → Hp → VK → Prop} {g : List D → List D → Option (D × List D)} (slot : Slot "list" name id) (hty : typeOf (.builtin id) = pure (.type "method_descriptor")) (hm : MtR X id r) (s : LmSnd r g) (ho : PE X o (tE W mo)) (ha : PA X (e :: es) (tA W ms))
    (hbase : attributeBase o name X.env (eval o X.env) = eval o X.env := by rfl)
    (hfew : ((backTo pos (starEach (e :: es) X.env)).all (fun x => !x.1) && (backToKw pos (keywordEach [] X.env)).all (fun x => x.1.isSome)
      && decide ((e :: es).length + ([] : List Keyword).length + (if ([] : List Keyword).isEmpty then 0 else 1) < 30)) = true := by rfl)
    (hline : (apos.endLine == pos.line) = true := by rfl) (hs : starEach (e :: es) X.env = (false, eval e X.env) :: starEach es X.env := by rfl) (hplain : (backTo pos (starEach es X.env)).any (·.1) = false := by rfl) :
    PE X (.Call (.Attribute o name apos) (e :: es) [] pos) (tE W (lmM g mo ms)) := by
  refine PE.weak (pe_bm PySem.F.plainAttrs_list slot hty hm ho ha hbase hfew hline hs hplain) fun σ H Q h => ?_
  obtain ⟨δ, S, ρ, I, h⟩ := h
  refine bindG I h fun x v S1 H1 ρ1 n1 I1 r1 h1 => ?_
  split at h1
  · rename_i q eq
    obtain ⟨n0, ds0⟩ := q
    obtain ⟨rfl, ec, aa, vs, rfl, ea, hH, rv⟩ := locL_rep I1.st r1 eq
    refine ⟨.inl ⟨rfl, vs, .inl (.inl hH)⟩, ?_⟩
    refine bindG I1 h1 fun xs us S2 H2 ρ2 n2 I2 r2 h2 => ?_
    split at h2
    · rename_i n ds e2
      exact lm_run (W := W) s I2.st (Rep.mono n2 _ _ r1) r2 e2 h2
    · exact False.elim h2
  · exact False.elim h1
def appendG (ds xs : List D) : Option (D × List D) := match xs with
  | [x] => if ds.length < 1000000 then some (.non, ds ++ [x]) else none
  | _ => none
theorem snd_append : LmSnd rAppend appendG := by
  intro H ρ ds xs d es aa vs us Q hH r ru e k
  unfold appendG at e
  split at e
  · rename_i x
    split at e
    · rename_i hl
      cases e
      obtain ⟨v, ws, rfl, rx, rw'⟩ := ru
      cases rw'
      exact ⟨aa, vs, v, rfl, rfl, hH, by rw [← r.len]; exact Nat.lt_of_lt_of_le hl (by decide), k .non (vs ++ [v]) rfl (r.append (Reps.one rx))⟩
    · cases e
  · cases e
theorem Reps.dropLast {H : Hp} {ρ : List Addr} {ds : List D} {vs : List V} (r : Reps H ρ ds vs) : Reps H ρ ds.dropLast vs.dropLast := by
  rw [List.dropLast_eq_take, List.dropLast_eq_take, r.len]
  exact r.take _
def setG (ds : List D) (i d : D) : Option (List D) := match i with
  | .int k => match ixN ds.length k with
    | some j => some (ds.set j d)
    | none => none
  | _ => none
def setIM (mo mi mv : ME) : MS := fun δ S => bindS (mv δ S) δ fun d S1 => bindS (mo δ S1) δ fun x S2 => bindS (mi δ S2) δ fun y S3 => match locL S3 x with
  | some (n, ds) => match setG ds y d with
    | some es => .nx δ (S3.set n (.lst es))
    | none => .stuck
  | none => .stuck
theorem ps_dseti (ho : PE X o (tE W mo)) (hi : PE X i (tE W mi)) (hv : PE X value (tE W mv))
    (ha : ∀ v, assign (.Subscript o i pos') X.env v = (do
      let ov ← holding [v] (eval o X.env)
      let iv ← holding [v, ov] (eval i X.env)
      standAt pos'
      holding [v, ov, iv] (setItem ov iv v)
      release [v, ov, iv] []) := by intro _; rfl) (hs : swapsWithSole [.Subscript o i pos'] value pos.line X.env = pure false := by rfl) (hw : swappedStores [.Subscript o i pos'] value X.env = pure none := by rfl)
    (h1 : (assignEach [.Subscript o i pos'] X.env).map (·.2) = [assign (.Subscript o i pos') X.env] := by rfl) : PS X (.Assign [.Subscript o i pos'] value pos) (tS W (setIM mo mi mv)) :=
  PS.weak (ps_asg hv (pg_sub ho hi set_list ha) hs hw h1) fun G σ H h => by
    obtain ⟨δ, S, ρ, I, h⟩ := h
    refine bindGF I h fun d v S1 H1 ρ1 n1 I1 r1 h1 => ?_
    refine bindGF I1 h1 fun x u S2 H2 ρ2 n2 I2 r2 h2 => ?_
    refine bindGF I2 h2 fun y w S3 H3 ρ3 n3 I3 r3 h3 => ?_
    split at h3
    · rename_i n ds el
      obtain ⟨rfl, ec, aa, vs, rfl, ea, hH, rv⟩ := locL_rep I3.st (Rep.mono n3 _ _ r2) el
      unfold setG at h3
      split at h3
      · rename_i es eg
        split at eg
        · rename_i kk
          split at eg
          · rename_i jj ej
            cases eg
            cases r3
            have hm : aa ∈ ρ3 := List.mem_of_getElem? ea
            have rd := Rep.mono (n2.trans n3) _ _ r1
            have rs := Reps.set jj rv rd
            have nx : Nx H3 ρ3 (upd H3 aa (.lst (vs.set jj v))) ρ3 := Nx.set hm (by rw [hH]; simp)
            have st3 := I3.st.set (o := .lst (vs.set jj v)) (c := .lst (ds.set jj d)) ea ⟨_, upd_same, Reps.mono nx _ _ rs⟩
            exact ⟨aa, vs, kk, jj, rfl, rfl, hH, by rw [← rv.len]; exact ej, h3 σ _ ρ3 nx ⟨st3, I3.env.mono nx⟩⟩
          · cases eg
        · cases eg
      · exact False.elim h3
    · exact False.elim h3
end
section
variable {X : Cx} {CX : CXT} {k : Nat} {f K0 : Addr} {fd : FuncData} {ps : List Str} {sp : Sp} {E : St → XK} {x m : Str} {p p2 pos : Pos} {e : Expr} {es : List Expr} {ta : TE} {t : TA}
theorem pe_clsfn {pl : Sem Bool} (F : FnOk X.prog X.w X.K X.mg X.base CX k f fd ps sp) (hr : Room k X.A) (hm : X.mg x = some (.ref K0)) (r : ClX.CRead X.K K0 (.type "type")) (cv : ClX.CVal X.K K0 (.type "type") m (.ref f) (.ref f)) (hk : PySem.W.keepIn X.K (.ref f) = true) (hb : Binds X.K fd ps []) (hx : ∀ σ, PassesAt CX X σ (E σ))
    (ha : PA X (e :: es) t) (hg : Gl X x := by rfl) (hdb : (x == ("__debug__" : Str)) = false := by decide)
    (he : starEach (e :: es) X.env = (false, eval e X.env) :: starEach es X.env := by rfl) (hpl : (backTo pos (starEach es X.env)).any (·.1) = false := by rfl)
    (hc : eval (.Call (.Attribute (.Name x p) m p2) (e :: es) [] pos) X.env = (do
      let ov ← eval (.Name x p) X.env
      standAt p2.atName
      let (f, first) ← holding [ov] (getMethod ov m pl)
      callWith pos f first (backTo pos (starEach (e :: es) X.env)) (backToKw pos (keywordEach [] X.env))) := by rfl) :
    PE X (.Call (.Attribute (.Name x p) m p2) (e :: es) [] pos) (tCallS sp E t) := by
  refine ⟨fun pins s σ H Q I h => ?_⟩
  refine PySem.W.methodCall_KW (ld_glob I hg hm ?_ hdb) hc
  refine PySem.W.method_cls I.kIn r.ga (ClX.getcval_ok I r cv fun s1 I1 => ?_)
  refine PySem.W.callWith_K (h₀ := X.base) (first := []) I1.ok.mod.kin hk (thn (ha.run pos pins s1 σ H _ I1 h) fun us s2 ⟨vs, H1, I2, r1, q⟩ => ⟨I2.kIn, ?_⟩) he hpl
  exact run_fnS F hr hb (hx σ) I2 r1 q
end
def spI (K : PySem.W.Frag) (n : Nat) (fs : List Str) (g : List V → List V) : Sp := fun vs H Q E => ∃ a C ws, vs = .ref a :: ws ∧ ws.length = n ∧ OexC K C ∧ (∀ f ∈ fs, PySem.W.findIn K (.ref C) f = some none) ∧ H a = some (exo a C none) ∧
  ∀ dx, H dx = none → dx ≠ a → Q .non (upd (upd H dx (exd dx (fs.zip (g ws)))) a (exo a C (some dx)))
abbrev E00 : St → XK := fun _ _ _ _ => False
theorem passNo {P : Program} {w : World} {X : Cx} (σ : St) : PassesAt (L2.CX P w) X σ (E00 σ) := fun pins H s e s' I c => by
  obtain ⟨a, B, H', cls, d, _, _, _, _, _, _, _, h⟩ := c
  exact False.elim h
theorem passNoC {P : Program} {w : World} {X : Cx} : Passes (L2.CX P w) X (fun _ _ _ => False) := fun pins σ H s e s' I c => by
  obtain ⟨a, B, H', cls, d, _, _, _, _, _, _, _, h⟩ := c
  exact False.elim h
theorem upd_old {H : Hp} {a dx : Addr} {C : Addr} {fs gs : List (Str × V)} (h : dx ≠ a) : upd (upd (upd H dx (exd dx fs)) a (exo a C (some dx))) dx (exd dx gs) = upd (upd H dx (exd dx gs)) a (exo a C (some dx)) := by
  funext b
  by_cases hb : b = dx
  · subst hb
    rw [upd_same, upd_ne h, upd_same]
  · rw [upd_ne hb]
    by_cases hba : b = a
    · subst hba
      rw [upd_same, upd_same]
    · rw [upd_ne hba, upd_ne hb, upd_ne hba, upd_ne hb]
theorem upd_ob {H : Hp} {a dx : Addr} {o u : HO} (h : dx ≠ a) : (upd (upd H dx o) a u) a = some u ∧ (upd (upd H dx o) a u) dx = some o := ⟨upd_same, by rw [upd_ne h, upd_same]⟩
section
variable {P : Program} {w : World} {K : PySem.W.Frag} {mg : Str → Option Value} {base : Heap} {k n : Nat} {f : Addr} {fd : FuncData} {x qual : Str} {params : Arguments} {body : List Stmt} {scope : Scope} {dvs : List V} {kws : List (Str × V)} {N ps fs : List Str} {g : List V → List V} {t : TS}
theorem init_of (F : FunD K x qual params body scope dvs kws f fd) (S : FnScope N ps scope) (hn : ps.length = n + 1)
    (hb : ∀ (cdv : Value) (A : Around) (outer : List Env) (s : Shared) (H : Hp) (E : XK), Room k (A.deeper (envOfC qual scope s.heap.objs.size f cdv)) → PSs (cxOf (L2.CX P w) P w K mg base N qual scope f cdv A outer s H E) body t)
    (ht : ∀ vs H Q E, spI K n fs g vs H Q E → t { nx := fun _ H' => Q .non H', rt := Q } (L2.start N vs) H) : FnOk P w K mg base (L2.CX P w) (k + 1) f fd ps (spI K n fs g) :=
  FunD.ok F S (fun vs H Q E h => by
    obtain ⟨a, C, ws, rfl, hl, _⟩ := h
    simp [hl, hn]) (fun cdv A outer s H vs Q E hr h => ⟨t, hb cdv A outer s H E hr, ht vs H Q E h⟩)
end
section
variable {K : PySem.W.Frag} {fs0 : List Str} {g0 : List V → List V} {fl f1 f2 : Str} {vs : List V} {H : Hp} {Q : VK} {E : XK} {c : Str} {s1 s2 s3 : Str}
theorem shapeR (h : spI K 1 [fl] (fun ws => ws) vs H Q E) : tSeq (tDrop (tVeI K (tCons (tVar 0) (tCons (tVar 1) tNil)))) (tOst K fl (tVar 0) (tVar 1)) { nx := fun _ H' => Q .non H', rt := Q } (L2.start [s1, s2] vs) H := by
  obtain ⟨a, C, ws, rfl, hl, T, hf, ha, q⟩ := h
  match ws, hl with
  | [w], _ =>
    refine ⟨_, rfl, _, rfl, a, C, [w], rfl, by simp, T, ha, ?_⟩
    exact ⟨_, rfl, _, rfl, a, C, rfl, T, hf fl (by simp), .inl ⟨ha, fun dx h1 h2 => q dx h1 h2⟩⟩
theorem shape0 (h : spI K 0 fs0 (fun _ => g0 [.str c]) vs H Q E) : tDrop (tCallS (spI K 1 fs0 g0) E00 (tCons (tVar 0) (tCons (tC (.str c)) tNil))) { nx := fun _ H' => Q .non H', rt := Q } (L2.start [s1] vs) H := by
  obtain ⟨a, C, ws, rfl, hl, T, hf, ha, q⟩ := h
  match ws, hl with
  | [], _ =>
    refine ⟨_, rfl, a, C, [.str c], rfl, rfl, T, hf, ha, fun dx h1 h2 => q dx h1 h2⟩
theorem shape1 (h : spI K 1 (f1 :: fs0) (fun ws => ws ++ g0 [.str c]) vs H Q E) (hlen : fs0.length ≤ 900) : tSeq (tDrop (tCallS (spI K 1 fs0 g0) E00 (tCons (tVar 0) (tCons (tC (.str c)) tNil)))) (tOst K f1 (tVar 0) (tVar 1)) { nx := fun _ H' => Q .non H', rt := Q } (L2.start [s1, s2] vs) H := by
  obtain ⟨a, C, ws, rfl, hl, T, hf, ha, q⟩ := h
  match ws, hl with
  | [w], _ =>
    refine ⟨_, rfl, a, C, [.str c], rfl, rfl, T, fun f hm => hf f (List.mem_cons_of_mem _ hm), ha, fun dx h1 h2 => ?_⟩
    obtain ⟨e1, e2⟩ := upd_ob (H := H) (o := exd dx (fs0.zip (g0 [.str c]))) (u := exo a C (some dx)) h2
    refine ⟨_, rfl, _, rfl, a, C, rfl, T, hf f1 (by simp), .inr ⟨dx, _, e1, e2, by rw [List.length_zip]; omega, ?_⟩⟩
    rw [upd_old h2]
    exact q dx h1 h2
end
def PMD (X : Cx) (W : WX) (e : Expr) (mx : DEnv → Store → Res Ex) : Prop := PMk X e (fun σ H Q => ∃ δ S ρ, StE σ H δ S ρ ∧ RunG W RX σ H ρ (mx δ S) (fun p H' => Q p.1 p.2 H'))
def mkxM (C : Addr) (n : Nat) (fs : List Str) (gd : List D → List D) (ms : MA) : DEnv → Store → Res Ex := fun δ S => (ms δ S).bind fun xs S1 => if xs.length = n ∧ (gd xs).length = fs.length then .ok ⟨C, fs, gd xs⟩ S1 else .stuck
structure GRX (gd : List D → List D) (g : List V → List V) : Prop where
  rel : ∀ {H : Hp} {ρ : List Addr} {ds : List D} {vs : List V}, Reps H ρ ds vs → Reps H ρ (gd ds) (g vs)
theorem del_upd {H : Hp} {a d C : Addr} {o u z : HO} (h : d ≠ a) (ha : H a = none) : upd (L2.del (upd (upd (upd H a z) d o) a u) a) d (.xd fs) = upd H d (.xd fs) := by
  funext b
  by_cases hb : b = d
  · subst hb
    rw [upd_same, upd_same]
  · rw [upd_ne hb, upd_ne hb]
    by_cases hba : b = a
    · subst hba
      rw [del_same, ha]
    · rw [del_ne hba, upd_ne hba, upd_ne hb, upd_ne hba]
section
variable {X : Cx} {W : WX} {k n : Nat} {fI C : Addr} {fd : FuncData} {ps fs : List Str} {g : List V → List V} {gd : List D → List D} {x : Str} {p pos : Pos} {e : Expr} {es : List Expr} {ms : MA} {mx : DEnv → Store → Res Ex}
structure OexI (K : PySem.W.Frag) (C fI : Addr) (fd : FuncData) (ps fs : List Str) : Prop where
  T : OexC K C
  iC : PySem.W.findIn K (.ref C) "__init__" = some (some (.ref fI))
  tI : PySem.W.typeIn K (.ref fI) = some (.type "function")
  hb : Binds K fd ps []
  hf : ∀ f ∈ fs, PySem.W.findIn K (.ref C) f = some none
theorem mk_sem (J : OexI X.K C fI fd ps fs) (gr : GRX gd g) {σ : St} {H1 : Hp} {ρ1 : List Addr} {S1 : Store} {xs : List D} {vs : List V} {Q : XK} (st : StS H1 S1 ρ1) (r : Reps H1 ρ1 xs vs) (hn : n ≤ 1000)
    (h : RunG W RX σ H1 ρ1 (if xs.length = n ∧ (gd xs).length = fs.length then Res.ok (⟨C, fs, gd xs⟩ : Ex) S1 else .stuck) (fun p H' => Q p.1 p.2 H')) :
    vs.length ≤ 1000 ∧ ∀ a, H1 a = none → spI X.K n fs g (.ref a :: (vs ++ [])) (upd H1 a (exo a C none)) (fun v H2 => v = .non ∧ ∃ (d : Addr) (gs : List (Str × V)), H2 a = some (exo a C (some d)) ∧ H2 d = some (exd d gs) ∧ H1 d = none ∧ Q (.ref C) (some d) (upd (L2.del H2 a) d (.xd gs))) (fun _ _ _ => False) := by
  split at h
  · rename_i hl
    have e := r.len
    refine ⟨by omega, fun a ha => ⟨a, C, _, rfl, by simp only [List.append_nil]; omega, J.T, J.hf, upd_same, fun dx h1 h2 => ⟨rfl, dx, _, upd_same, by rw [upd_ne h2, upd_same], by rw [upd_ne h2] at h1; exact h1, ?_⟩⟩⟩
    rw [upd_ne h2] at h1
    rw [del_upd (C := C) h2 ha, List.append_nil]
    have nx : Nx H1 ρ1 (upd H1 dx (.xd (fs.zip (g vs)))) ρ1 := Nx.alloc h1
    exact h (.ref C, some dx) _ ρ1 nx (st.alloc h1) ⟨rfl, dx, g vs, rfl, upd_same, fun z => st.trk z h1, hl.2.symm, Reps.mono nx _ _ (gr.rel r)⟩
  · exact False.elim h
theorem pmd_mk (J : OexI X.K C fI fd ps fs) (gr : GRX gd g) (F1 : FnOk X.prog X.w X.K X.mg X.base (L2.CX X.prog X.w) k fI fd ps (spI X.K n fs g)) (hr : Room (k + 1) X.A) (hm : X.mg x = some (.ref C)) (ha : PA X (e :: es) (tA W ms)) (hn : n ≤ 1000 := by decide) (hg : Gl X x := by rfl)
    (hdb : (x == ("__debug__" : Str)) = false := by decide) (he : starEach (e :: es) X.env = (false, eval e X.env) :: starEach es X.env := by rfl) (hpl : (backTo pos (starEach es X.env)).any (·.1) = false := by rfl) :
    PMD X W (.Call (.Name x p) (e :: es) [] pos) (mkxM C n fs gd ms) := by
  intro pins s σ H Q I h
  refine pmk_oex J.T J.iC J.tI F1 hr J.hb .nil passNoC hg hm ha hdb he hpl pins s σ H Q I ?_
  obtain ⟨δ, S, ρ, I', h⟩ := h
  refine bindG (R2 := RX) I' h fun xs vs S1 H1 ρ1 n1 I1 r1 h1 => ?_
  exact mk_sem J gr I1.st r1 hn h1
theorem pmk_oex0 {CX : CXT} {sp : Sp} {ds : List Value} {dvs : List V} (T : OexC X.K C) (iC : PySem.W.findIn X.K (.ref C) "__init__" = some (some (.ref fI))) (tI : PySem.W.typeIn X.K (.ref fI) = some (.type "function"))
    (F1 : FnOk X.prog X.w X.K X.mg X.base CX k fI fd ps sp) (hr : Room (k + 1) X.A) (hb : Binds X.K fd ps ds) (hd : Vals dvs ds) (hx : Passes CX X (fun _ _ _ => False)) (hg : Gl X x) (hm : X.mg x = some (.ref C))
    (hdb : (x == ("__debug__" : Str)) = false := by decide) :
    PMk X (.Call (.Name x p) [] [] pos) (tMkO C sp dvs tNil) := by
  intro pins s σ H Q I h
  obtain ⟨nm, q, N, bs, bm, sn, sub, ab, col, dd, k0, k1, k2, k3, k5, hC, hbm⟩ := T.cls
  refine wpAny_Call_Name_kw (ld_glob I hg hm ?_ hdb)
  refine PySem.W.callWith_K0 I.kIn T.kC ?_
  obtain ⟨hz, q1⟩ := h
  show wpAny _ _ (call (.ref C) []) _ _ _
  obtain ⟨hp, g, dr, tk, os⟩ := s
  have hsz : hp.objs.size ≤ hp.objs.size + 1 := Nat.le_succ _
  have hn : H (hp.objs.size + 1) = none := I.hok.fresh hsz
  have hq := q1 (hp.objs.size + 1) hn
  have kk : ∀ b o, hp.get? b = some o → ((hp.push (PySem.W.kdv_tup [])).push (PySem.HandSPX.excO C hp.objs.size)).get? b = some o := fun b o e => Heap.get?_push_of_some _ (Heap.get?_push_of_some _ e)
  have hget : ((hp.push (PySem.W.kdv_tup [])).push (PySem.HandSPX.excO C hp.objs.size)).get? (hp.objs.size + 1) = some (PySem.HandSPX.excO C hp.objs.size) := by heap_get
  have I2 : Inv X pins σ (upd H (hp.objs.size + 1) (exo (hp.objs.size + 1) C none)) ⟨(hp.push (PySem.W.kdv_tup [])).push (PySem.HandSPX.excO C hp.objs.size), g, dr, tk, os⟩ :=
    I.laid (t' := tk) (a := hp.objs.size + 1) (o := exo (hp.objs.size + 1) C none) (h' := (hp.push (PySem.W.kdv_tup [])).push (PySem.HandSPX.excO C hp.objs.size)) kk hsz (exo_ok hget)
  have r2 : Vals (V.ref (hp.objs.size + 1) :: dvs) (Value.ref (hp.objs.size + 1) :: ds) := .cons rfl hd
  have hq' : sp (V.ref (hp.objs.size + 1) :: dvs) _ _ _ := hq
  have hb' : BindsTo ⟨(hp.push (PySem.W.kdv_tup [])).push (PySem.HandSPX.excO C hp.objs.size), g, dr, tk, os⟩ fd ⟨[Value.ref (hp.objs.size + 1)], []⟩ (ps.zip (Value.ref (hp.objs.size + 1) :: ds)) := hb _ [Value.ref (hp.objs.size + 1)] I2.kIn (by
    have e := r2.length
    rw [F1.len _ _ _ _ hq'] at e
    exact e.symm)
  have hl : (Value.ref (hp.objs.size + 1) :: ds).length = ps.length := by
    have e := r2.length
    rw [F1.len _ _ _ _ hq'] at e
    exact e.symm
  refine wpAny_call (PySem.HandSPX.call_own F.excBase_ValueError (fun Y => PySem.HandSPX.refsVE_contains Y bm hbm) (I.kIn _ _ hC) (PySem.W.looks_findIn I.kIn iC) (fun self => PySem.W.bind_fn I.kIn self tI) (by rw [sizeLine_eq]; simp)
    (codeAny_mono (F1.run _ X.stack _ _ ⟨[Value.ref (hp.objs.size + 1)], []⟩ (Value.ref (hp.objs.size + 1) :: ds) _ _ (fun _ _ _ => False) (hr.make C [] []) (I2.env0.make C [] []) hb' r2 hq') fun r s' hq2 => ?_))
  cases r with
  | error er => exact hx pins σ _ _ er s' I2 hq2
  | ok fl =>
    cases fl with
    | ret u =>
      obtain ⟨v, H2, os2, bare2, un2, hok2, rv, ev, d, fs, ea, ed, hd1, q2⟩ := hq2
      subst ev
      obtain ⟨h2, g2, d2, t2, os'⟩ := s'
      exact ⟨rv, mk_end (raises_own T.exC T.tyC) I hsz kk un2 hok2 os2 bare2 ea ed hd1 q2⟩
    | next => exact False.elim hq2
    | brk => exact False.elim hq2
    | cont => exact False.elim hq2
theorem pmd_mk0 (J : OexI X.K C fI fd ps fs) (gr : GRX gd g) (F1 : FnOk X.prog X.w X.K X.mg X.base (L2.CX X.prog X.w) k fI fd ps (spI X.K 0 fs g)) (hr : Room (k + 1) X.A) (hm : X.mg x = some (.ref C)) (hg : Gl X x := by rfl)
    (hdb : (x == ("__debug__" : Str)) = false := by decide) :
    PMD X W (.Call (.Name x p) [] [] pos) (mkxM C 0 fs gd nilM) := by
  intro pins s σ H Q I h
  refine pmk_oex0 J.T J.iC J.tI F1 hr J.hb .nil passNoC hg hm hdb pins s σ H Q I ?_
  obtain ⟨δ, S, ρ, I', h⟩ := h
  exact mk_sem (n := 0) (xs := []) (vs := []) (W := W) (σ := σ) J gr I'.st Reps.nil (by decide) h
def raiseM (mx : DEnv → Store → Res Ex) : MS := fun δ S => match mx δ S with
  | .ok x S1 => .exc x δ S1
  | .exc x S1 => .exc x δ S1
  | .stuck => .stuck
theorem ps_draise (hc : X.calm = true) (tk : Takes X W) (h : PMD X W e mx) : PS X (.Raise (some e) none pos) (tS W (raiseM mx)) := PS.weak (ps_raise hc tk h) fun G σ H h => by
  obtain ⟨δ, S, ρ, I, h⟩ := h
  refine ⟨δ, S, ρ, I, ?_⟩
  unfold raiseM at h
  cases em : mx δ S with
  | ok x S1 =>
    rw [em] at h
    exact fun p H' ρ' n st r => h p.1 p.2 σ H' ρ' n (I.next n st) r
  | exc x S1 =>
    rw [em] at h
    exact fun c dd H' ρ' n st r => h c dd σ H' ρ' n (I.next n st) r
  | stuck => rw [em] at h; exact h
def goneF (i : Nat) : Flw → Flw
  | .nx δ S => .nx (δ.set i none) S
  | .bk δ S => .bk (δ.set i none) S
  | .ct δ S => .ct (δ.set i none) S
  | .rt d S => .rt d S
  | _ => .stuck
theorem takes_fn {P : Program} {w : World} {K : PySem.W.Frag} {mg : Str → Option Value} {base : Heap} {N : List Str} {qual : Str} {scope : Scope} {f : Addr} {cd : Value} {A : Around} {outer : List Env} {s : Shared} {H : Hp} {E : XK} : Takes (cxOf (L2.CX P w) P w K mg base N qual scope f cd A outer s H E) (fun cls d _ H => E cls d H) := takes_of rfl rfl rfl rfl
end
section
variable {K : PySem.W.Frag} {C f : Addr}
theorem oexB_ok (h : oexB K C = true) : OexC K C := by
  obtain ⟨h1, h⟩ := Bool.and_eq_true_iff.mp h
  obtain ⟨h2, h⟩ := Bool.and_eq_true_iff.mp h
  obtain ⟨h3, h⟩ := Bool.and_eq_true_iff.mp h
  obtain ⟨h4, h5⟩ := Bool.and_eq_true_iff.mp h
  refine ⟨?_, of_decide_eq_true h2, of_decide_eq_true h3, of_decide_eq_true h4, h5⟩
  split at h1
  · rename_i dd cd sl ho
    split at h1
    · rename_i C' bm k0 k1 k2 k3 n k5 hm hs
      simp only [Bool.and_eq_true, beq_iff_eq, Bool.not_eq_true'] at h1
      obtain ⟨⟨⟨⟨rfl, rfl⟩, hdel⟩, hdc⟩, hr⟩ := h1
      obtain ⟨nm, bs, mro, ns, qn, hd, sn, sub, ab, col, del⟩ := cd
      dsimp only at hm hdel hdc
      subst hm hdel hdc
      have hsl : sl = #[k0, k1, k2, k3, some (.builtin "ValueError.__new__"), k5] := by
        obtain ⟨l⟩ := sl
        simp only at hs
        rw [hs]
      subst hsl
      exact ⟨nm, qn, ns, bs, bm, sn, sub, ab, col, dd, k0, k1, k2, k3, k5, ho, hr⟩
    · cases h1
  · cases h1
theorem oexIB_ok {fI : Addr} {fs ps : List Str} {fd : FuncData} (h : oexIB K C fI fs = true) (hb : Binds K fd ps []) : OexI K C fI fd ps fs := by
  obtain ⟨h1, h⟩ := Bool.and_eq_true_iff.mp h
  obtain ⟨h2, h⟩ := Bool.and_eq_true_iff.mp h
  obtain ⟨h3, h4⟩ := Bool.and_eq_true_iff.mp h
  exact ⟨oexB_ok h1, of_decide_eq_true h2, of_decide_eq_true h3, hb, fun f hf => of_decide_eq_true (List.all_eq_true.mp h4 f hf)⟩
theorem crB_ok (h : crB K C f = true) : ClX.CRead K C (.type "type") ∧ ClX.CVal K C (.type "type") "__init__" (.ref f) (.ref f) := by
  obtain ⟨h1, h⟩ := Bool.and_eq_true_iff.mp h
  obtain ⟨h2, h3⟩ := Bool.and_eq_true_iff.mp h
  refine ⟨⟨h1, of_decide_eq_true h2⟩, ⟨?_, rfl⟩⟩
  split at h3
  · rename_i g e
    rw [e, of_decide_eq_true h3]
  · cases h3
theorem veiB_ok (h : veiB K = true) : PySem.W.findCls K (.type "ValueError") (.type "type") "__init__" = some (.val (.builtin "ValueError.__init__")) := by
  unfold veiB at h
  split at h
  · rename_i n e
    rw [e, of_decide_eq_true h]
  · cases h
def ctOf (l : List (Addr × Bool)) (C : Addr) : Option Bool := l.lookup C
theorem mem_of_look : ∀ {l : List (Addr × Bool)} {a : Addr} {b : Bool}, l.lookup a = some b → (a, b) ∈ l
  | [], _, _, h => by cases h
  | (x, y) :: r, a, b, h => by
    rw [List.lookup_cons] at h
    by_cases e : a = x
    · subst e
      simp at h
      subst h
      exact List.mem_cons_self
    · have : (a == x) = false := by simpa using e
      rw [this] at h
      exact List.mem_cons_of_mem _ (mem_of_look h)
theorem xfAll_ok {l : List (Addr × Bool)} {fs : List Str} (h : xfAll K l fs = true) : ∀ C, ctOf l C = some true → XfC K C ∧ ∀ f ∈ fs, PySem.W.findIn K (.ref C) f = some none := fun C e => by
  have := List.all_eq_true.mp h (C, true) (mem_of_look e)
  simp only [Bool.not_true, Bool.false_or] at this
  obtain ⟨h1, h2⟩ := Bool.and_eq_true_iff.mp this
  exact ⟨xfB_ok h1, fun f hf => of_decide_eq_true (List.all_eq_true.mp h2 f hf)⟩
end
section
variable {P : Program} {w : World} {K : PySem.W.Frag} {mg : Str → Option Value} {base : Heap} {k : Nat} {f : Addr} {fd : FuncData} {ps : List Str}
def stuckF : Fn := fun _ _ => .stuck
theorem FnD.stuck : FnD P w K mg base k f fd ps stuckF := ⟨fun vs H Q E ⟨ds, S, ρ, _, _, _, h⟩ => False.elim h, fun A outer s H args us vs Q E hr he hb hv ⟨ds, S, ρ, _, _, _, h⟩ => False.elim h⟩
theorem FnD.up {φ : Fn} {j : Nat} (F : FnD P w K mg base j f fd ps φ) (h : j ≤ k) : FnD P w K mg base k f fd ps φ := FnOk.mono F h
end
def blkB (N : List Str) (sc scope : Scope) (own : List (Str × Nat)) : Bool := decide (scope.kind = .function) && (decide (∀ y ∈ scope.names, scope.names.lookup y.1 = some y.2) && (decide (∀ p ∈ own, N[p.2]? = some p.1) &&
  (decide (∀ y ∈ scope.names, y.2 = .free → sc.names.lookup y.1 = some .cell ∨ sc.names.lookup y.1 = some .free) && decide (∀ y ∈ scope.names, y.2 = .local ∨ y.2 = .cell → y.1 ∈ own.map (·.1) ∨ y.1 ∉ N))))
theorem blk_of {N N' : List Str} {sc sc' scope : Scope} {own : List (Str × Nat)} (h : blkB N sc scope own = true) (hN : N' = N) (hs : sc' = sc) : BlkOk N' sc' scope own := by
  subst hN hs
  obtain ⟨h1, h⟩ := Bool.and_eq_true_iff.mp h
  obtain ⟨h2, h⟩ := Bool.and_eq_true_iff.mp h
  obtain ⟨h3, h⟩ := Bool.and_eq_true_iff.mp h
  obtain ⟨h4, h5⟩ := Bool.and_eq_true_iff.mp h
  exact ⟨of_decide_eq_true h1, of_decide_eq_true h2, of_decide_eq_true h3, of_decide_eq_true h4, of_decide_eq_true h5⟩
def seedF (s c : Int) : Int := (s * 48271 + c % 1000003 + 17) % 2147483647
def seedOf (ns : List Int) : Int := ns.foldl seedF 9458
def drawS (ns : List Int) (i w s c : Int) : Cell := .lst [.lst (ns.map D.int), .int i, .int w, .int s, .int c]
def spStart (K : PySem.W.Frag) : Sp := fun vs H Q E => ∃ a ns, vs = [.ref a] ∧ SqL K H a (ns.map V.int) ∧ ns.length ≤ 63 ∧ ∀ p H', Nx H [] H' [p] → (∀ b o, H b = some o → H' b = some o) → StS H' [drawS ns 0 0 (seedOf ns) 0] [p] → Q (.ref p) H'
abbrev tScr (K : PySem.W.Frag) : TE := L2.tSl (rSlL K) (tVar 0) tNoPart (tPart (tC (.int 63)))
abbrev rPl : R2 := rI0 fun i j => .int (i + j)
abbrev rMo : R2 := rI (fun _ j => 0 < j) fun i j => .int (i % j)
abbrev rMu : R2 := rI CMul fun i j => .int (i * j)
abbrev rLo (K : PySem.W.Frag) : List V → Hp → VK → Prop := fun xs H Q => ∃ p ys, xs = [.ref p] ∧ (SqL K H p ys ∨ SqT K H p ys) ∧ ∀ l, H l = none → Q (.ref l) (upd H l (.lst ys))
def tStart (K : PySem.W.Frag) : TS := tSeq (tAsg (tC (.int 9458)) (gName 1)) (tSeq (tFor (iList K (tScr K)) (gName 2) (tAsg (tOp rMo (tOp rPl (tOp rPl (tOp rMu (tVar 1) (tC (.int 48271))) (tOp rMo (tVar 2) (tC (.int 1000003)))) (tC (.int 17))) (tC (.int 2147483647))) (gName 1)))
  (tRet (tLst (tCons (tCB (rLo K) (tCons (tScr K) L2.tNil)) (tCons (tC (.int 0)) (tCons (tC (.int 0)) (tCons (tVar 1) (tCons (tC (.int 0)) L2.tNil))))))))
theorem cut63 {xs : List V} (h : xs.length ≤ 63) : cutV xs none (some 63) = xs := by
  unfold cutV
  rw [HT.sIx_none, show (63 : Int) = ((63 : Nat) : Int) from rfl, HT.sIx_nat, List.drop_zero, List.take_of_length_le]
  omega
theorem SqL.up {K : PySem.W.Frag} {H : Hp} {a p : Addr} {xs : List V} {o : HO} (h : SqL K H a xs) (hp : H p = none) : SqL K (upd H p o) a xs := by
  rcases h with (h | ⟨ob, h⟩) | h
  · exact .inl (.inl (by rw [upd_ne (ne_of_none h hp)]; exact h))
  · exact .inl (.inr ⟨ob, by rw [upd_ne (ne_of_none h hp)]; exact h⟩)
  · exact .inr h
theorem ints_reps {H : Hp} {ρ : List Addr} : ∀ ns : List Int, Reps H ρ (ns.map D.int) (ns.map V.int)
  | [] => rfl
  | n :: ns => ⟨_, _, rfl, rfl, ints_reps ns⟩
theorem start_sem {K : PySem.W.Frag} {s0 s1 s2 : Str} {vs : List V} {H : Hp} {Q : VK} {E : XK} (h : spStart K vs H Q E) : tStart K { nx := fun _ H' => Q .non H', rt := Q } (L2.start [s0, s1, s2] vs) H := by
  obtain ⟨a, ns, rfl, hs, hl, q⟩ := h
  have hc : cutV (ns.map V.int) none (some 63) = ns.map V.int := cut63 (by simpa using hl)
  show tScr K _ _ _
  refine ⟨_, rfl, 63, rfl, a, _, rfl, hs, fun p hp => ⟨p, rfl, ⟨_, .inl (.inl upd_same)⟩, ?_⟩⟩
  rw [hc]
  have hp' : SqL K (upd H p (.lst (ns.map V.int))) p (ns.map V.int) := .inl (.inl upd_same)
  refine ⟨fun i m σ H' => ∃ v, σ = [some (.ref a), some (.int ((ns.take i).foldl seedF 9458)), v] ∧ H' = upd H p (.lst (ns.map V.int)) ∧ m = ns.length - i, ⟨_, _, rfl, rfl, rfl⟩, ?_⟩
  rintro i m σ H' ⟨v, rfl, rfl, rfl⟩
  cases e : ns[i]? with
  | none =>
    have hi := List.getElem?_eq_none_iff.mp e
    refine .inl ⟨⟨_, hp', by simpa using hi⟩, ?_⟩
    rw [List.take_of_length_le hi]
    show tScr K _ _ _
    refine ⟨_, rfl, 63, rfl, a, _, rfl, SqL.up hs hp, fun p2 h2 => ?_⟩
    rw [hc]
    refine ⟨p2, _, rfl, .inl (.inl (.inl upd_same)), fun l hl' => ?_⟩
    refine ⟨_, rfl, by rw [sizeLine_eq]; simp, fun p3 h3 => ?_⟩
    have n1 : Nx H [] (upd H p (.lst (ns.map V.int))) [] := Nx.alloc hp
    have n2 := n1.trans (Nx.alloc (o := .lst (ns.map V.int)) h2)
    have n3 := n2.trans (Nx.alloc (o := .lst (ns.map V.int)) hl')
    have n4 := n3.trans (Nx.push (o := .lst [.ref l, .int 0, .int 0, .int (seedOf ns), .int 0]) h3)
    refine q p3 _ n4 (fun b o e => by
      have e2 : upd H p (.lst (ns.map V.int)) b = some o := by rw [upd_ne (ne_of_none e hp)]; exact e
      have e3 : upd (upd H p (.lst (ns.map V.int))) p2 (.lst (ns.map V.int)) b = some o := by rw [upd_ne (ne_of_none e2 h2)]; exact e2
      have e4 : upd (upd (upd H p (.lst (ns.map V.int))) p2 (.lst (ns.map V.int))) l (.lst (ns.map V.int)) b = some o := by rw [upd_ne (ne_of_none e3 hl')]; exact e3
      rw [upd_ne (ne_of_none e4 h3)]
      exact e4) ⟨rfl, by simp, fun n b c e1 e2 => ?_⟩
    match n with
    | 0 =>
      cases e1; cases e2
      refine ⟨_, upd_same, _, _, rfl, ⟨l, _, rfl, ?_, ?_, ints_reps ns⟩, _, _, rfl, rfl, _, _, rfl, rfl, _, _, rfl, rfl, _, _, rfl, rfl, rfl⟩
      · rw [upd_ne (fun z => ?_), upd_same]
        rw [← z, upd_same] at h3
        cases h3
      · intro z
        rw [List.mem_singleton] at z
        rw [← z, upd_same] at h3
        cases h3
    | n + 1 => cases e1
  | some c =>
    have hi := (List.getElem?_eq_some_iff.mp e).1
    refine .inr ⟨⟨_, _, hp', by rw [List.getElem?_map, e]; rfl⟩, fun σ' H' => ∃ v, σ' = [some (.ref a), some (.int ((ns.take (i + 1)).foldl seedF 9458)), v] ∧ H' = upd H p (.lst (ns.map V.int)), fun σ' H' ⟨v, h1, h2⟩ => ⟨_, Nat.sub_lt_sub_left hi (Nat.lt_succ_self i), v, h1, h2, rfl⟩, ?_⟩
    rintro x H' ⟨rfl, f⟩
    have hx := f _ hp'
    rw [List.getElem?_map, e] at hx
    cases hx
    refine ⟨_, rfl, _, _, rfl, rfl, .inr (by decide), _, rfl, _, _, rfl, rfl, (by decide : (0:Int) < 1000003), _, _, rfl, rfl, _, _, rfl, rfl, _, _, rfl, rfl, (by decide : (0:Int) < 2147483647), ?_⟩
    refine ⟨some (.int c), ?_, rfl⟩
    · have et : ns.take (i + 1) = ns.take i ++ [c] := by rw [List.take_add_one, e]; rfl
      rw [et, List.foldl_append]
      rfl
section
variable {P : Program} {w : World} {K : PySem.W.Frag} {mg : Str → Option Value} {base : Heap} {k : Nat} {f fS : Addr} {fd fdS : FuncData} {qual x : Str} {params : Arguments} {body : List Stmt} {scope : Scope} {kws : List (Str × V)} {N ps psS : List Str} {m : MS} {s0 s1 s2 : Str}
theorem start_ok (F : FunD K x qual params body scope [] kws f fd) (S : FnScope [s0, s1, s2] [s0] scope)
    (hb : ∀ (cdv : Value) (A : Around) (outer : List Env) (s : Shared) (H : Hp) (E : XK), Room k (A.deeper (envOfC qual scope s.heap.objs.size f cdv)) →
      PSs (cxOf (L2.CX P w) P w K mg base [s0, s1, s2] qual scope f cdv A outer s H E) body (tStart K)) : FnOk P w K mg base (L2.CX P w) (k + 1) f fd [s0] (spStart K) :=
  FunD.ok F S (fun vs H Q E h => by
    obtain ⟨a, ns, rfl, _⟩ := h
    rfl) (fun cdv A outer s H vs Q E hr h => ⟨_, hb cdv A outer s H E hr, start_sem h⟩)
section
variable {H : Hp} {ρ t : List Addr}
theorem notT {a : Addr} {o : HO} (ht : ∀ b ∈ t, ∃ ps, H b = some (.tbl ps)) (h : H a = some o) (n : ∀ ps, o ≠ .tbl ps) (k : a ∉ ρ) : a ∉ ρ ++ t := fun z => by
  rcases List.mem_append.mp z with z | z
  · exact k z
  · obtain ⟨ps, e⟩ := ht a z
    rw [h] at e
    exact n ps (Option.some.inj e)
mutual
theorem Rep.more (ht : ∀ b ∈ t, ∃ ps, H b = some (.tbl ps)) : ∀ (d : SL.D) (v : V), Rep H ρ d v → Rep H (ρ ++ t) d v
  | .non, v, h => h
  | .bl b, v, h => h
  | .int i, v, h => h
  | .str x, v, h => h
  | .raw u, v, h => h
  | .loc m, v, h => by
    obtain ⟨a, h1, h2⟩ := h
    exact ⟨a, by rw [List.getElem?_append_left (List.getElem?_eq_some_iff.mp h1).1]; exact h1, h2⟩
  | .tup ds, v, h => by
    obtain ⟨a, vs, e, h1, k, h2⟩ := h
    rcases h1 with h1 | ⟨e0, od, h1⟩
    · exact ⟨a, vs, e, .inl h1, notT ht h1 (fun ps z => by cases z) k, Reps.more ht ds vs h2⟩
    · exact ⟨a, vs, e, .inr ⟨e0, od, h1⟩, notT ht h1 (fun ps z => by cases z) k, Reps.more ht ds vs h2⟩
  | .lst ds, v, h => by
    obtain ⟨a, vs, e, h1, k, h2⟩ := h
    exact ⟨a, vs, e, h1, notT ht h1 (fun ps z => by cases z) k, Reps.more ht ds vs h2⟩
  | .dct ks ds, v, h => by
    obtain ⟨a, vs, e, h1, k, l, h2⟩ := h
    rcases h1 with h1 | ⟨od, h1⟩
    · exact ⟨a, vs, e, .inl h1, notT ht h1 (fun ps z => by cases z) k, l, Reps.more ht ds vs h2⟩
    · exact ⟨a, vs, e, .inr ⟨od, h1⟩, notT ht h1 (fun ps z => by cases z) k, l, Reps.more ht ds vs h2⟩
  | .obj C ns ds, v, h => by
    obtain ⟨a, dx, vs, e, h1, k, l, h2⟩ := h
    exact ⟨a, dx, vs, e, h1, notT ht h1 (fun ps z => by cases z) k, l, Reps.more ht ds vs h2⟩
  | .exn a dd ns ds, v, h => by
    obtain ⟨vs, e, h1, k, l, h2⟩ := h
    exact ⟨vs, e, h1, notT ht h1 (fun ps z => by cases z) k, l, Reps.more ht ds vs h2⟩
theorem Reps.more (ht : ∀ b ∈ t, ∃ ps, H b = some (.tbl ps)) : ∀ (ds : List SL.D) (vs : List V), Reps H ρ ds vs → Reps H (ρ ++ t) ds vs
  | [], vs, h => h
  | d :: ds, vs, h => by
    obtain ⟨v, r, e, h1, h2⟩ := h
    exact ⟨v, r, e, Rep.more ht d v h1, Reps.more ht ds r h2⟩
end
end
def tabsS (Ts : List (Addr × Str)) : Store := Ts.map fun t => .tab t.1 t.2
def spLaw (K : PySem.W.Frag) (Ts : List (Addr × Str)) (n : Nat) (m : MS) : Sp := fun vs H Q E => ∃ a ns, vs = [.ref a] ∧ SqL K H a (ns.map V.int) ∧ ns.length ≤ 63 ∧ (∃ S', m (none :: some (.loc 0) :: List.replicate n none) (drawS ns 0 0 (seedOf ns) 0 :: tabsS Ts) = .rt (.bl true) S') ∧
  (Ts.map (·.1)).Nodup ∧ (∀ t ∈ Ts, LamX.TabS H t.1 t.2) ∧ ∀ H', Q (.bl true) H'
end
theorem no_out {P : Program} {w : World} {K : PySem.W.Frag} {mg : Str → Option Value} {base : Heap} {k : Nat} {f : Addr} {fd : FuncData} {ps : List Str} {sp : Sp} (F : FnOk P w K mg base (L2.CX P w) k f fd ps sp)
    (h : ∀ vs H Q E, sp vs H Q E → sp vs H Q (fun _ _ _ => False)) : FnOk P w K mg base CX0 k f fd ps sp := ⟨F.len, fun A outer s H args us vs Q E hr he hb hv hs => codeAny_mono (F.run A outer s H args us vs Q (fun _ _ _ => False) hr he hb hv (h _ _ _ _ hs)) fun r s' q => by
    cases r with
    | error e =>
      obtain ⟨a, B, H', cls, d, _, _, _, _, _, _, _, z⟩ := q
      exact False.elim z
    | ok fl => cases fl <;> exact q⟩
end SL
namespace KL
open PySem PySem.Spec PySem.W PySem.Calls PyProof.Rows
structure KeyS (xn : Str) (params : Arguments) (body : Expr) (scope : Scope) : Prop where
  kind : scope.kind = .function
  co : scope.isCoroutine = false
  gen : scope.isGenerator = false
  cell : ∀ y ∈ scope.names, y.2 ≠ .cell
  free : ∀ y ∈ scope.names, y.2 ≠ .free
  loc : scope.names.lookup xn = some .local
  dbg : (xn == ("__debug__" : Str)) = false
  bind : ∀ (q : Str) (cl : List (Str × Addr)) (pm cv ctv v : Value), bindArgs (kla_fn "<lambda>" q params body scope cl pm cv ctv) ⟨[v], []⟩ = pure [(xn, v)]
section
variable {prog : Program} {w : World} {A : Around} {s : Shared}
end
end KL
namespace KL
open PySem PySem.Spec PyProof.Rows L2 LamX
inductive Grown (P : Addr) (q : Str) (H : Hp) : Hp → Prop where
  | same : Grown P q H H
  | more {ps m : Array Value} {c : Addr} (h : H P = some (.tbl ps)) (n : H c = none) (t : TriplesOk (ps ++ m).toList) (a : ∀ (pos : Pos) (cv : Value), codeAmong pos (ps ++ m).toList = some cv → codeAmong pos ps.toList = some cv ∨ cv = .ref c) : Grown P q H (upd (upd H P (.tbl (ps ++ m))) c (CodeO c q))
theorem Grown.tab {P : Addr} {q : Str} {H H' : Hp} (g : Grown P q H H') (t : TabS H P q) : TabS H' P q := by
  cases g with
  | same => exact t
  | @more ps m c h n t' a =>
    obtain ⟨ps', h1, h2, h3⟩ := t
    rw [h] at h1
    cases h1
    have nC : P ≠ c := ne_of_none h n
    refine ⟨ps ++ m, by rw [upd_ne nC, upd_same], t', fun pos cv hc => ?_⟩
    rcases a pos cv hc with z | z
    · obtain ⟨c0, e1, e2⟩ := h3 pos cv z
      refine ⟨c0, e1, ?_⟩
      rw [upd_ne (ne_of_none e2 n), upd_ne (fun z => by
        rw [z, h] at e2
        exact codeO_ne _ (Option.some.inj e2).symm)]
      exact e2
    · exact ⟨c, z, upd_same⟩
section
variable {X : Cx} {pins : List (Addr × Obj)} {σ : L2.St} {H : Hp} {s : Shared}
def keyD (x : Str) : PyData := .tuple [.str (Txt.lower x), .str x]
end
end KL
namespace SL
open PySem PySem.Spec L2
open PyProof.Rows hiding St
theorem walks_shift {prog : Program} {w : World} {A : Around} {I : Addr} {fp wr : List Addr} {G : Array GenState → Array GenState → Prop} {n : Nat} {P : Nat → Value → Prop} {St : Nat → Shared → Prop} (W : WalksS prog w A I fp wr G n P St) (k : Nat) (hk : k ≤ n) :
    WalksS prog w A I fp wr G (n - k) (fun i => P (k + i)) (fun i => St (k + i)) where
  sub := W.sub
  grefl := W.grefl
  gtrans := W.gtrans
  frame := fun i => W.frame (k + i)
  item := fun i s Q E hi st hQ => W.item (k + i) s Q E (by omega) st fun v s' h1 h2 h3 => hQ v s' h1 h2 h3
  done := fun s Q E st hQ => W.done s Q E (by rw [show k + (n - k) = n by omega] at st; exact st) hQ
  self := fun i => W.self (k + i)
section
variable {prog : Program} {w : World} {A : Around} {E : Value → Shared → Prop} {s : Shared}
end
section
variable {X : Cx} {W : WX} {es : List Expr} {e : Expr} {t : TGs} {k x1 : Nat} {pos pos' : Pos} {me : ME}
theorem vals_take : ∀ {vs : List V} {us : List Value} (n : Nat), Vals vs us → Vals (vs.take n) (us.take n)
  | _, _, 0, _ => .nil
  | _, _, n + 1, .nil => .nil
  | _, _, n + 1, .cons r rs => .cons r (vals_take n rs)
theorem vals_drop : ∀ {vs : List V} {us : List Value} (n : Nat), Vals vs us → Vals (vs.drop n) (us.drop n)
  | _, _, 0, h => h
  | _, _, n + 1, .nil => .nil
  | _, _, n + 1, .cons r rs => vals_drop n rs
theorem vals_app : ∀ {vs vs2 : List V} {us us2 : List Value}, Vals vs us → Vals vs2 us2 → Vals (vs ++ vs2) (us ++ us2)
  | _, _, _, _, .nil, h => h
  | _, _, _, _, .cons r rs, h => .cons r (vals_app rs h)
theorem pgs_dstar {tgt : Expr} {tg : Tg} (h1 : PG X tgt (gD tg)) (hs : (assignEach [.Starred tgt pos] X.env).map (·.2) = [assign tgt X.env] := by rfl) (hs0 : (assignEach [tgt] X.env).map (·.2) = assign tgt X.env :: (assignEach [] X.env).map (·.2) := by rfl) : PGs X [.Starred tgt pos] (gsD [tg]) := by
  have h2 := pgs_dcons h1 pgs_dnil hs0
  refine ⟨fun pins s σ H v u Q I r q => ?_⟩
  have := h2.run pins s σ H v u Q I r q
  rw [hs0] at this
  rw [hs]
  exact this
end
section
variable {X : Cx} {W : WX} {e v1 v2 : Expr} {es rest : List Expr} {me : ME} {ms : List ME} {pos : Pos}
def fmtG (d : D) : Option D := match d with
  | .str l => if l.length ≤ 1000000 then some (.str l) else none
  | .int i => if i.natAbs.log2 < 1920 then some (.str (strI i)) else none
  | _ => none
def fmtM (me : ME) : ME := fun δ S => (me δ S).bind fun d S1 => RO (fmtG d) S1
end
section
variable {X : Cx} {W : WX} {e : Expr} {es : List Expr} {ms mk : MA} {p pos : Pos} {x : Str} {kws : List Keyword}
theorem vals_pt : ∀ {xs : List V} {us : List Value}, xs.length = us.length → (∀ (j : Nat) (x : V) (u : Value), xs[j]? = some x → us[j]? = some u → RelV x u) → Vals xs us
  | [], [], _, _ => .nil
  | [], _ :: _, h, _ => by cases h
  | _ :: _, [], h, _ => by cases h
  | x :: xs, u :: us, h, r => .cons (r 0 x u rfl rfl) (vals_pt (by simpa using h) fun j x' u' h1 h2 => r (j + 1) x' u' (by simpa using h1) (by simpa using h2))
def sgD (l : List Nat) : List D := l.map fun c => D.str [c]
def sgV (l : List Nat) : List V := l.map fun c => V.str ⟨#[c]⟩
theorem sg_reps {H : Hp} {ρ : List Addr} : ∀ l : List Nat, Reps H ρ (sgD l) (sgV l)
  | [] => Reps.nil
  | c :: l => Reps.cons (show Rep H ρ (.str [c]) (.str ⟨#[c]⟩) from rfl) (sg_reps l)
def rLsg : List V → Hp → VK → Prop := fun xs H Q => ∃ l : List Nat, xs = [.str ⟨l.toArray⟩] ∧ l.length ≤ 1000000 ∧ ∀ p, H p = none → Q (.ref p) (upd H p (.lst (sgV l)))
theorem call_list_sg (hc : X.calm = true) : CallR X (.type "list") rLsg := by
  intro pins s σ H xs us Q I r h
  obtain ⟨l, rfl, hl, q⟩ := h
  obtain ⟨u, rfl, rx⟩ := vals1 r
  obtain ⟨t, rfl⟩ := rx
  have hz : l.length ≤ sizeLine := sz6 hl
  refine call_list_str (I.ok.hd hc) _ t (fun h' tk acc' c' hk hS ha => ?_) (by simpa using hz)
  refine ⟨.ref s.heap.objs.size, _, I.laid (t' := tk) hk (Nat.le_refl _) (show ObjOk X.prog X.w _ h' _ (.lst (sgV l)) from ⟨by unfold sgV; rw [List.length_map]; exact hz, acc'.toList, c', ?_, by simpa using hS⟩), rfl, q _ (I.hok.fresh (Nat.le_refl _))⟩
  refine vals_pt (by unfold sgV; rw [List.length_map]; exact ha.1.symm) fun j x u h1 h2 => ?_
  obtain ⟨c, t', hc', rfl⟩ := ha.2 j u (by simpa using h2)
  unfold sgV at h1
  rw [List.getElem?_map] at h1
  have hc2 : l[j]? = some c := by simpa using hc'
  rw [hc2] at h1
  cases h1
  exact ⟨t', rfl⟩
def rList2 (K : PySem.W.Frag) : List V → Hp → VK → Prop := fun xs H Q => (∃ p ys, xs = [.ref p] ∧ (SqL K H p ys ∨ SqT K H p ys) ∧ ∀ l, H l = none → Q (.ref l) (upd H l (.lst ys))) ∨ rLsg xs H Q
theorem call_list2 (hc : X.calm = true) : CallR X (.type "list") (rList2 X.K) := CallR.or call_list_of (call_list_sg hc)
def list2G (S : Store) (xs : List D) : Option D := match xs with
  | [.str l] => if l.length ≤ 1000000 then some (.lst (sgD l)) else none
  | xs => listG S xs
theorem snd_list2 {K : PySem.W.Frag} : CaSnd (rList2 K) list2G := by
  intro H ρ S xs z vs Q st rs e k
  unfold list2G at e
  split at e
  · obtain ⟨v, us, rfl, rx, ru⟩ := rs
    split at e
    · rename_i l hl
      cases ru; cases e; cases rx
      exact .inr ⟨l, rfl, hl, fun p hp => KD.lst k st (sg_reps l) hp⟩
    · cases e
  · exact .inl (snd_list H ρ S _ z vs Q st rs e k)
def callKG (g : Store → List D → List D → Option D) (ms mk : MA) : ME := fun δ S => (ms δ S).bind fun xs S1 => (mk δ S1).bind fun zs S2 => RO (g S2 xs zs) S2
end
def TabAt (S : Store) (P : Addr) (q : Str) : Prop := ∃ (n : Nat) (c : Cell), S[n]? = some c ∧ (c = .tab P q ∨ ∃ es, c = .emp P q es)
theorem TabAt.tab {S : Store} {P : Addr} {q : Str} {n : Nat} (h : S[n]? = some (.tab P q)) : TabAt S P q := ⟨n, _, h, .inl rfl⟩
theorem TabAt.emp {S : Store} {P : Addr} {q : Str} {n : Nat} {es : List Addr} (h : S[n]? = some (.emp P q es)) : TabAt S P q := ⟨n, _, h, .inr ⟨es, rfl⟩⟩
theorem TabAt.app {S g : Store} {P : Addr} {q : Str} (h : TabAt S P q) : TabAt (S ++ g) P q := by
  obtain ⟨n, c, e, k⟩ := h
  exact ⟨n, c, by rw [List.getElem?_append_left (List.getElem?_eq_some_iff.mp e).1]; exact e, k⟩
section
variable {X : Cx} {W : WX} {H H' : Hp} {ρ : List Addr} {S : Store} {P : Addr} {q : Str}
theorem RepC.tabR {a : Addr} {c : Cell} (hc : c = .tab P q ∨ ∃ es, c = .emp P q es) (h : RepC H ρ a c) : TabR H ρ a P q := by
  rcases hc with rfl | ⟨es, rfl⟩
  · exact h
  · exact h.1
theorem StS.grownC (st : StS H S ρ) {n : Nat} {c0 : Cell} (hn : S[n]? = some c0) (hc : c0 = .tab P q ∨ ∃ es, c0 = .emp P q es) (g : KL.Grown P q H H') : StS H' S ρ ∧ Nx H ρ H' ρ := by
  have hP : ρ[n]? = some P := by
    have hl : n < ρ.length := by rw [st.len]; exact (List.getElem?_eq_some_iff.mp hn).1
    have e := List.getElem?_eq_getElem hl
    obtain ⟨h0, _⟩ := (st.cells n _ _ e hn).tabR hc
    rw [e, h0]
  cases g with
  | same => exact ⟨st, Nx.refl _ _⟩
  | @more ps m c h nC t a =>
    have hm : P ∈ ρ := List.mem_of_getElem? hP
    have n1 : Nx H ρ (upd H P (.tbl (ps ++ m))) ρ := Nx.set hm (by rw [h]; simp)
    have nPc : P ≠ c := ne_of_none h nC
    have nC1 : upd H P (.tbl (ps ++ m)) c = none := by rw [upd_ne (fun z => nPc z.symm)]; exact nC
    have n2 := n1.trans (Nx.alloc (o := LamX.CodeO c q) nC1)
    refine ⟨⟨st.len, st.nd, fun i b cl e1 e2 => ?_⟩, n2⟩
    have hb := st.cells i b cl e1 e2
    have hbc : b ≠ c := fun z => by
      have := hb.ne
      rw [z] at this
      exact this nC
    by_cases hbP : b = P
    · subst hbP
      have : i = n := by
        have hi := (List.getElem?_eq_some_iff.mp e1).1
        have hn' := (List.getElem?_eq_some_iff.mp hP).1
        exact (List.getElem_inj st.nd).mp (by rw [(List.getElem?_eq_some_iff.mp e1).2, (List.getElem?_eq_some_iff.mp hP).2])
      subst this
      rw [hn] at e2
      cases e2
      have key : TabR (upd (upd H b (.tbl (ps ++ m))) c (LamX.CodeO c q)) ρ b b q := by
        obtain ⟨h0, ps', h1, h2, h3⟩ := hb.tabR hc
        rw [h] at h1
        cases h1
        refine ⟨rfl, ps ++ m, by rw [upd_ne nPc, upd_same], t, fun pos cv hc => ?_⟩
        rcases a pos cv hc with z | z
        · obtain ⟨c0, e1', e2', e3'⟩ := h3 pos cv z
          exact ⟨c0, e1', n2.stay c0 _ e2' e3' fun ps => LamX.codeO_ne ps, e3'⟩
        · exact ⟨c, z, upd_same, fun z => st.trk z nC⟩
      rcases hc with rfl | ⟨es, rfl⟩
      · exact key
      · refine ⟨key, fun x hx => ?_⟩
        obtain ⟨⟨ob, h1⟩, h2⟩ := hb.2 x hx
        exact ⟨⟨ob, n2.stay x _ h1 h2 fun ps z => by cases z⟩, h2⟩
    · exact hb.mono n2 (by rw [upd_ne hbc, upd_ne hbP])
theorem StS.grown (st : StS H S ρ) {n : Nat} (hn : S[n]? = some (.tab P q)) (g : KL.Grown P q H H') : StS H' S ρ ∧ Nx H ρ H' ρ := st.grownC hn (.inl rfl) g
theorem tab_ofC (st : StS H S ρ) {n : Nat} {c0 : Cell} (hn : S[n]? = some c0) (hc : c0 = .tab P q ∨ ∃ es, c0 = .emp P q es) : LamX.TabS H P q := by
  have hl : n < ρ.length := by rw [st.len]; exact (List.getElem?_eq_some_iff.mp hn).1
  obtain ⟨h0, ps, h1, h2, h3⟩ := (st.cells n _ _ (List.getElem?_eq_getElem hl) hn).tabR hc
  rw [h0] at h1
  exact ⟨ps, h1, h2, fun pos cv hc => by
    obtain ⟨c, e1, e2, _⟩ := h3 pos cv hc
    exact ⟨c, e1, e2⟩⟩
theorem tab_of (st : StS H S ρ) {n : Nat} (hn : S[n]? = some (.tab P q)) : LamX.TabS H P q := tab_ofC st hn (.inl rfl)
theorem strs_map : ∀ {ds : List D} {ls : List (List Nat)} {vs : List V}, asSs ds = some ls → Reps H ρ ds vs → vs = (ls.map sOf).map V.str
  | [], ls, vs, h, r => by cases h; cases r; rfl
  | d :: ds, ls, vs, h, r => by
    obtain ⟨v, us, rfl, r1, r2⟩ := r
    cases d with
    | str l =>
      simp only [asSs] at h
      split at h
      · rename_i bs e
        cases h
        cases r1
        rw [strs_map e r2]
        rfl
      · cases h
    | _ => cases h
theorem reps_strs (H : Hp) (ρ : List Addr) : ∀ xs : List Str, Reps H ρ ((xs.map fun s => s.cps.toList).map D.str) (xs.map V.str)
  | [] => rfl
  | x :: xs => ⟨_, _, rfl, by show V.str x = .str ⟨(x.cps.toList).toArray⟩; rw [Array.toArray_toList], reps_strs H ρ xs⟩
end
def extendG (ds xs : List D) : Option (D × List D) := match xs with
  | [.lst es] => if ds.length + es.length ≤ 1000000 then some (.non, ds ++ es) else none
  | _ => none
theorem snd_extend : LmSnd rExtend extendG := by
  intro H ρ ds xs d es aa vs us Q hH r ru e k
  unfold extendG at e
  split at e
  · rename_i zs
    split at e
    · rename_i hl
      cases e
      obtain ⟨v, ws, rfl, rx, rw'⟩ := ru
      cases rw'
      obtain ⟨b, ws, rfl, hb, nb, rb⟩ := rx
      exact ⟨aa, b, vs, ws, rfl, rfl, hH, hb, by rw [← r.len, ← rb.len]; exact Nat.le_trans hl (by decide), k .non (vs ++ ws) rfl (r.append rb)⟩
    · cases e
  · cases e
def leL (a b : List Nat) : Bool := !decide (b < a)
theorem leL_anti {a b : List Nat} (h1 : leL a b = true) (h2 : leL b a = true) : a = b := by
  simp only [leL, Bool.not_eq_true', decide_eq_false_iff_not] at h1 h2
  exact List.le_antisymm (List.not_lt.mp h1) (List.not_lt.mp h2)
theorem leL_total (a b : List Nat) : (leL a b || leL b a) = true := by
  simp only [leL, Bool.or_eq_true, Bool.not_eq_true', decide_eq_false_iff_not, List.not_lt]
  exact List.le_total a b
theorem leL_trans (a b c : List Nat) (h1 : leL a b = true) (h2 : leL b c = true) : leL a c = true := by
  simp only [leL, Bool.not_eq_true', decide_eq_false_iff_not, List.not_lt] at h1 h2 ⊢
  exact List.le_trans h1 h2
def sortT (ls : List (List Nat)) : List (List Nat) := ls.mergeSort leL
theorem perm_unique {α : Type} {le : α → α → Bool} (anti : ∀ a b, le a b = true → le b a = true → a = b) : ∀ {xs ys : List α}, xs.Perm ys → xs.Pairwise (fun a b => le a b = true) → ys.Pairwise (fun a b => le a b = true) → xs = ys
  | [], ys, p, _, _ => (List.nil_perm.mp p).symm ▸ rfl
  | x :: xs, [], p, _, _ => absurd (p.length_eq) (by simp)
  | x :: xs, y :: ys, p, h1, h2 => by
    have e : x = y := by
      have mx : x ∈ y :: ys := p.mem_iff.mp List.mem_cons_self
      have my : y ∈ x :: xs := p.mem_iff.mpr List.mem_cons_self
      rcases List.mem_cons.mp mx with e | mx
      · exact e
      · rcases List.mem_cons.mp my with e | my
        · exact e.symm
        · exact anti _ _ (List.rel_of_pairwise_cons h1 my) (List.rel_of_pairwise_cons h2 mx)
    subst e
    rw [perm_unique anti ((List.perm_cons x).mp p) (List.pairwise_cons.mp h1).2 (List.pairwise_cons.mp h2).2]
theorem sortT_unique {xs ys : List (List Nat)} (p : ys.Perm xs) (h : ys.Pairwise (fun a b => leL a b = true)) : ys = sortT xs := by
  unfold sortT
  exact perm_unique (fun a b => leL_anti) (p.trans (List.mergeSort_perm xs leL).symm) h (List.pairwise_mergeSort leL_trans leL_total xs)
theorem pw_rising : ∀ (p : Str) (l : List Str), risingS p l = true → (p :: l).Pairwise (fun a b => leL a.cps.toList b.cps.toList = true)
  | p, [], _ => by simp
  | p, x :: r, h => by
    have h' : (!ltCps x.cps.toList p.cps.toList && risingS x r) = true := h
    rw [Bool.and_eq_true, ltCps_eq] at h'
    have ih := pw_rising x r h'.2
    refine List.pairwise_cons.mpr ⟨fun y hy => ?_, ih⟩
    rcases List.mem_cons.mp hy with e | hy
    · subst e; exact h'.1
    · exact leL_trans _ _ _ h'.1 (List.rel_of_pairwise_cons ih hy)
theorem pw_sorted : ∀ (l : List Str), sortedS l = true → l.Pairwise (fun a b => leL a.cps.toList b.cps.toList = true)
  | [], _ => .nil
  | x :: r, h => pw_rising x r h
def sortedG (S : Store) (xs : List D) : Option D := match xs with
  | [x] => match asQ S x with
    | some ds => match asSs ds with
      | some ls => some (.lst ((sortT ls).map D.str))
      | none => none
    | none => none
  | _ => none
def rSortA (K : PySem.W.Frag) : List V → Hp → VK → Prop := fun vs H Q => ∃ (a : Addr) (xs : List Str), vs = [V.ref a] ∧ (SqL K H a (xs.map V.str) ∨ SqT K H a (xs.map V.str)) ∧
  ∀ (ys : List Str) (p : Addr), ys.Perm xs → sortedS ys = true → H p = none → Q (.ref p) (upd H p (.lst (ys.map V.str)))
theorem cr_sortT {X : Cx} {pins : List (Addr × Obj)} {s : Shared} {σ : L2.St} {H : Hp} {Q : VK} {a : Addr} {xs : List Str} (I : Inv X pins σ H s) (hs : SqT X.K H a (xs.map V.str)) (q : ∀ (ys : List Str) (p : Addr), ys.Perm xs → sortedS ys = true → H p = none → Q (.ref p) (upd H p (.lst (ys.map V.str)))) :
    wpAny (model X.prog X.w) X.A (call (.builtin "sorted") [.ref a]) (EP X pins σ Q) X.xe s := by
  obtain ⟨its, rv, ⟨o, ho, hc, n, hd⟩, hz⟩ := I.tuple hs
  have hzl : its.toArray.size ≤ sizeLine := by rw [List.size_toArray, ← rv.length]; exact hz
  refine Calls.call_function_entry kind_sorted plain_sorted entry_sorted (args_sorted1 _) ?_
  unfold Builtin.«sorted»
  refine wpAny_bind (m := checkCount "sorted" 1 1 _) (wpAny_pure ?_)
  refine wpAny_bind (wpAny_collect_seq (A := X.A.in1) a (.inr rfl) ho hc hd (fun h' hk => ?_) hzl)
  have hacl : its.toArray.toList.length ≤ sizeLine := by simpa using hzl
  refine wpAny_bind (wpAny_newList ?_ hacl)
  have hS : StrsAre its.toArray.toList xs := by simpa using rv.strs
  have hlen : its.toArray.toList.length = xs.length := by
    have := rv.length
    rw [List.length_map] at this
    simpa using this.symm
  have hoL : (h'.push (seqObj "list" its.toArray.toList.toArray 0)).get? h'.objs.size = some (seqObj "list" its.toArray.toList.toArray 0) := Heap.get?_push_size _ rfl
  show wpAny _ _ _ _ _ { s with heap := h'.push (seqObj "list" its.toArray.toList.toArray 0) }
  refine wpAny_bind (wpAny_holding (wpAny_call_entry slot_list_sort ⟨_, hoL, rfl⟩ entry_list_sort (list_sort_treeKAny strKind_oneLt hoL hS.keysOf (fun v₁ v₂ rest e => keyKind_strs (by rw [← e]; exact hS)) hacl fun st' a1 a2 => ⟨_, rfl, ?_⟩) (args_list_sort _)))
  refine wpAny_pure ⟨_, rfl, ?_⟩
  obtain ⟨ys, b1, b2, b3⟩ := sorted_out_str hS a1 a2
  generalize hout : (arrOf st').map (·.2) = out at b1
  obtain ⟨ep, he⟩ := sortedHeap_at (vs := its.toArray.toList) (out := out) hoL
  have hk2 : ∀ b o, h'.get? b = some o → (sortedHeap (h'.push (seqObj "list" its.toArray.toList.toArray 0)) h'.objs.size its.toArray.toList out).get? b = some o := fun b o e' => by
    have hlt := Heap.lt_size e'
    rw [sortedHeap_old (Nat.ne_of_lt hlt) (by rw [Heap.size_push]; exact Nat.lt_succ_of_lt hlt), Heap.get?_push_ne _ _ _ (Nat.ne_of_lt hlt)]
    exact e'
  have hylen : (ys.map V.str).length ≤ sizeLine := by
    rw [List.length_map, b2.length_eq, ← hlen]
    exact hacl
  have hok' := I.hok.kept hk
  have hn : H h'.objs.size = none := hok'.fresh (Nat.le_refl _)
  have un0 : Un (frs X.stack) [] H H s.heap h' := ⟨fun b o q _ _ _ => hk b o q, fun b o q _ _ _ => ⟨o.slots, hk b o q⟩, fun _ _ _ n _ => n, fun b o q _ => ⟨o, hk b o q⟩, fun _ _ q => q, fun _ _ _ q => q, fun b ps q => ⟨#[], by rw [q]; simp⟩⟩
  exact ⟨.ref h'.objs.size, upd H h'.objs.size (.lst (ys.map V.str)), I.call' (ch := []) rfl (un0.trans (Un.laid hk2 (Nat.le_refl _) hn)) (hok'.laid hk2 (Nat.le_refl _) ⟨hylen, out.toList, ep, vals_of_strs b1, he⟩) I.bare (fun _ z => nomatch z), rfl, q ys _ b2 b3 hn⟩
theorem cr_sortA {X : Cx} : CallR X (.builtin "sorted") (rSortA X.K) := by
  intro pins s σ H vs us Q I r h
  obtain ⟨a, xs, rfl, hs, q⟩ := h
  rw [Vals.ref1 r]
  rcases hs with hs | hs
  · obtain ⟨its, rv, hl, hz⟩ := I.list hs
    have hlen0 := rv.length
    refine PyProof.Rows.sorted_strsAny hl.isList rv.strs (by rw [← hlen0]; exact hz) fun out ys h1 h2 h3 => ?_
    obtain ⟨ep, he'⟩ := PyProof.Rows.sortedAll_at s.heap its out
    have hlen : (ys.map V.str).length ≤ sizeLine := by
      rw [List.length_map, h2.length_eq]
      rw [List.length_map] at hz
      exact hz
    exact ⟨.ref _, upd H (s.heap.objs.size + 1) (.lst (ys.map V.str)), I.laid (t' := s.toks) (fun _ _ => PyProof.Rows.sortedAll_old) (Nat.le_succ _) ⟨hlen, out.toList, ep, vals_of_strs h1, he'⟩, rfl, q ys _ h2 h3 (I.hok.fresh (Nat.le_succ _))⟩
  · exact cr_sortT I hs q
theorem cpsMap (ls : List (List Nat)) : (ls.map sOf).map (fun s => s.cps.toList) = ls := by
  rw [List.map_map]
  exact (List.map_congr_left fun l _ => rfl).trans (List.map_id ls)
theorem snd_sorted {K : PySem.W.Frag} : CaSnd (rSortA K) sortedG := by
  intro H ρ S xs z vs Q st rs e k
  unfold sortedG at e
  split at e
  · rename_i x
    obtain ⟨v, us, rfl, rx, ru⟩ := rs
    cases ru
    split at e
    · rename_i ds ed
      split at e
      · rename_i ls el
        cases e
        obtain ⟨a, vs, rfl, hH, rv⟩ := asQ_rep (K := K) st rx ed
        have ev := strs_map el rv
        subst ev
        refine ⟨a, ls.map sOf, rfl, hH, fun ys p hp hs hn => ?_⟩
        have e2 : ys.map (fun s => s.cps.toList) = sortT ls := by
          refine sortT_unique ?_ ?_
          · have := hp.map (fun s : Str => s.cps.toList)
            rwa [cpsMap] at this
          · exact List.pairwise_map.mpr (pw_sorted ys hs)
        have r2 := reps_strs H ρ ys
        rw [e2] at r2
        exact KD.lst k st r2 hn
      · cases e
    · cases e
  · cases e
def list3G (S : Store) (xs : List D) : Option D := match list2G S xs with
  | some d => some d
  | none => match xs with
    | [x] => match asDct S x with
      | some (ks, _) => some (.lst (ks.map kD))
      | none => none
    | _ => none
def rList3 (K : PySem.W.Frag) : List V → Hp → VK → Prop := fun xs H Q => rList2 K xs H Q ∨ ∃ (a : Addr) (kvs : List (Key × V)), xs = [.ref a] ∧ Rd H a (.dK kvs) ∧ ∀ p, H p = none → Q (.ref p) (upd H p (.lst (kvs.map fun kv => kV kv.1)))
theorem call_list3 {X : Cx} (hc : X.calm = true) : CallR X (.type "list") (rList3 X.K) := CallR.or (call_list2 hc) (call_listD hc)
theorem kDs_rep {H : Hp} {ρ : List Addr} : ∀ ks : List Key, Reps H ρ (ks.map kD) (ks.map kV)
  | [] => rfl
  | k :: ks => ⟨_, _, rfl, kD_rep k, kDs_rep ks⟩
theorem zip_keys {α : Type} : ∀ {ks : List Key} {vs : List α}, ks.length = vs.length → (ks.zip vs).map (fun kv => kV kv.1) = ks.map kV
  | [], _, _ => by simp
  | _ :: _, [], h => by cases h
  | k :: ks, v :: vs, h => by
    rw [List.zip_cons_cons, List.map_cons, List.map_cons, zip_keys (by simpa using h)]
theorem snd_list3 {K : PySem.W.Frag} : CaSnd (rList3 K) list3G := by
  intro H ρ S xs z vs Q st rs e k
  unfold list3G at e
  split at e
  · rename_i d ed
    cases e
    exact .inl (snd_list2 H ρ S xs _ vs Q st rs ed k)
  · split at e
    · rename_i x
      split at e
      · rename_i ks ds ed
        cases e
        obtain ⟨v, us, rfl, rx, ru⟩ := rs
        cases ru
        obtain ⟨a, vs, rfl, h1, l, r1⟩ := asDct_rep st rx ed
        refine .inr ⟨a, _, rfl, h1, fun p hp => ?_⟩
        rw [zip_keys (by rw [l, r1.len])]
        exact KD.lst k st (kDs_rep ks) hp
      · cases e
    · cases e
section
variable {X : Cx} {W : WX} {e o i value : Expr} {es : List Expr} {ms : MA} {me mo mi mv : ME} {x : Str} {p pos pos' : Pos}
def replL {α : Type} (k : Key) (v : α) : List Key → List α → List α
  | q :: ks, x :: xs => (if q = k then v else x) :: replL k v ks xs
  | _, _ => []
def putD {α : Type} (ks : List Key) (xs : List α) (k : Key) (v : α) : List Key × List α := if memK ks k = true then (ks, replL k v ks xs) else (ks ++ [k], xs ++ [v])
theorem replL_len {α : Type} {k : Key} {v : α} : ∀ {ks : List Key} {xs : List α}, ks.length = xs.length → (replL k v ks xs).length = ks.length
  | [], _, _ => rfl
  | _ :: _, [], h => by cases h
  | q :: ks, x :: xs, h => by simp [replL, replL_len (k := k) (v := v) (ks := ks) (xs := xs) (by simpa using h)]
theorem zip_repl {k : Key} {v : V} : ∀ {ks : List Key} {xs : List V}, ks.length = xs.length → (ks.zip xs).map (fun kv => if kv.1 = k then (kv.1, v) else kv) = ks.zip (replL k v ks xs)
  | [], _, _ => by simp
  | _ :: _, [], h => by cases h
  | q :: ks, x :: xs, h => by
    rw [List.zip_cons_cons, List.map_cons, zip_repl (by simpa using h), replL, List.zip_cons_cons]
    by_cases e : q = k
    · simp [e]
    · simp [e]
theorem zip_any {α : Type} {k : Key} : ∀ {ks : List Key} {xs : List α}, ks.length = xs.length → (ks.zip xs).any (fun kv => decide (kv.1 = k)) = memK ks k
  | [], _, _ => by simp [memK]
  | _ :: _, [], h => by cases h
  | q :: ks, x :: xs, h => by
    rw [List.zip_cons_cons, List.any_cons, zip_any (by simpa using h)]
    simp [memK]
theorem zip_app {ks : List Key} {xs : List V} {k : Key} {v : V} (h : ks.length = xs.length) : ks.zip xs ++ [(k, v)] = (ks ++ [k]).zip (xs ++ [v]) := by
  rw [List.zip_append h]
  rfl
theorem putD_zip {ks : List Key} {xs : List V} {k : Key} {v : V} (h : ks.length = xs.length) : putK (ks.zip xs) k v = (putD ks xs k v).1.zip (putD ks xs k v).2 := by
  unfold putK putD
  rw [zip_any h, zip_repl h, zip_app h]
  by_cases e : memK ks k = true
  · rw [if_pos e, if_pos e]
  · rw [if_neg e, if_neg e]
theorem putD_len {α : Type} {ks : List Key} {xs : List α} {k : Key} {v : α} (h : ks.length = xs.length) : (putD ks xs k v).1.length = (putD ks xs k v).2.length := by
  unfold putD
  split
  · rw [replL_len h]
  · simp [h]
theorem Reps.repl {H : Hp} {ρ : List Addr} {k : Key} {d : D} {v : V} (r : Rep H ρ d v) : ∀ {ks : List Key} {ds : List D} {vs : List V}, Reps H ρ ds vs → Reps H ρ (replL k d ks ds) (replL k v ks vs)
  | [], _, _, _ => by simp [replL, Reps]
  | _ :: _, [], vs, h => by cases h; simp [replL, Reps]
  | q :: ks, x :: ds, vs, h => by
    obtain ⟨u, us, rfl, h1, h2⟩ := h
    unfold replL
    refine Reps.cons ?_ (Reps.repl r h2)
    split
    · exact r
    · exact h1
theorem Reps.putD {H : Hp} {ρ : List Addr} {ks : List Key} {k : Key} {d : D} {v : V} {ds : List D} {vs : List V} (r : Rep H ρ d v) (h : Reps H ρ ds vs) : (SL.putD ks ds k d).1 = (SL.putD ks vs k v).1 ∧ Reps H ρ (SL.putD ks ds k d).2 (SL.putD ks vs k v).2 := by
  unfold SL.putD
  split
  · exact ⟨rfl, Reps.repl r h⟩
  · exact ⟨rfl, h.append (Reps.one r)⟩
def locD (S : Store) : D → Option (Nat × List Key × List D)
  | .loc n => match S[n]? with
    | some (.dct ks ds) => some (n, ks, ds)
    | _ => none
  | _ => none
def setXM (mo mi mv : ME) : MS := fun δ S => bindS (mv δ S) δ fun d S1 => bindS (mo δ S1) δ fun x S2 => bindS (mi δ S2) δ fun y S3 => match locL S3 x with
  | some (n, ds) => match setG ds y d with
    | some es => .nx δ (S3.set n (.lst es))
    | none => .stuck
  | none => match locD S3 x, keyD y with
    | some (n, ks, ds), some k => if ks.length < 1000000 then .nx δ (S3.set n (.dct (putD ks ds k d).1 (putD ks ds k d).2)) else .stuck
    | _, _ => .stuck
theorem pset_or {r r2 : TSet} (a : PSet X r) (b : PSet X r2) : PSet X (fun o i v H Q => r o i v H Q ∨ r2 o i v H Q) := by
  intro pins s σ H o i v ov iv u Q I ro ri rv h
  rcases h with h | h
  · exact a pins s σ H o i v ov iv u Q I ro ri rv h
  · exact b pins s σ H o i v ov iv u Q I ro ri rv h
theorem ps_dsetx (hu : X.A.units + 64 < cLine) (ho : PE X o (tE W mo)) (hi : PE X i (tE W mi)) (hv : PE X value (tE W mv))
    (ha : ∀ v, assign (.Subscript o i pos') X.env v = (do
      let ov ← holding [v] (eval o X.env)
      let iv ← holding [v, ov] (eval i X.env)
      standAt pos'
      holding [v, ov, iv] (setItem ov iv v)
      release [v, ov, iv] []) := by intro _; rfl) (hs : swapsWithSole [.Subscript o i pos'] value pos.line X.env = pure false := by rfl) (hw : swappedStores [.Subscript o i pos'] value X.env = pure none := by rfl)
    (h1 : (assignEach [.Subscript o i pos'] X.env).map (·.2) = [assign (.Subscript o i pos') X.env] := by rfl) : PS X (.Assign [.Subscript o i pos'] value pos) (tS W (setXM mo mi mv)) :=
  PS.weak (ps_asg hv (pg_sub ho hi (pset_or set_list (set_dict (by omega))) ha) hs hw h1) fun G σ H h => by
    obtain ⟨δ, S, ρ, I, h⟩ := h
    refine bindGF I h fun d v S1 H1 ρ1 n1 I1 r1 h1 => ?_
    refine bindGF I1 h1 fun x u S2 H2 ρ2 n2 I2 r2 h2 => ?_
    refine bindGF I2 h2 fun y w S3 H3 ρ3 n3 I3 r3 h3 => ?_
    split at h3
    · rename_i n ds el
      obtain ⟨rfl, ec, aa, vs, rfl, ea, hH, rv⟩ := locL_rep I3.st (Rep.mono n3 _ _ r2) el
      unfold setG at h3
      split at h3
      · rename_i es eg
        split at eg
        · rename_i kk
          split at eg
          · rename_i jj ej
            cases eg
            cases r3
            have hm : aa ∈ ρ3 := List.mem_of_getElem? ea
            have rd := Rep.mono (n2.trans n3) _ _ r1
            have rs := Reps.set jj rv rd
            have nx : Nx H3 ρ3 (upd H3 aa (.lst (vs.set jj v))) ρ3 := Nx.set hm (by rw [hH]; simp)
            have st3 := I3.st.set (o := .lst (vs.set jj v)) (c := .lst (ds.set jj d)) ea ⟨_, upd_same, Reps.mono nx _ _ rs⟩
            exact .inl ⟨aa, vs, kk, jj, rfl, rfl, hH, by rw [← rv.len]; exact ej, h3 σ _ ρ3 nx ⟨st3, I3.env.mono nx⟩⟩
          · cases eg
        · cases eg
      · exact False.elim h3
    · split at h3
      · rename_i n ks ds k el ek
        split at h3
        · rename_i hl
          cases x with
          | loc m =>
            simp only [locD] at el
            split at el
            · rename_i ks' ds' ec
              cases el
              obtain ⟨aa, ea, rfl⟩ := Rep.mono n3 _ _ r2
              obtain ⟨vs, hH, l, rv⟩ := I3.st.cells _ aa _ ea ec
              have ey := keyD_rep r3 ek
              subst ey
              have hm : aa ∈ ρ3 := List.mem_of_getElem? ea
              have rd := Rep.mono (n2.trans n3) _ _ r1
              have lv : ks.length = vs.length := by rw [l, rv.len]
              obtain ⟨e1, rs⟩ := Reps.putD (ks := ks) (k := k) rd rv
              have nx : Nx H3 ρ3 (upd H3 aa (.dK (putK (ks.zip vs) k v))) ρ3 := Nx.set hm (by rw [hH]; simp)
              have st3 := I3.st.set (o := .dK (putK (ks.zip vs) k v)) (c := .dct (SL.putD ks ds k d).1 (SL.putD ks ds k d).2) ea ⟨_, by rw [upd_same, putD_zip lv, ← e1], putD_len l, Reps.mono nx _ _ rs⟩
              exact .inr ⟨aa, _, rfl, DPut.k hH (by rw [zip_len lv]; exact Nat.lt_of_lt_of_le hl (by decide)), h3 σ _ ρ3 nx ⟨st3, I3.env.mono nx⟩⟩
            · cases el
          | _ => cases el
        · exact False.elim h3
      · exact False.elim h3
end
def pairsM : List (ME × ME) → DEnv → Store → Res (List (D × D))
  | [], _, S => .ok [] S
  | (mk, mv) :: r, δ, S => (mk δ S).bind fun k S1 => (mv δ S1).bind fun v S2 => (pairsM r δ S2).bind fun ps S3 => .ok ((k, v) :: ps) S3
def mergeD : List Key → List D → List (Key × D) → List Key × List D
  | ks, ds, [] => (ks, ds)
  | ks, ds, (k, d) :: r => mergeD (putD ks ds k d).1 (putD ks ds k d).2 r
def keysP : List (D × D) → Option (List (Key × D))
  | [] => some []
  | (x, d) :: r => match keyD x, keysP r with
    | some k, some qs => some ((k, d) :: qs)
    | _, _ => none
def dispM (ps : List (ME × ME)) : ME := fun δ S => (pairsM ps δ (S ++ [.dct [] []])).bind fun xs S1 => match keysP xs, S1[S.length]? with
  | some qs, some (.dct [] []) => if qs.length ≤ 15 then .ok (.loc S.length) (S1.set S.length (.dct (mergeD [] [] qs).1 (mergeD [] [] qs).2)) else .stuck
  | _, _ => .stuck
abbrev RepP : Hp → List Addr → List (D × D) → List (V × V) → Prop := fun H ρ xs vs => Reps H ρ (xs.map (·.1)) (vs.map (·.1)) ∧ Reps H ρ (xs.map (·.2)) (vs.map (·.2))
theorem RepP.mono {H H' : Hp} {ρ ρ' : List Addr} {xs : List (D × D)} {vs : List (V × V)} (n : Nx H ρ H' ρ') (r : RepP H ρ xs vs) : RepP H' ρ' xs vs := ⟨Reps.mono n _ _ r.1, Reps.mono n _ _ r.2⟩
section
variable {X : Cx} {W : WX} {pos : Pos}
theorem tPairs_of : ∀ {ps : List (ME × ME)} {σ : St} {H : Hp} {δ : DEnv} {S : Store} {ρ : List Addr} {Q : List (V × V) → Hp → Prop}, StE σ H δ S ρ → RunG W RepP σ H ρ (pairsM ps δ S) Q → tPairs (ps.map fun p => (tE W p.1, tE W p.2)) σ H Q
  | [], σ, H, δ, S, ρ, Q, I, h => RunG.ok h I.st ⟨rfl, rfl⟩
  | (mk, mv) :: r, σ, H, δ, S, ρ, Q, I, h => by
    unfold pairsM at h
    refine bindG I h fun k x S1 H1 ρ1 n1 I1 r1 h1 => ?_
    refine bindG I1 h1 fun v y S2 H2 ρ2 n2 I2 r2 h2 => ?_
    refine tPairs_of I2 ?_
    have r1' := Rep.mono n2 _ _ r1
    cases e : pairsM r δ S2 with
    | ok ps S3 =>
      rw [e] at h2
      simp only [bind_ok] at h2
      exact fun qs H3 ρ3 n3 st3 r3 => RunG.okN h2 n3 st3 ⟨⟨_, _, rfl, Rep.mono n3 _ _ r1', r3.1⟩, ⟨_, _, rfl, Rep.mono n3 _ _ r2, r3.2⟩⟩
    | exc x S3 => rw [e] at h2; exact h2
    | stuck => rw [e] at h2; exact h2
theorem mergeD_rep {H : Hp} {ρ : List Addr} : ∀ {qs : List (Key × D)} {ws : List (Key × V)} {ks : List Key} {ds : List D} {vs : List V}, qs.map (·.1) = ws.map (·.1) → Reps H ρ (qs.map (·.2)) (ws.map (·.2)) → ks.length = ds.length → Reps H ρ ds vs →
    ∃ us, mergeK (ks.zip vs) ws = (mergeD ks ds qs).1.zip us ∧ (mergeD ks ds qs).1.length = (mergeD ks ds qs).2.length ∧ Reps H ρ (mergeD ks ds qs).2 us
  | [], [], ks, ds, vs, _, _, l, r => ⟨vs, rfl, l, r⟩
  | [], _ :: _, ks, ds, vs, e, _, l, r => by simp at e
  | _ :: _, [], ks, ds, vs, e, _, l, r => by simp at e
  | (k, d) :: qs, (k', w) :: ws, ks, ds, vs, e, rr, l, r => by
    simp only [List.map_cons, List.cons.injEq] at e
    obtain ⟨rfl, e⟩ := e
    obtain ⟨w', us', e3, r1, r2⟩ := rr
    simp only [List.map_cons, List.cons.injEq] at e3
    obtain ⟨rfl, rfl⟩ := e3
    obtain ⟨p1, p2⟩ := Reps.putD (ks := ks) (k := k) r1 r
    have lv : ks.length = vs.length := by rw [l, r.len]
    obtain ⟨us, q1, q2, q3⟩ := mergeD_rep (qs := qs) (ws := ws) e r2 (putD_len (k := k) (v := d) l) p2
    refine ⟨us, ?_, q2, q3⟩
    show mergeK (putK (ks.zip vs) k w) ws = _
    rw [putD_zip lv, ← p1]
    exact q1
theorem keysP_rep {H : Hp} {ρ : List Addr} : ∀ {xs : List (D × D)} {qs : List (Key × D)} {vs : List (V × V)}, keysP xs = some qs → RepP H ρ xs vs → ∃ ws : List (Key × V), vs = ws.map (fun kv => (kV kv.1, kv.2)) ∧ qs.map (·.1) = ws.map (·.1) ∧ Reps H ρ (qs.map (·.2)) (ws.map (·.2)) ∧ ws.length = qs.length
  | [], qs, vs, h, r => by
    cases h
    have : vs = [] := by
      have e : vs.map (·.1) = [] := r.1
      simpa using e
    subst this
    exact ⟨[], rfl, rfl, rfl, rfl⟩
  | (x, d) :: xs, qs, vs, h, r => by
    simp only [keysP] at h
    split at h
    · rename_i k qs' e1 e2
      cases h
      obtain ⟨⟨v1, us, a1, a2, a3⟩, ⟨v2, ws, b1, b2, b3⟩⟩ := r
      cases vs with
      | nil => simp at a1
      | cons v vs =>
        simp only [List.map_cons, List.cons.injEq] at a1 b1
        obtain ⟨rfl, rfl⟩ := a1
        obtain ⟨rfl, rfl⟩ := b1
        obtain ⟨ws, c1, c2, c3, c4⟩ := keysP_rep e2 ⟨a3, b3⟩
        have ek := keyD_rep a2 e1
        refine ⟨(k, v.2) :: ws, ?_, by simp [c2], ⟨v.2, _, rfl, b2, c3⟩, by simp [c4]⟩
        rw [List.map_cons, ← c1, ← ek]
    · cases h
theorem pd_disp {keys : List (Option Expr)} {values : List Expr} {ps : List (ME × ME)} (h : PPs X pos keys values (ps.map fun p => (tE W p.1, tE W p.2))) (hall : keys.all (·.isSome) = true := by rfl) (hl : keys.length = values.length := by rfl) (h0 : keys ≠ [] := by decide)
    (h15 : keys.length ≤ 15 := by decide) : PE X (.Dict keys values pos) (tE W (dispM ps)) := PE.weak (pe_disp h hall hl h0 h15) fun σ H Q h => by
  obtain ⟨δ, S, ρ, I, h⟩ := h
  intro p hp
  have n0 : Nx H ρ (upd H p (.dK [])) (ρ ++ [p]) := Nx.push hp
  have st0 : StS (upd H p (.dK [])) (S ++ [.dct [] []]) (ρ ++ [p]) := I.st.push hp ⟨[], by rw [upd_same]; rfl, rfl, Reps.nil⟩
  have I0 : StE σ (upd H p (.dK [])) δ (S ++ [.dct [] []]) (ρ ++ [p]) := ⟨st0, I.env.mono n0⟩
  refine tPairs_of I0 ?_
  unfold dispM at h
  cases e : pairsM ps δ (S ++ [.dct [] []]) with
  | stuck => rw [e] at h; exact False.elim h
  | exc x S1 =>
    rw [e] at h
    exact fun c dd H' ρ' n st r => h c dd H' ρ' (n0.trans n) st r
  | ok xs S1 =>
    rw [e] at h
    simp only [bind_ok] at h
    intro vs H1 ρ1 n1 st1 r1
    split at h
    · rename_i qs eq ec
      split at h
      · rename_i hl
        obtain ⟨ws, rfl, c2, c3, c4⟩ := keysP_rep eq r1
        have hpρ : ρ1[S.length]? = some p := n1.at (by rw [← I.st.len]; simp)
        obtain ⟨us, hH, l0, ru⟩ := st1.cells _ p _ hpρ ec
        cases ru
        refine ⟨hH, ws, rfl, by rw [c4]; exact hl, ?_⟩
        have hm : p ∈ ρ1 := List.mem_of_getElem? hpρ
        obtain ⟨us, q1, q2, q3⟩ := mergeD_rep (ks := []) (ds := []) (vs := []) c2 c3 rfl Reps.nil
        have q1' : mergeK [] ws = (mergeD [] [] qs).1.zip us := q1
        have nx : Nx H1 ρ1 (upd H1 p (.dK (mergeK [] ws))) ρ1 := Nx.set hm (by rw [hH]; simp)
        have st2 := st1.set (o := .dK (mergeK [] ws)) (c := .dct (mergeD [] [] qs).1 (mergeD [] [] qs).2) hpρ ⟨us, by rw [upd_same, q1'], q2, Reps.mono nx _ _ q3⟩
        exact RunG.okN h ((n0.trans n1).trans nx) st2 ⟨p, hpρ, rfl⟩
      · exact False.elim h
    · exact False.elim h
theorem pps_dcons {k v : Expr} {ks : List (Option Expr)} {vs : List Expr} {mk mv : ME} {ps : List (ME × ME)} (hk : PE X k (tE W mk)) (hv : PE X v (tE W mv)) (h : PPs X pos ks vs (ps.map fun p => (tE W p.1, tE W p.2))) : PPs X pos (some k :: ks) (v :: vs) (((mk, mv) :: ps).map fun p => (tE W p.1, tE W p.2)) := pps_cons hk hv h
theorem pps_dnil : PPs X pos [] [] (([] : List (ME × ME)).map fun p => (tE W p.1, tE W p.2)) := pps_nil
end
def putC (n : Nat) (S : Store) (k d : D) : Option Store := match S[n]? with
  | some (.dct ks ds) => match keyD k with
    | some q => if ks.length < 1000000 then some (S.set n (.dct (putD ks ds q d).1 (putD ks ds q d).2)) else none
    | none => none
  | _ => none
open Classical in
noncomputable def compDL (src : Src) (tg : Tg) (tst : MB) (ke ve : ME) (n : Nat) (ds : List D) (δ : DEnv) : List D → Store → Option Store
  | [], S => if items S src = some ds then some S else none
  | d :: r, S => if items S src = some ds then (match bindT tg d δ with
      | some δ1 => match tst δ1 S with
        | .ok true S1 => match ke δ1 S1 with
          | .ok k S2 => match ve δ1 S2 with
            | .ok x S3 => match putC n S3 k x with
              | some S4 => compDL src tg tst ke ve n ds δ r S4
              | none => none
            | _ => none
          | _ => none
        | .ok false S1 => compDL src tg tst ke ve n ds δ r S1
        | _ => none
      | none => none) else none
noncomputable def compDM (mi : DEnv → Store → Res Src) (tg : Tg) (tst : MB) (ke ve : ME) (vs : List Nat) : ME := fun δ S => (mi δ S).bind fun src S1 => match items S1 src with
  | some ds => match compDL src tg tst ke ve S1.length ds (wipeD δ vs) ds (S1 ++ [.dct [] []]) with
    | some Sf => .ok (.loc S1.length) Sf
    | none => .stuck
  | none => .stuck
section
variable {X : Cx} {W : WX}
theorem tDc_of {mi : DEnv → Store → Res Src} {tg : Tg} {tst : MB} {ke ve : ME} {vs : List Nat} (hv : ∀ j ∈ tg.sl, j ∈ vs) {σ : St} {H1 : Hp} {δ : DEnv} {S1 Sf : Store} {ρ1 : List Addr} {src : Src} {J : It} {ds : List D} {Q : VK}
    (I1 : StE σ H1 δ S1 ρ1) (r1 : ItR H1 ρ1 src J) (hc : compDL src tg tst ke ve S1.length ds (wipeD δ vs) ds (S1 ++ [.dct [] []]) = some Sf) {p : Addr} (hp : H1 p = none)
    (hq : ∀ H' ρ', Nx H1 (ρ1 ++ [p]) H' ρ' → StS H' Sf ρ' → Q (.ref p) H') :
    ∃ WW : Nat → Nat → Hp → Prop, (∃ m, WW 0 m (upd H1 p (.dK []))) ∧ ∀ i m H, WW i m H →
  (J.stop i H ∧ Q (.ref p) H) ∨ (J.go i H ∧ ∃ Nt : Hp → Prop, (∀ H', Nt H' → ∃ m', m' < m ∧ WW (i + 1) m' H') ∧ ∀ x H', J.yld i H x H' → gD tg x (wipe σ vs) H' fun σ2 H2 => wipe σ2 vs = wipe σ vs ∧ tT W0 tst σ2 H2 fun b H3 =>
    if b = true then tE W0 ke σ2 H3 fun y H4 => tE W0 ve σ2 H4 fun z H5 => ∃ kvs k, y = kV k ∧ H5 p = some (.dK kvs) ∧ kvs.length < sizeLine ∧ Nt (upd H5 p (.dK (putK kvs k z))) else Nt H3) := by
  have n0 : Nx H1 ρ1 (upd H1 p (.dK [])) (ρ1 ++ [p]) := Nx.push hp
  have st0 : StS (upd H1 p (.dK [])) (S1 ++ [.dct [] []]) (ρ1 ++ [p]) := I1.st.push hp ⟨[], by rw [upd_same]; rfl, rfl, Reps.nil⟩
  have env0 := (EnvS.wipe I1.env vs).mono n0
  refine ⟨fun i m H => ∃ S ρ, StS H S ρ ∧ Nx (upd H1 p (.dK [])) (ρ1 ++ [p]) H ρ ∧ Nx H1 (ρ1 ++ [p]) H ρ ∧ m = ds.length - i ∧ compDL src tg tst ke ve S1.length ds (wipeD δ vs) (ds.drop i) S = some Sf, ⟨_, _, _, st0, Nx.refl _ _, ?_, rfl, by simpa using hc⟩, ?_⟩
  · refine ⟨⟨[], by simp⟩, fun a h k => absurd h k, n0.thr, fun a o h k t => ?_, fun a ps h k => ?_⟩
    · exact n0.stay a o h (fun z => k (List.mem_append_left _ z)) t
    · exact n0.tbl a ps h (fun z => k (List.mem_append_left _ z))
  rintro i m H ⟨S, ρ, st, nx, nx', rfl, hl⟩
  have hpρ : ρ[S1.length]? = some p := by
    have : (ρ1 ++ [p])[S1.length]? = some p := by rw [← I1.st.len]; simp
    exact nx.at this
  cases ed : ds[i]? with
  | none =>
    have hd : ds.drop i = [] := List.drop_eq_nil_of_le (List.getElem?_eq_none_iff.mp ed)
    rw [hd] at hl
    unfold compDL at hl
    split at hl
    · rename_i ei
      have eS : S = Sf := Option.some.inj hl
      subst eS
      obtain ⟨_, f⟩ := r1 i H ρ S ds (n0.trans nx) st ei
      exact .inl ⟨f ed, hq H ρ nx' st⟩
    · cases hl
  | some d =>
    have hil := (List.getElem?_eq_some_iff.mp ed).1
    have hd : ds.drop i = d :: ds.drop (i + 1) := by
      rw [List.drop_eq_getElem_cons hil, (List.getElem?_eq_some_iff.mp ed).2]
    rw [hd] at hl
    unfold compDL at hl
    split at hl
    · rename_i ei
      obtain ⟨f, _⟩ := r1 i H ρ S ds (n0.trans nx) st ei
      obtain ⟨go, y⟩ := f d ed
      refine .inr ⟨go, fun H2 => ∃ S2 ρ2, StS H2 S2 ρ2 ∧ Nx (upd H1 p (.dK [])) (ρ1 ++ [p]) H2 ρ2 ∧ Nx H1 (ρ1 ++ [p]) H2 ρ2 ∧ compDL src tg tst ke ve S1.length ds (wipeD δ vs) (ds.drop (i + 1)) S2 = some Sf, fun H2 ⟨S2, ρ2, q1, q2, q2', q3⟩ => ⟨_, Nat.sub_lt_sub_left hil (Nat.lt_succ_self i), S2, ρ2, q1, q2, q2', rfl, q3⟩, ?_⟩
      intro x H2 hy
      obtain ⟨n2, st2, rx⟩ := y x H2 hy
      split at hl
      · rename_i δ1 eb
        refine ⟨d, wipeD δ vs, S, ρ, δ1, ⟨st2, env0.mono (nx.trans n2)⟩, rx, eb, fun σ3 I3 o3 => ⟨wipe_off o3 hv, δ1, S, ρ, I3, ?_⟩⟩
        split at hl
        · rename_i S4 et
          rw [et]
          intro b H4 ρ4 n4 st4 rb
          cases rb
          rw [if_pos rfl]
          refine ⟨δ1, S4, ρ4, I3.next n4 st4, ?_⟩
          split at hl
          · rename_i kd S5 ee
            rw [ee]
            intro u H5 ρ5 n5 st5 ru
            refine ⟨δ1, S5, ρ5, (I3.next n4 st4).next n5 st5, ?_⟩
            split at hl
            · rename_i xd S6 ev
              rw [ev]
              intro v H6 ρ6 n6 st6 rv
              split at hl
              · rename_i S7 ea
                unfold putC at ea
                split at ea
                · rename_i ks acc e6
                  split at ea
                  · rename_i q eq
                    split at ea
                    · rename_i hacc
                      cases ea
                      have n26 := ((n2.trans n4).trans n5).trans n6
                      have hp6 : ρ6[S1.length]? = some p := n26.at hpρ
                      obtain ⟨ws, h6, lw, rs⟩ := st6.cells S1.length p _ hp6 e6
                      have hm : p ∈ ρ6 := List.mem_of_getElem? hp6
                      have lv : ks.length = ws.length := by rw [lw, rs.len]
                      have eu := keyD_rep ru eq
                      obtain ⟨p1, p2⟩ := Reps.putD (ks := ks) (k := q) rv rs
                      have n7 : Nx H6 ρ6 (upd H6 p (.dK (putK (ks.zip ws) q v))) ρ6 := Nx.set hm (by rw [h6]; simp)
                      refine ⟨_, q, eu, h6, by rw [zip_len lv]; exact Nat.lt_of_lt_of_le hacc (by decide), _, ρ6, st6.set (c := .dct (SL.putD ks acc q xd).1 (SL.putD ks acc q xd).2) hp6 ⟨_, by rw [upd_same, putD_zip lv, ← p1], putD_len lw, Reps.mono n7 _ _ p2⟩, (nx.trans n26).trans n7, (nx'.trans n26).trans n7, hl⟩
                    · cases ea
                  · cases ea
                · cases ea
              · cases hl
            · cases hl
          · cases hl
        · rename_i S4 et
          rw [et]
          intro b H4 ρ4 n4 st4 rb
          cases rb
          rw [if_neg Bool.false_ne_true]
          exact ⟨S4, ρ4, st4, (nx.trans n2).trans n4, (nx'.trans n2).trans n4, hl⟩
        · cases hl
      · cases hl
    · cases hl
theorem nx_push_of {H1 H' : Hp} {ρ1 ρ' : List Addr} {p : Addr} (hp : H1 p = none) (n : Nx H1 (ρ1 ++ [p]) H' ρ') : Nx H1 ρ1 H' ρ' := by
  obtain ⟨t, ht⟩ := n.pre
  refine ⟨⟨[p] ++ t, by rw [ht]; simp⟩, fun a ha na => ?_, n.thr, fun a o ho na t' => ?_, fun a ps ho na => ?_⟩
  · by_cases hap : a = p
    · rw [hap]; exact hp
    · exact n.new a ha (by simp [na, hap])
  · exact n.stay a o ho (by simp [na, ne_of_none ho hp]) t'
  · exact n.tbl a ps ho (by simp [na, ne_of_none ho hp])
variable {kx vx tge iter : Expr} {ifs : List Expr} {scope : Scope} {own : List (Str × Nat)} {pos : Pos} {mi : DEnv → Store → Res Src} {tg : Tg} {tst : MB} {ke ve : ME}
theorem tE_dc {wi : TI} (hw : ∀ σ H R, tG W ItR mi σ H R → wi σ H R) {vs : List Nat} (hv : ∀ j ∈ tg.sl, j ∈ vs) (σ : St) (H : Hp) (Q : VK) (h : tE W (compDM mi tg tst ke ve vs) σ H Q) : tDc wi (gD tg) (tT W0 tst) (tE W0 ke) (tE W0 ve) vs σ H Q := by
  obtain ⟨δ, S, ρ, I, h⟩ := h
  refine hw σ H _ (bindG I h fun src J S1 H1 ρ1 n1 I1 r1 h1 => fun p hp => ?_)
  split at h1
  · rename_i ds eds
    split at h1
    · rename_i Sf ec
      refine tDc_of (mi := mi) hv I1 r1 ec hp fun H' ρ' n st => ?_
      exact RunG.okN h1 (nx_push_of hp n) st ⟨p, n.at (by rw [← I1.st.len]; simp), rfl⟩
    · exact False.elim h1
  · exact False.elim h1
theorem ps_setDc {i : Nat} {y : Str} {py spos : Pos} {wi : TI} {g : TG} {tt : TT} {tk tv : TE} (hc : X.calm = true) (hN : X.N.Nodup) (hy : X.N[i]? = some y) (hyl : X.env.scope.names.lookup y = some .local)
    (hsw : swapsWith (.DictComp kx vx [⟨tge, iter, ifs, 0⟩] scope pos) (some (.Name y py)) spos.line X.env = pure true) (hi : PI X tge iter wi) (ok : BlkOk X.N X.env.scope scope own)
    (hg : ∀ (s : Shared) (H : Hp) (C : Addr) (cl : List (Str × Addr)) (fp : List Addr), PG (X.blk s H scope (compEnvC scope cl C X.env) fp) tge g) (ht : ∀ (s : Shared) (H : Hp) (C : Addr) (cl : List (Str × Addr)) (fp : List Addr), PTs (X.blk s H scope (compEnvC scope cl C X.env) fp) ifs tt)
    (hk : ∀ (s : Shared) (H : Hp) (C : Addr) (cl : List (Str × Addr)) (fp : List Addr), PE (X.blk s H scope (compEnvC scope cl C X.env) fp) kx tk)
    (he : ∀ (s : Shared) (H : Hp) (C : Addr) (cl : List (Str × Addr)) (fp : List Addr), PE (X.blk s H scope (compEnvC scope cl C X.env) fp) vx tv) (hs : ∀ x, foldedSetIterable iter X.env x = pure x := by intro _; rfl) :
    PS X (.Assign [.Name y py] (.DictComp kx vx [⟨tge, iter, ifs, 0⟩] scope pos) spos) (tAsg (tDc wi g tt tk tv (own.map (·.2))) (gName i)) := by
  refine ⟨fun pins s σ H D I h => ?_⟩
  rw [exec_Assign_Name_used _ _ _ _ hsw]
  refine wpAny_bind (wpAny_standAt (wpAny_bind ?_))
  show wpAny _ X.A (do let _ ← comprehension (.DictComp kx vx [⟨tge, iter, ifs, 0⟩] scope pos) scope X.env (firstIterPos [⟨tge, iter, ifs, 0⟩] pos) newDict false (eval iter X.env) (some (assign (.Name y py) X.env))) _ _ s
  have h : tDc wi g tt tk tv (own.map (·.2)) σ H (fun x H1 => gName i x σ H1 D.nx) := h
  refine wpAny_bind (thn (dc_core (Qf := fun _ s' => SP X pins D .next s') hc hN I hi ok hg ht hk he hs h fun L C s' m H' I' q hn f => ?_) fun _ s' hq => wpAny_pure (wpAny_pure hq))
  show wpAny _ _ (assign (.Name y py) X.env (.ref L)) _ _ _
  refine wpAny_assign_Name (store_ok2 (v := V.ref L) I' hN hy (.inl hyl) rfl (fun s2 I2 ⟨a, sb, ha⟩ => ?_) (.inr hyl))
  obtain ⟨f0, f1, f2, f3, f4, f5⟩ := f
  have haC : C ≠ a := by
    rcases ha with z | z
    · rw [z]; exact f1
    · exact fun e => f4 y a z e.symm
  refine ⟨m, hn.sameBut sb haC, fun h3 sb3 => ?_⟩
  exact ⟨_, H', I2.turned (t' := s2.toks) (fun b o hb e => (sb3.2 b hb).trans e) f0 f1 f3 f4 f5, q⟩
theorem ps_dsetDc (own : List (Str × Nat)) {i : Nat} {y : Str} {py spos : Pos} (hc : X.calm = true) (hN : X.N.Nodup) (hy : X.N[i]? = some y) (hyl : X.env.scope.names.lookup y = some .local)
    (hsw : swapsWith (.DictComp kx vx [⟨tge, iter, ifs, 0⟩] scope pos) (some (.Name y py)) spos.line X.env = pure true) (hi : PI X tge iter (tG W ItR mi)) (ok : BlkOk X.N X.env.scope scope own) (hv : ∀ j ∈ tg.sl, j ∈ own.map (·.2))
    (hg : ∀ (s : Shared) (H : Hp) (C : Addr) (cl : List (Str × Addr)) (fp : List Addr), PG (X.blk s H scope (compEnvC scope cl C X.env) fp) tge (gD tg)) (ht : ∀ (s : Shared) (H : Hp) (C : Addr) (cl : List (Str × Addr)) (fp : List Addr), PTs (X.blk s H scope (compEnvC scope cl C X.env) fp) ifs (tT W0 tst))
    (hk : ∀ (s : Shared) (H : Hp) (C : Addr) (cl : List (Str × Addr)) (fp : List Addr), PE (X.blk s H scope (compEnvC scope cl C X.env) fp) kx (tE W0 ke))
    (he : ∀ (s : Shared) (H : Hp) (C : Addr) (cl : List (Str × Addr)) (fp : List Addr), PE (X.blk s H scope (compEnvC scope cl C X.env) fp) vx (tE W0 ve)) (hs : ∀ x, foldedSetIterable iter X.env x = pure x := by intro _; rfl) :
    PS X (.Assign [.Name y py] (.DictComp kx vx [⟨tge, iter, ifs, 0⟩] scope pos) spos) (tS W (asgM i (compDM mi tg tst ke ve (own.map (·.2))))) := PS.weak (ps_setDc hc hN hy hyl hsw hi ok hg ht hk he hs) fun G σ H h => by
  obtain ⟨δ, S, ρ, I, h⟩ := h
  refine tE_dc (W := W) (fun _ _ _ h => h) hv σ H _ ?_
  refine bindGF I h fun d v S1 H1 ρ1 n1 I1 r1 h1 => ?_
  exact h1 _ H1 ρ1 (Nx.refl _ _) ⟨I1.st, I1.env.set i r1⟩
theorem map_free {f : Str × NameKind → Str × NameKind} (hf : ∀ p, (f p).1 = p.1) (hg : ∀ p, p.2 = .cell ∨ p.2 = .free → (f p).2 = .cell ∨ (f p).2 = .free) : ∀ {names : List (Str × NameKind)} {x : Str}, names.lookup x = some .cell ∨ names.lookup x = some .free →
    (names.map f).lookup x = some .cell ∨ (names.map f).lookup x = some .free
  | [], _, h => by simp at h
  | p :: r, x, h => by
    have h1 := hf p
    have h2 := hg p
    rw [List.map_cons]
    revert h1 h2
    generalize f p = q
    intro h1 h2
    obtain ⟨n, k⟩ := p
    obtain ⟨n', k'⟩ := q
    simp only at h1 h2
    subst h1
    by_cases e : x = n'
    · subst e
      rw [List.lookup_cons_self] at h
      rw [List.lookup_cons_self]
      have hk : k = .cell ∨ k = .free := by
        rcases h with h | h <;> cases h
        · exact .inl rfl
        · exact .inr rfl
      rcases h2 hk with z | z
      · exact .inl (by rw [z])
      · exact .inr (by rw [z])
    · have e' : (x == n') = false := by simpa using e
      rw [List.lookup_cons, e'] at h
      rw [List.lookup_cons, e']
      exact map_free hf hg h
theorem relabel_free {env : Env} {scope : Scope} {x : Str} (h : scope.names.lookup x = some .cell ∨ scope.names.lookup x = some .free) : (relabel scope env).names.lookup x = some .cell ∨ (relabel scope env).names.lookup x = some .free := by
  refine map_free (fun p => ?_) (fun p hp => ?_) h
  · obtain ⟨n, k⟩ := p
    show (if _ then _ else _ : Str × NameKind).1 = n
    split <;> rfl
  · obtain ⟨n, k⟩ := p
    show (if _ then _ else _ : Str × NameKind).2 = .cell ∨ (if _ then _ else _ : Str × NameKind).2 = .free
    split
    · exact .inl rfl
    · exact hp
theorem blk_in {s : Shared} {H : Hp} {scope0 scope : Scope} {cl : List (Str × Addr)} {C : Addr} {fp : List Addr} {N : List Str} {own : List (Str × Nat)} (h : blkB N scope0 scope own = true) (hN : X.N = N) : BlkOk (X.blk s H scope0 (compEnvC scope0 cl C X.env) fp).N (X.blk s H scope0 (compEnvC scope0 cl C X.env) fp).env.scope scope own := by
  have b := blk_of (N' := X.N) (sc' := scope0) h hN rfl
  exact ⟨b.kind, b.uniq, b.ix, fun y hy e => relabel_free (b.free y hy e), b.own⟩
def kndD (kvs : List (Key × V)) (u : HO) : Prop := u = .dK kvs ∨ ∃ o, u = .frz o (.dK kvs)
section
variable {H : Hp} {ρ : List Addr} {a : Addr} {u u' : HO} {kvs : List (Key × V)}
theorem kndD.ne (k : kndD kvs u) {o : HO} (e : H a = some u) {b : Addr} (hb : H b = some o) (h1 : ∀ q, o ≠ .dK q) (h2 : ∀ q z, o ≠ .frz q z) : b ≠ a := fun z => by
  rw [z, e] at hb
  cases hb
  rcases k with rfl | ⟨q, rfl⟩
  · exact h1 _ rfl
  · exact h2 _ _ rfl
theorem kndD.neT (k : kndD kvs u) (e : H a = some u) {b : Addr} {ob : Obj} {vs : List V} (hb : H b = some (.frz ob (.tup vs))) : b ≠ a := fun z => by
  rw [z, e] at hb
  cases hb
  rcases k with k | ⟨q, k⟩ <;> cases k
mutual
theorem Rep.swap (k : kndD kvs u) (k' : kndD kvs u') (e : H a = some u) : ∀ (d : D) (v : V), Rep H ρ d v → Rep (upd H a u') ρ d v
  | .non, v, h => h
  | .bl b, v, h => h
  | .int i, v, h => h
  | .str x, v, h => h
  | .raw w, v, h => h
  | .loc m, v, h => h
  | .tup ds, v, h => by
    obtain ⟨b, vs, e0, h1, k0, h2⟩ := h
    rcases h1 with h1 | ⟨en, od, h1⟩
    · exact ⟨b, vs, e0, .inl (by rw [upd_ne (kndD.ne k e h1 (fun q z => by cases z) (fun q w z => by cases z))]; exact h1), k0, Reps.swap k k' e ds vs h2⟩
    · exact ⟨b, vs, e0, .inr ⟨en, od, by rw [upd_ne (kndD.neT k e h1)]; exact h1⟩, k0, Reps.swap k k' e ds vs h2⟩
  | .lst ds, v, h => by
    obtain ⟨b, vs, e0, h1, k0, h2⟩ := h
    exact ⟨b, vs, e0, by rw [upd_ne (kndD.ne k e h1 (fun q z => by cases z) (fun q w z => by cases z))]; exact h1, k0, Reps.swap k k' e ds vs h2⟩
  | .dct ks ds, v, h => by
    obtain ⟨b, vs, e0, h1, k0, l, h2⟩ := h
    refine ⟨b, vs, e0, ?_, k0, l, Reps.swap k k' e ds vs h2⟩
    by_cases hb : b = a
    · subst hb
      have ek : ks.zip vs = kvs := by
        rcases h1 with h1 | ⟨o, h1⟩ <;> rw [e] at h1 <;> cases h1 <;> rcases k with k | ⟨q, k⟩ <;> cases k <;> rfl
      rw [ek]
      rcases k' with rfl | ⟨q, rfl⟩
      · exact .inl upd_same
      · exact .inr ⟨q, upd_same⟩
    · unfold Rd at h1 ⊢
      rw [upd_ne hb]
      exact h1
  | .obj C ns ds, v, h => by
    obtain ⟨b, dx, vs, e0, h1, k0, l, h2⟩ := h
    exact ⟨b, dx, vs, e0, by rw [upd_ne (kndD.ne k e h1 (fun q z => by cases z) (fun q w z => by cases z))]; exact h1, k0, l, Reps.swap k k' e ds vs h2⟩
  | .exn c dd ns ds, v, h => by
    obtain ⟨vs, e0, h1, k0, l, h2⟩ := h
    exact ⟨vs, e0, by rw [upd_ne (kndD.ne k e h1 (fun q z => by cases z) (fun q w z => by cases z))]; exact h1, k0, l, Reps.swap k k' e ds vs h2⟩
theorem Reps.swap (k : kndD kvs u) (k' : kndD kvs u') (e : H a = some u) : ∀ (ds : List D) (vs : List V), Reps H ρ ds vs → Reps (upd H a u') ρ ds vs
  | [], vs, h => h
  | d :: ds, vs, h => by
    obtain ⟨v, r, e0, h1, h2⟩ := h
    exact ⟨v, r, e0, Rep.swap k k' e d v h1, Reps.swap k k' e ds r h2⟩
end
theorem TabR.swap {b P : Addr} {q : Str} (k : kndD kvs u) (e : H a = some u) (ne : b ≠ a) (hb : TabR H ρ b P q) : TabR (upd H a u') ρ b P q := by
  obtain ⟨h0, ps, h1, h2, h3⟩ := hb
  refine ⟨h0, ps, by rw [upd_ne ne]; exact h1, h2, fun pos cv hc => ?_⟩
  obtain ⟨c, e1', e2', e3'⟩ := h3 pos cv hc
  refine ⟨c, e1', ?_, e3'⟩
  rw [upd_ne (kndD.ne k e e2' (fun q z => by cases z) (fun q w z => by cases z))]
  exact e2'
theorem StS.swap {S : Store} (k : kndD kvs u) (k' : kndD kvs u') (e : H a = some u) (ha : a ∉ ρ) (st : StS H S ρ) : StS (upd H a u') S ρ := by
  refine ⟨st.len, st.nd, fun n b c e1 e2 => ?_⟩
  have hb := st.cells n b c e1 e2
  have ne : b ≠ a := fun z => ha (by rw [← z]; exact List.mem_of_getElem? e1)
  cases c with
  | lst ds => obtain ⟨vs, h1, h2⟩ := hb; exact ⟨vs, by rw [upd_ne ne]; exact h1, Reps.swap k k' e _ _ h2⟩
  | dct ks ds => obtain ⟨vs, h1, l, h2⟩ := hb; exact ⟨vs, by rw [upd_ne ne]; exact h1, l, Reps.swap k k' e _ _ h2⟩
  | obj C ns ds => obtain ⟨dx, vs, h1, l, h2⟩ := hb; exact ⟨dx, vs, by rw [upd_ne ne]; exact h1, l, Reps.swap k k' e _ _ h2⟩
  | tab P q => exact TabR.swap k e ne hb
  | emp P q es => exact ⟨TabR.swap k e ne hb.1, fun x hx => by
      obtain ⟨⟨ob, h1⟩, h2⟩ := hb.2 x hx
      exact ⟨⟨ob, by rw [upd_ne (kndD.neT k e h1)]; exact h1⟩, h2⟩⟩
  | fn κ j l =>
    obtain ⟨pm, c, ctv, h1, h2, h3⟩ := hb
    refine ⟨pm, c, ctv, by rw [upd_ne ne]; exact h1, ?_, h3⟩
    rw [upd_ne (kndD.ne k e h2 (fun q z => by cases z) (fun q w z => by cases z))]
    exact h2
theorem EnvS.swap {δ : DEnv} {σ : St} (k : kndD kvs u) (k' : kndD kvs u') (e : H a = some u) (h : EnvS H ρ δ σ) : EnvS (upd H a u') ρ δ σ := ⟨h.1, fun i d e1 => by
  obtain ⟨v, e2, r⟩ := h.2 i d e1
  exact ⟨v, e2, Rep.swap k k' e d v r⟩⟩
theorem Nx.swap {H2 : Hp} {ρ2 : List Addr} (e : H a = some u) (ha : a ∉ ρ) (hm : ∀ ps, u' ≠ .tbl ps) (hu : ∀ ps, u ≠ .tbl ps) (n : Nx (upd H a u') ρ H2 ρ2) : Nx H ρ (upd H2 a u) ρ2 where
  pre := n.pre
  new := fun b hb hn => by
    have := n.new b hb hn
    by_cases z : b = a
    · subst z; rw [upd_same] at this; cases this
    · rw [upd_ne z] at this; exact this
  thr := fun b hb => by
    by_cases z : b = a
    · subst z; rw [upd_same] at hb; cases hb
    · rw [upd_ne z] at hb
      have := n.thr b hb
      rwa [upd_ne z] at this
  stay := fun b o hb hn ht => by
    by_cases z : b = a
    · subst z; rw [e] at hb; cases hb; exact upd_same
    · rw [upd_ne z]
      exact n.stay b o (by rw [upd_ne z]; exact hb) hn ht
  tbl := fun b ps hb hn => by
    by_cases z : b = a
    · subst z; rw [e] at hb; cases hb; exact absurd rfl (hu ps)
    · rw [upd_ne z]
      exact n.tbl b ps (by rw [upd_ne z]; exact hb) hn
theorem PE.or {e : Expr} {t t' : TE} (h : PE X e t) (h' : PE X e t') : PE X e (fun σ H Q => t σ H Q ∨ t' σ H Q) := ⟨fun pins s σ H Q I q => q.elim (h.run pins s σ H Q I) (h'.run pins s σ H Q I)⟩
end
end
end SL
namespace SL
open PySem PySem.Spec L2
open PyProof.Rows hiding St
open Classical in
noncomputable def comp2L (src : Src) (tg : Tg) (tst : MB) (mi1 : DEnv → Store → Res Src) (tg1 : Tg) (tst1 : MB) (el : ME) (vs1 : List Nat) (n : Nat) (ds : List D) (δ : DEnv) : List D → Store → Option Store
  | [], S => if items S src = some ds then some S else none
  | d :: r, S => if items S src = some ds then (match bindT tg d δ with
      | some δ1 => match tst δ1 S with
        | .ok true S1 => match mi1 δ1 S1 with
          | .ok src1 S2 => match items S2 src1 with
            | some ds1 => match compL src1 tg1 tst1 el n ds1 (wipeD δ1 vs1) ds1 S2 with
              | some S3 => comp2L src tg tst mi1 tg1 tst1 el vs1 n ds δ r S3
              | none => none
            | none => none
          | _ => none
        | .ok false S1 => comp2L src tg tst mi1 tg1 tst1 el vs1 n ds δ r S1
        | _ => none
      | none => none) else none
noncomputable def comp2M (mi : DEnv → Store → Res Src) (tg : Tg) (tst : MB) (mi1 : DEnv → Store → Res Src) (tg1 : Tg) (tst1 : MB) (el : ME) (vs vs1 : List Nat) : ME := fun δ S => (mi δ S).bind fun src S1 => match items S1 src with
  | some ds => match comp2L src tg tst mi1 tg1 tst1 el vs1 S1.length ds (wipeD δ vs) ds (S1 ++ [.lst []]) with
    | some Sf => endC S1 Sf
    | none => .stuck
  | none => .stuck
section
variable {X : Cx} {W : WX}
theorem inner_of {tg1 : Tg} {tst1 : MB} {el : ME} {vs1 : List Nat} (hv : ∀ j ∈ tg1.sl, j ∈ vs1) {σ : St} {H1 : Hp} {δ : DEnv} {S1 Sf : Store} {ρ1 : List Addr} {src : Src} {J : It} {ds : List D} {Done : Hp → Prop} {n : Nat} {p : Addr}
    (I1 : StE σ H1 δ S1 ρ1) (r1 : ItR H1 ρ1 src J) (hpρ1 : ρ1[n]? = some p) (hc : compL src tg1 tst1 el n ds (wipeD δ vs1) ds S1 = some Sf) (hq : ∀ H' ρ', Nx H1 ρ1 H' ρ' → StS H' Sf ρ' → Done H') :
    ∃ WW : Nat → Nat → Hp → Prop, (∃ m, WW 0 m H1) ∧ ∀ i m H, WW i m H →
  (J.stop i H ∧ Done H) ∨ (J.go i H ∧ ∃ Nt : Hp → Prop, (∀ H', Nt H' → ∃ m', m' < m ∧ WW (i + 1) m' H') ∧ ∀ x H', J.yld i H x H' → gD tg1 x (wipe σ vs1) H' fun σ2 H2 => wipe σ2 vs1 = wipe σ vs1 ∧ tT W0 tst1 σ2 H2 fun b H3 =>
    if b = true then tE W0 el σ2 H3 fun y H4 => ∃ acc, H4 p = some (.lst acc) ∧ acc.length < sizeLine ∧ Nt (upd H4 p (.lst (acc ++ [y]))) else Nt H3) := by
  have env0 := EnvS.wipe I1.env vs1
  refine ⟨fun i m H => ∃ S ρ, StS H S ρ ∧ Nx H1 ρ1 H ρ ∧ m = ds.length - i ∧ compL src tg1 tst1 el n ds (wipeD δ vs1) (ds.drop i) S = some Sf, ⟨_, _, _, I1.st, Nx.refl _ _, rfl, by simpa using hc⟩, ?_⟩
  rintro i m H ⟨S, ρ, st, nx, rfl, hl⟩
  have hpρ : ρ[n]? = some p := nx.at hpρ1
  cases ed : ds[i]? with
  | none =>
    have hd : ds.drop i = [] := List.drop_eq_nil_of_le (List.getElem?_eq_none_iff.mp ed)
    rw [hd] at hl
    unfold compL at hl
    split at hl
    · rename_i ei
      have eS : S = Sf := Option.some.inj hl
      subst eS
      obtain ⟨_, f⟩ := r1 i H ρ S ds nx st ei
      exact .inl ⟨f ed, hq H ρ nx st⟩
    · cases hl
  | some d =>
    have hil := (List.getElem?_eq_some_iff.mp ed).1
    have hd : ds.drop i = d :: ds.drop (i + 1) := by
      rw [List.drop_eq_getElem_cons hil, (List.getElem?_eq_some_iff.mp ed).2]
    rw [hd] at hl
    unfold compL at hl
    split at hl
    · rename_i ei
      obtain ⟨f, _⟩ := r1 i H ρ S ds nx st ei
      obtain ⟨go, y⟩ := f d ed
      refine .inr ⟨go, fun H2 => ∃ S2 ρ2, StS H2 S2 ρ2 ∧ Nx H1 ρ1 H2 ρ2 ∧ compL src tg1 tst1 el n ds (wipeD δ vs1) (ds.drop (i + 1)) S2 = some Sf, fun H2 ⟨S2, ρ2, q1, q2, q3⟩ => ⟨_, Nat.sub_lt_sub_left hil (Nat.lt_succ_self i), S2, ρ2, q1, q2, rfl, q3⟩, ?_⟩
      intro x H2 hy
      obtain ⟨n2, st2, rx⟩ := y x H2 hy
      split at hl
      · rename_i δ1 eb
        refine ⟨d, wipeD δ vs1, S, ρ, δ1, ⟨st2, env0.mono (nx.trans n2)⟩, rx, eb, fun σ3 I3 o3 => ⟨wipe_off o3 hv, δ1, S, ρ, I3, ?_⟩⟩
        split at hl
        · rename_i S4 et
          rw [et]
          intro b H4 ρ4 n4 st4 rb
          cases rb
          rw [if_pos rfl]
          refine ⟨δ1, S4, ρ4, I3.next n4 st4, ?_⟩
          split at hl
          · rename_i xd S5 ee
            rw [ee]
            intro v H5 ρ5 n5 st5 rv
            split at hl
            · rename_i S6 ea
              unfold appC at ea
              split at ea
              · rename_i acc e5
                split at ea
                · rename_i hacc
                  cases ea
                  have n25 := (n2.trans n4).trans n5
                  have hp5 : ρ5[n]? = some p := n25.at hpρ
                  obtain ⟨ws, h5, rs⟩ := st5.cells n p _ hp5 e5
                  have hm : p ∈ ρ5 := List.mem_of_getElem? hp5
                  have n6 : Nx H5 ρ5 (upd H5 p (.lst (ws ++ [v]))) ρ5 := Nx.set hm (by rw [h5]; simp)
                  refine ⟨ws, h5, by rw [← rs.len]; exact Nat.lt_of_lt_of_le hacc (by decide), _, ρ5, st5.set (c := .lst (acc ++ [xd])) hp5 ⟨ws ++ [v], upd_same, (Reps.mono n6 _ _ rs).append (Reps.one (Rep.mono n6 _ _ rv))⟩, (nx.trans n25).trans n6, hl⟩
                · cases ea
              · cases ea
            · cases hl
          · cases hl
        · rename_i S4 et
          rw [et]
          intro b H4 ρ4 n4 st4 rb
          cases rb
          rw [if_neg Bool.false_ne_true]
          exact ⟨S4, ρ4, st4, (nx.trans n2).trans n4, hl⟩
        · cases hl
      · cases hl
    · cases hl
theorem tLc2_of {mi1 : DEnv → Store → Res Src} {tg tg1 : Tg} {tst tst1 : MB} {el : ME} {vs vs1 : List Nat} (hv : ∀ j ∈ tg.sl, j ∈ vs) (hv1 : ∀ j ∈ tg1.sl, j ∈ vs1) {σ : St} {H1 : Hp} {δ : DEnv} {S1 Sf : Store} {ρ1 : List Addr} {src : Src} {J : It} {ds : List D} {Q : VK}
    (I1 : StE σ H1 δ S1 ρ1) (r1 : ItR H1 ρ1 src J) (hc : comp2L src tg tst mi1 tg1 tst1 el vs1 S1.length ds (wipeD δ vs) ds (S1 ++ [.lst []]) = some Sf) {p : Addr} (hp : H1 p = none)
    (hq : ∀ H' ρ', Nx H1 (ρ1 ++ [p]) H' ρ' → StS H' Sf ρ' → Q (.ref p) H') :
    ∃ WW : Nat → Nat → Hp → Prop, (∃ m, WW 0 m (upd H1 p (.lst []))) ∧ ∀ i m H, WW i m H →
  (J.stop i H ∧ Q (.ref p) H) ∨ (J.go i H ∧ ∃ Nt : Hp → Prop, (∀ H', Nt H' → ∃ m', m' < m ∧ WW (i + 1) m' H') ∧ ∀ x H', J.yld i H x H' → gD tg x (wipe σ vs) H' fun σ2 H2 => wipe σ2 vs = wipe σ vs ∧ tT W0 tst σ2 H2 fun b H3 =>
    if b = true then tG W0 ItR mi1 σ2 H3 fun J1 H4 => ∃ W1 : Nat → Nat → Hp → Prop, (∃ m, W1 0 m H4) ∧ ∀ j k H, W1 j k H →
      (J1.stop j H ∧ Nt H) ∨ (J1.go j H ∧ ∃ Nx1 : Hp → Prop, (∀ H', Nx1 H' → ∃ k', k' < k ∧ W1 (j + 1) k' H') ∧ ∀ x H', J1.yld j H x H' → gD tg1 x (wipe σ2 vs1) H' fun σ3 H5 => wipe σ3 vs1 = wipe σ2 vs1 ∧ tT W0 tst1 σ3 H5 fun b H6 =>
        if b = true then tE W0 el σ3 H6 fun y H7 => ∃ acc, H7 p = some (.lst acc) ∧ acc.length < sizeLine ∧ Nx1 (upd H7 p (.lst (acc ++ [y]))) else Nx1 H6)
    else Nt H3) := by
  have n0 : Nx H1 ρ1 (upd H1 p (.lst [])) (ρ1 ++ [p]) := Nx.push hp
  have st0 : StS (upd H1 p (.lst [])) (S1 ++ [.lst []]) (ρ1 ++ [p]) := I1.st.push hp ⟨[], upd_same, Reps.nil⟩
  have env0 := (EnvS.wipe I1.env vs).mono n0
  refine ⟨fun i m H => ∃ S ρ, StS H S ρ ∧ Nx (upd H1 p (.lst [])) (ρ1 ++ [p]) H ρ ∧ Nx H1 (ρ1 ++ [p]) H ρ ∧ m = ds.length - i ∧ comp2L src tg tst mi1 tg1 tst1 el vs1 S1.length ds (wipeD δ vs) (ds.drop i) S = some Sf, ⟨_, _, _, st0, Nx.refl _ _, ?_, rfl, by simpa using hc⟩, ?_⟩
  · refine ⟨⟨[], by simp⟩, fun a h k => absurd h k, n0.thr, fun a o h k t => ?_, fun a ps h k => ?_⟩
    · exact n0.stay a o h (fun z => k (List.mem_append_left _ z)) t
    · exact n0.tbl a ps h (fun z => k (List.mem_append_left _ z))
  rintro i m H ⟨S, ρ, st, nx, nx', rfl, hl⟩
  have hpρ : ρ[S1.length]? = some p := by
    have : (ρ1 ++ [p])[S1.length]? = some p := by rw [← I1.st.len]; simp
    exact nx.at this
  cases ed : ds[i]? with
  | none =>
    have hd : ds.drop i = [] := List.drop_eq_nil_of_le (List.getElem?_eq_none_iff.mp ed)
    rw [hd] at hl
    unfold comp2L at hl
    split at hl
    · rename_i ei
      have eS : S = Sf := Option.some.inj hl
      subst eS
      obtain ⟨_, f⟩ := r1 i H ρ S ds (n0.trans nx) st ei
      exact .inl ⟨f ed, hq H ρ nx' st⟩
    · cases hl
  | some d =>
    have hil := (List.getElem?_eq_some_iff.mp ed).1
    have hd : ds.drop i = d :: ds.drop (i + 1) := by
      rw [List.drop_eq_getElem_cons hil, (List.getElem?_eq_some_iff.mp ed).2]
    rw [hd] at hl
    unfold comp2L at hl
    split at hl
    · rename_i ei
      obtain ⟨f, _⟩ := r1 i H ρ S ds (n0.trans nx) st ei
      obtain ⟨go, y⟩ := f d ed
      refine .inr ⟨go, fun H2 => ∃ S2 ρ2, StS H2 S2 ρ2 ∧ Nx (upd H1 p (.lst [])) (ρ1 ++ [p]) H2 ρ2 ∧ Nx H1 (ρ1 ++ [p]) H2 ρ2 ∧ comp2L src tg tst mi1 tg1 tst1 el vs1 S1.length ds (wipeD δ vs) (ds.drop (i + 1)) S2 = some Sf, fun H2 ⟨S2, ρ2, q1, q2, q2', q3⟩ => ⟨_, Nat.sub_lt_sub_left hil (Nat.lt_succ_self i), S2, ρ2, q1, q2, q2', rfl, q3⟩, ?_⟩
      intro x H2 hy
      obtain ⟨n2, st2, rx⟩ := y x H2 hy
      split at hl
      · rename_i δ1 eb
        refine ⟨d, wipeD δ vs, S, ρ, δ1, ⟨st2, env0.mono (nx.trans n2)⟩, rx, eb, fun σ3 I3 o3 => ⟨wipe_off o3 hv, δ1, S, ρ, I3, ?_⟩⟩
        split at hl
        · rename_i S4 et
          rw [et]
          intro b H4 ρ4 n4 st4 rb
          cases rb
          rw [if_pos rfl]
          refine ⟨δ1, S4, ρ4, I3.next n4 st4, ?_⟩
          split at hl
          · rename_i src1 S5 ee
            rw [ee]
            intro J1 H5 ρ5 n5 st5 r5
            split at hl
            · rename_i ds1 e5
              split at hl
              · rename_i S6 ec
                have n25 := (n2.trans n4).trans n5
                refine inner_of hv1 ((I3.next n4 st4).next n5 st5) r5 (n25.at hpρ) ec fun H6 ρ6 n6 st6 => ?_
                exact ⟨S6, ρ6, st6, (nx.trans n25).trans n6, (nx'.trans n25).trans n6, hl⟩
              · cases hl
            · cases hl
          · cases hl
        · rename_i S4 et
          rw [et]
          intro b H4 ρ4 n4 st4 rb
          cases rb
          rw [if_neg Bool.false_ne_true]
          exact ⟨S4, ρ4, st4, (nx.trans n2).trans n4, (nx'.trans n2).trans n4, hl⟩
        · cases hl
      · cases hl
    · cases hl
variable {elt tge iter tge1 iter1 : Expr} {ifs ifs1 : List Expr} {scope : Scope} {own : List (Str × Nat)} {pos spos : Pos} {mi mi1 : DEnv → Store → Res Src} {tg tg1 : Tg} {tst tst1 : MB} {el : ME}
theorem tE_comp2 {vs vs1 : List Nat} (hv : ∀ j ∈ tg.sl, j ∈ vs) (hv1 : ∀ j ∈ tg1.sl, j ∈ vs1) (σ : St) (H : Hp) (Q : VK) (h : tE W (comp2M mi tg tst mi1 tg1 tst1 el vs vs1) σ H Q) : tLc2 (tG W ItR mi) (gD tg) (tT W0 tst) (tG W0 ItR mi1) (gD tg1) (tT W0 tst1) (tE W0 el) vs vs1 σ H Q := by
  obtain ⟨δ, S, ρ, I, h⟩ := h
  refine bindG I h fun src J S1 H1 ρ1 n1 I1 r1 h1 => fun p hp => ?_
  split at h1
  · rename_i ds eds
    split at h1
    · rename_i Sf ec
      exact tLc2_of hv hv1 I1 r1 ec hp fun H' ρ' n st => endC_run (W := W) I1 hp h1 n st
    · exact False.elim h1
  · exact False.elim h1
theorem pd_lc2 (own : List (Str × Nat)) (vs1 : List Nat) (hc : X.calm = true) (hN : X.N.Nodup) (hi : PI X tge iter (tG W ItR mi)) (ok : BlkOk X.N X.env.scope scope own) (hv : ∀ j ∈ tg.sl, j ∈ own.map (·.2)) (hv1 : ∀ j ∈ tg1.sl, j ∈ vs1) (hvv : ∀ i ∈ vs1, i ∈ own.map (·.2))
    (hg : ∀ (s : Shared) (H : Hp) (C : Addr) (cl : List (Str × Addr)) (fp : List Addr), PG (X.blk s H scope (compEnvC scope cl C X.env) fp) tge (gD tg)) (ht : ∀ (s : Shared) (H : Hp) (C : Addr) (cl : List (Str × Addr)) (fp : List Addr), PTs (X.blk s H scope (compEnvC scope cl C X.env) fp) ifs (tT W0 tst))
    (hi1 : ∀ (s : Shared) (H : Hp) (C : Addr) (cl : List (Str × Addr)) (fp : List Addr), PI (X.blk s H scope (compEnvC scope cl C X.env) fp) tge1 iter1 (tG W0 ItR mi1))
    (hg1 : ∀ (s : Shared) (H : Hp) (C : Addr) (cl : List (Str × Addr)) (fp : List Addr), PG (X.blk s H scope (compEnvC scope cl C X.env) fp) tge1 (gD tg1)) (ht1 : ∀ (s : Shared) (H : Hp) (C : Addr) (cl : List (Str × Addr)) (fp : List Addr), PTs (X.blk s H scope (compEnvC scope cl C X.env) fp) ifs1 (tT W0 tst1))
    (he : ∀ (s : Shared) (H : Hp) (C : Addr) (cl : List (Str × Addr)) (fp : List Addr), PE (X.blk s H scope (compEnvC scope cl C X.env) fp) elt (tE W0 el)) (hs : ∀ x, foldedSetIterable iter X.env x = pure x := by intro _; rfl) (hs1 : ∀ env x, foldedSetIterable iter1 env x = pure x := by intro _ _; rfl) :
    PE X (.ListComp elt [⟨tge, iter, ifs, 0⟩, ⟨tge1, iter1, ifs1, 0⟩] scope pos) (tE W (comp2M mi tg tst mi1 tg1 tst1 el (own.map (·.2)) vs1)) := PE.weak (pe_lc2 hc hN hi ok hvv hg ht hi1 hg1 ht1 he hs hs1) (tE_comp2 hv hv1)
end
end SL
namespace SL
open PySem PySem.Spec L2
open PyProof.Rows hiding St
section
variable {prog : Program} {w : World} {A : Around} {E : Value → Shared → Prop} {s : Shared}
theorem unpackItems_starL {t : Addr} {items : Array Value} {n k : Nat} {Q : List Value → Shared → Prop} (hh : A.handled = none) (ht : s.heap.IsList t items) (hn : n = k + 1) (hk : k ≤ items.size) (hz : items.size ≤ sizeLine)
    (hQ : ∀ (h' : Heap) (tk' : Nat), (∀ b o, s.heap.get? b = some o → h'.get? b = some o) → Q (items.toList.take k ++ [.ref h'.objs.size]) { s with heap := h'.push { cls := .type "list", data := .seq (items.toList.drop k).toArray }, toks := tk' }) :
    wpAny (model prog w) A (unpackItems (.ref t) n (some k)) Q E s := by
  have hlt : t ≠ s.heap.objs.size := by obtain ⟨o, ho, _⟩ := ht; exact Nat.ne_of_lt (Heap.lt_size ho)
  unfold unpackItems
  refine wpAny_bind ?_
  unfold notIterableAtAll
  refine wpAny_bind (wpAny_specialOf ht.typeIs slot_list_iter.lookup ?_)
  refine wpAny_pure ?_
  simp only [Bool.false_eq_true, if_false]
  refine wpAny_bind (wpAny_holding (wpAny_pyIter_list ht ?_))
  refine wpAny_bind (wpAny_holding (PySem.W.kun_draw hlt k 0 _ _ ⟨_, Heap.get?_push_size _ rfl, rfl, rfl⟩ (ht.push _) (by omega) fun h₁ hit₁ hs₁ => ?_))
  have hlen : ((items.toList.drop 0).take k).length = k := by
    rw [List.drop_zero, List.length_take, Array.length_toList]
    omega
  rw [if_neg (by rw [hlen]; omega)]
  have ht₁ : h₁.IsList t items := (ht.push _).extBut hs₁.extBut hlt
  rw [Nat.zero_add] at hit₁
  have W := walks_shift (Walks.list (prog := prog) (w := w) (A := A.in1) hh s.heap.objs.size t hlt items).toS k hk
  have hz1 : items.size - k ≤ sizeLine := Nat.le_trans (Nat.sub_le _ _) hz
  have hsz1 : s.heap.objs.size + 1 ≤ h₁.objs.size := by
    obtain ⟨o, ho, _⟩ := hit₁
    exact Heap.lt_size ho
  refine wpAny_bind (wpAny_holding (wpAny_collect_iter (T := "list_iterator") (.inr (.inr (.inl rfl))) W (fun i s st => st.1.typeIs) (show _ ∧ _ from ⟨hit₁, ht₁⟩) (fun b hb => ?_) (by simp) (fun s' acc hm hacc => ?_) hz1))
  · show b < h₁.objs.size
    rcases List.mem_cons.mp hb with e | hb
    · rw [e]; exact hsz1
    · obtain ⟨o, ho, _⟩ := ht₁
      rw [List.mem_singleton.mp hb]
      exact Heap.lt_size ho
  · have hacl : acc.toList = items.toList.drop k := by
      apply List.ext_getElem?
      intro j
      rw [Array.getElem?_toList, List.getElem?_drop, Array.getElem?_toList]
      by_cases hj : j < items.size - k
      · have hj2 : j < acc.size := by rw [hacc.1]; exact hj
        have e := hacc.2 j acc[j] (by simp [hj2])
        rw [e]
        simp [hj2]
      · rw [Array.getElem?_eq_none (by rw [hacc.1]; omega), Array.getElem?_eq_none (by omega)]
    have hnn : n - 1 - k = 0 := by omega
    rw [hnn, if_neg (by omega)]
    show wpAny _ _ (newList _ >>= _) _ _ _
    unfold newList
    have e1 : List.take (acc.toList.length - 0) acc.toList = items.toList.drop k := by rw [Nat.sub_zero, List.take_length, hacl]
    have e2 : List.drop (acc.toList.length - 0) acc.toList = [] := by rw [Nat.sub_zero, List.drop_length]
    rw [e1, e2]
    refine wpAny_bind (wpAny_newObj_type ?_ ?_)
    rotate_left
    · show (items.toList.drop k).toArray.size ≤ sizeLine
      rw [List.size_toArray, List.length_drop, Array.length_toList]
      exact hz1
    refine wpAny_pure ?_
    rw [List.append_nil, List.drop_zero]
    have keep : ∀ b o, s.heap.get? b = some o → s'.heap.get? b = some o := fun b o e => by
      have hb : b ≠ s.heap.objs.size := Nat.ne_of_lt (Heap.lt_size e)
      exact hm.heap b o (by simp [hb]) (hs₁.extBut b o hb (Heap.get?_push_of_some _ e))
    have hs' : s' = { s with heap := s'.heap, toks := s'.toks } := by
      have := Moved.eq_with hm
      rw [this]
    rw [hs']
    exact hQ _ _ keep
theorem assign_starL {env : Env} {elts : List Expr} {x1 k : Nat} {pos : Pos} {t : Addr} {items : Array Value} {Q : Unit → Shared → Prop} (hh : A.handled = none) (ht : s.heap.IsList t items) (hz : items.size ≤ sizeLine) (hk : k ≤ items.size)
    (hn : (assignEach elts env).length = k + 1) (hstar : (assignEach elts env).findIdx? (·.1) = some k)
    (h : ∀ (h' : Heap) (tk' : Nat), (∀ b o, s.heap.get? b = some o → h'.get? b = some o) → wpAny (model prog w) A (assignInOrder ((assignEach elts env).map (·.2)) (items.toList.take k ++ [.ref h'.objs.size])) Q E { s with heap := h'.push { cls := .type "list", data := .seq (items.toList.drop k).toArray }, toks := tk' }) :
    wpAny (model prog w) A (assign (.Tuple elts x1 pos) env (.ref t)) Q E s := by
  rw [assign_Tuple]
  refine wpAny_bind (wpAny_standAt ?_)
  unfold unpack
  rw [hn, hstar]
  exact wpAny_bind (wpAny_holding (unpackItems_starL hh ht rfl hk hz h))
end
def gStarL (K : PySem.W.Frag) (k : Nat) (t : TGs) : TG := fun v σ H Q => ∃ a xs, v = .ref a ∧ SqL K H a xs ∧ k ≤ xs.length ∧ ∀ l, H l = none → t (xs.take k ++ [.ref l]) σ (upd H l (.lst (xs.drop k))) Q
section
variable {X : Cx} {W : WX} {es : List Expr} {e : Expr} {t : TGs} {k x1 : Nat} {pos pos' : Pos} {me : ME}
theorem pg_starL (hc : X.calm = true) (h : PGs X es t) (hn : (assignEach es X.env).length = k + 1 := by rfl) (hst : (assignEach es X.env).findIdx? (·.1) = some k := by rfl) : PG X (.Tuple es x1 pos) (gStarL X.K k t) := by
  refine ⟨fun pins s σ H v u Q I r hw => ?_⟩
  obtain ⟨a, xs, e1, hq, hl, hw⟩ := hw
  subst e1
  cases r
  obtain ⟨its, rv, pl, hz⟩ := I.list hq
  have hlen := rv.length
  refine assign_starL (I.ok.hd hc) pl.isList (by rw [List.size_toArray, ← hlen]; exact hz) (by rw [List.size_toArray, ← hlen]; exact hl) hn hst fun h' tk' hk => ?_
  have I1 : Inv X pins σ H { s with heap := h' } := I.kept (t' := s.toks) hk
  have hf : H h'.objs.size = none := I1.hok.fresh (Nat.le_refl _)
  have I2 : Inv X pins σ (upd H h'.objs.size (.lst (xs.drop k))) { s with heap := h'.push { cls := .type "list", data := .seq (its.drop k).toArray }, toks := tk' } :=
    I1.laid (t' := tk') (fun b u e => Heap.get?_push_of_some _ e) (Nat.le_refl _) (show ObjOk X.prog X.w _ _ _ (.lst (xs.drop k)) from ⟨by rw [List.length_drop]; exact Nat.le_trans (Nat.sub_le _ _) hz, its.drop k, 0, vals_drop k rv, Heap.get?_push_size _ rfl⟩)
  have := h.run pins _ σ _ (xs.take k ++ [.ref h'.objs.size]) (its.take k ++ [.ref h'.objs.size]) Q I2 (vals_app (vals_take k rv) (.cons (show RelV (.ref _) (.ref _) from rfl) .nil)) (hw _ hf)
  exact this
def asgSL (tgs : List Tg) (k : Nat) (me : ME) : MS := fun δ S => bindS (me δ S) δ fun d S1 => match asL S1 d with
  | some ds => if k ≤ ds.length then (match bindTs tgs (ds.take k ++ [.loc S1.length]) δ with
      | some δ1 => .nx δ1 (S1 ++ [.lst (ds.drop k)])
      | none => .stuck) else .stuck
  | none => .stuck
theorem ps_dstarL {tgs : List Tg} (hc : X.calm = true) (he : PE X e (tE W me)) (hg : PGs X es (gsD tgs)) (hn : (assignEach es X.env).length = k + 1 := by rfl) (hst : (assignEach es X.env).findIdx? (·.1) = some k := by rfl)
    (hs : swapsWithSole [.Tuple es x1 pos'] e pos.line X.env = pure false := by rfl) (hw : swappedStores [.Tuple es x1 pos'] e X.env = pure none := by rfl) (h1 : (assignEach [.Tuple es x1 pos'] X.env).map (·.2) = [assign (.Tuple es x1 pos') X.env] := by rfl) :
    PS X (.Assign [.Tuple es x1 pos'] e pos) (tS W (asgSL tgs k me)) := PS.weak (ps_asg he (pg_starL hc hg hn hst) hs hw h1) fun G σ H h => by
  obtain ⟨δ, S, ρ, I, h⟩ := h
  refine bindGF I h fun d v S1 H1 ρ1 n1 I1 r1 h1 => ?_
  split at h1
  · rename_i ds ed
    split at h1
    · rename_i hk
      split at h1
      · rename_i δ1 eb
        obtain ⟨a, vs, rfl, hH, r⟩ := asL_rep I1.st r1 ed
        refine ⟨a, vs, rfl, .inl (.inl hH), by rw [← r.len]; exact hk, fun l hl => ?_⟩
        have nx : Nx H1 ρ1 (upd H1 l (.lst (vs.drop k))) (ρ1 ++ [l]) := Nx.push hl
        have r' := Reps.mono nx _ _ r
        have st' := I1.st.push (c := .lst (ds.drop k)) hl ⟨vs.drop k, upd_same, r'.drop k⟩
        refine ⟨_, δ, _, _, δ1, I1.next nx st', (r'.take k).append (Reps.one (show Rep _ _ (.loc S1.length) _ from ⟨l, by rw [← I1.st.len]; simp, rfl⟩)), eb, fun σ' I' _ => h1 σ' _ _ nx I'⟩
      · exact False.elim h1
    · exact False.elim h1
  · exact False.elim h1
def asgU (tgs : List Tg) (me : ME) : MS := fun δ S => bindS (me δ S) δ fun d S1 => match asL S1 d with
  | some ds => match bindTs tgs ds δ with
    | some δ1 => .nx δ1 S1
    | none => .stuck
  | none => .stuck
end
section
variable {H : Hp} {ρF ρ2 : List Addr} {n : Nat}
mutual
theorem Rep.recut (hi : ∀ i, i < n → ρ2[i]? = ρF[i]?) (hs : ∀ b, b ∈ ρ2 → b ∈ ρF) : ∀ (d : D) (v : V), Rep H ρF d v → okD n d = true → Rep H ρ2 d v
  | .non, _, h, _ => h
  | .bl _, _, h, _ => h
  | .int _, _, h, _ => h
  | .str _, _, h, _ => h
  | .raw _, _, h, _ => h
  | .loc m, v, h, k => by
    obtain ⟨a, e, h2⟩ := h
    simp only [okD] at k
    exact ⟨a, by rw [hi m (of_decide_eq_true k)]; exact e, h2⟩
  | .tup ds, v, h, k => by
    obtain ⟨a, vs, h0, h1, na, h2⟩ := h
    simp only [okD] at k
    exact ⟨a, vs, h0, h1, fun z => na (hs _ z), Reps.recut hi hs ds vs h2 k⟩
  | .lst ds, v, h, k => by
    obtain ⟨a, vs, h0, h1, na, h2⟩ := h
    simp only [okD] at k
    exact ⟨a, vs, h0, h1, fun z => na (hs _ z), Reps.recut hi hs ds vs h2 k⟩
  | .dct ks ds, v, h, k => by
    obtain ⟨a, vs, h0, h1, na, l, h2⟩ := h
    simp only [okD] at k
    exact ⟨a, vs, h0, h1, fun z => na (hs _ z), l, Reps.recut hi hs ds vs h2 k⟩
  | .obj C ns ds, v, h, k => by
    obtain ⟨a, dx, vs, h0, h1, na, l, h2⟩ := h
    simp only [okD] at k
    exact ⟨a, dx, vs, h0, h1, fun z => na (hs _ z), l, Reps.recut hi hs ds vs h2 k⟩
  | .exn a dd ns ds, v, h, k => by
    obtain ⟨vs, h0, h1, na, l, h2⟩ := h
    simp only [okD] at k
    exact ⟨vs, h0, h1, fun z => na (hs _ z), l, Reps.recut hi hs ds vs h2 k⟩
theorem Reps.recut (hi : ∀ i, i < n → ρ2[i]? = ρF[i]?) (hs : ∀ b, b ∈ ρ2 → b ∈ ρF) : ∀ (ds : List D) (vs : List V), Reps H ρF ds vs → okL n ds = true → Reps H ρ2 ds vs
  | [], _, h, _ => h
  | d :: ds, vs, h, k => by
    obtain ⟨v, us, h0, h1, h2⟩ := h
    simp only [okL, Bool.and_eq_true] at k
    exact ⟨v, us, h0, Rep.recut hi hs d v h1 k.1, Reps.recut hi hs ds us h2 k.2⟩
end
theorem TabR.recut {a P : Addr} {q : Str} (hs : ∀ b, b ∈ ρ2 → b ∈ ρF) (h : TabR H ρF a P q) : TabR H ρ2 a P q := by
  obtain ⟨h0, ps, h1, h2, h3⟩ := h
  refine ⟨h0, ps, h1, h2, fun pos cv hc => ?_⟩
  obtain ⟨c, e1, e2, e3⟩ := h3 pos cv hc
  exact ⟨c, e1, e2, fun z => e3 (hs _ z)⟩
theorem RepC.recut {a : Addr} {c : Cell} (hi : ∀ i, i < n → ρ2[i]? = ρF[i]?) (hs : ∀ b, b ∈ ρ2 → b ∈ ρF) (h : RepC H ρF a c) (k : okC n c = true) : RepC H ρ2 a c := by
  cases c with
  | lst ds => obtain ⟨vs, h1, h2⟩ := h; exact ⟨vs, h1, Reps.recut hi hs _ _ h2 k⟩
  | dct ks ds => obtain ⟨vs, h1, l, h2⟩ := h; exact ⟨vs, h1, l, Reps.recut hi hs _ _ h2 k⟩
  | obj C ns ds => obtain ⟨dx, vs, h1, l, h2⟩ := h; exact ⟨dx, vs, h1, l, Reps.recut hi hs _ _ h2 k⟩
  | tab P q => exact TabR.recut hs h
  | emp P q es => exact ⟨TabR.recut hs h.1, fun x hx => ⟨(h.2 x hx).1, fun z => (h.2 x hx).2 (hs _ z)⟩⟩
  | fn κ j l => obtain ⟨pm, c, ctv, h1, h2, h3⟩ := h; exact ⟨pm, c, ctv, h1, h2, fun z => h3 (hs _ z)⟩
end
section
variable {P : Program} {w : World} {K : PySem.W.Frag} {mg : Str → Option Value} {base : Heap} {k : Nat} {f : Addr} {fd : FuncData} {x qual : Str} {params : Arguments} {body : List Stmt} {scope : Scope} {dvs : List V} {kws : List (Str × V)} {N ps : List Str} {m : MS}
end
section
variable {X : Cx} {W : WX} {a b c : Expr} {ms : MA} {px py pz pt pos : Pos} {x y z : Str} {kt k2 : Nat} {pt2 : Pos}
def parM (i j : Nat) (ms : MA) : MS := fun δ S => bindS (ms δ S) δ fun xs S1 => match xs with
  | [v, w] => .nx ((δ.set i (some v)).set j (some w)) S1
  | _ => .stuck
end
end SL
namespace ZX
open PySem PySem.Spec PyProof.Rows L2
inductive ZS where
  | txt (x : Str) (t : Tok) | lst (a : Addr) | tup (a : Addr)
def sgs (x : Str) : List V := x.cps.toList.map fun c => V.str ⟨#[c]⟩
def ZS.at (K : PySem.W.Frag) (H : Hp) : ZS → List V → Prop
  | .txt x _, xs => xs = sgs x
  | .lst a, xs => SqL K H a xs
  | .tup a, xs => SqT K H a xs
def ZS.vl : ZS → Value
  | .txt x t => .str x t
  | .lst a => .ref a
  | .tup a => .ref a
def ZS.off : ZS → Addr → Prop
  | .txt _ _, _ => True
  | .lst a, b => a ≠ b
  | .tup a, b => a ≠ b
def ZS.it : ZS → Addr → Nat → Heap → Prop
  | .txt x t, it, i, h => h.IsStrIter it (strIterType x) x t i
  | .lst a, it, i, h => h.IsListIter it a i
  | .tup a, it, i, h => h.IsTupleIter it a i
def ZS.new : ZS → Obj
  | .txt x t => { cls := .type (strIterType x), data := .fields #[.str x t, .int 0 0] }
  | .lst a => { cls := .type "list_iterator", data := .fields #[.ref a, .int 0 0] }
  | .tup a => { cls := .type "tuple_iterator", data := .fields #[.ref a, .int 0 0] }
theorem ZS.obj {z : ZS} {it : Addr} {i : Nat} {h : Heap} (s : z.it it i h) : ∃ o, h.get? it = some o ∧ ∀ v, o.data ≠ .cell v := by
  cases z with
  | txt x t => obtain ⟨o, e, c, d⟩ := s; exact ⟨o, e, fun v q => by rw [d] at q; cases q⟩
  | lst a => obtain ⟨o, e, c, d⟩ := s; exact ⟨o, e, fun v q => by rw [d] at q; cases q⟩
  | tup a => obtain ⟨o, e, c, d⟩ := s; exact ⟨o, e, fun v q => by rw [d] at q; cases q⟩
theorem ZS.keep {z : ZS} {it : Addr} {i : Nat} {h h' : Heap} (s : z.it it i h) (k : ∀ o, h.get? it = some o → h'.get? it = some o) : z.it it i h' := by
  cases z with
  | txt x t => obtain ⟨o, e, r⟩ := s; exact ⟨o, k o e, r⟩
  | lst a => exact Heap.IsListIter.at s k
  | tup a => exact Heap.IsTupleIter.at s k
theorem ZS.start {z : ZS} {it : Addr} {h : Heap} (e : h.get? it = some z.new) : z.it it 0 h := by
  cases z with
  | txt x t => exact ⟨_, e, rfl, rfl⟩
  | lst a => exact ⟨_, e, rfl, rfl⟩
  | tup a => exact ⟨_, e, rfl, rfl⟩
section
variable {X : Cx} {pins : List (Addr × Obj)} {σ : L2.St} {H : Hp} {s : Shared} {xs : List V}
theorem ZS.draws {A : Around} (I : Inv X pins σ H s) (hh : A.handled = none) (z : ZS) {it : Addr} {i : Nat} (ha : z.at X.K H xs) (hi : z.it it i s.heap) (ho : z.off it) : ∃ (fp : List Addr) (P : Nat → Value → Prop) (St : Nat → Heap → Prop), Draws X.prog X.w A it fp xs.length P St ∧ St i s.heap ∧ it ∈ fp ∧ (∀ b ∈ fp, b = it ∨ ¬ z.off b) ∧
    (∀ j u, P j u → ∃ x, xs[j]? = some x ∧ L2.RelV x u) ∧ ∀ j h, St j h → z.it it j h := by
  cases z with
  | txt x t =>
    have e : xs = sgs x := ha
    subst e
    have hl : (sgs x).length = x.cps.size := by simp [sgs]
    refine ⟨[it], _, _, by rw [hl]; exact Draws.text hh it x t, hi, by simp, fun b hb => .inl (by simpa using hb), ?_, fun j h st => st⟩
    rintro j u ⟨c, t', hc, rfl⟩
    refine ⟨.str ⟨#[c]⟩, ?_, ⟨t', rfl⟩⟩
    simp only [sgs, List.getElem?_map, Array.getElem?_toList, hc, Option.map_some]
  | lst a =>
    obtain ⟨its, rv, p, _⟩ := I.list ha
    have hl := rv.length
    refine ⟨[it, a], (fun i v => its.toArray[i]? = some v), (fun i h => h.IsListIter it a i ∧ h.IsList a its.toArray), by rw [hl, show its.length = its.toArray.size by simp]; exact Draws.list hh it a ho its.toArray, ⟨hi, p.isList⟩, by simp, fun b hb => ?_, ?_, ?_⟩
    · rcases List.mem_cons.mp hb with e | e
      · exact .inl e
      · exact .inr fun q => q (List.mem_singleton.mp e).symm
    · intro j u hu
      have hu' : its[j]? = some u := by simpa using hu
      have hj : j < xs.length := by rw [hl]; exact (List.getElem?_eq_some_iff.mp hu').1
      obtain ⟨u', e, r⟩ := rv.get (List.getElem?_eq_getElem hj)
      rw [hu'] at e
      cases e
      exact ⟨_, List.getElem?_eq_getElem hj, r⟩
    · exact fun j h st => st.1
  | tup a =>
    obtain ⟨its, rv, p, _⟩ := I.tuple ha
    have hl := rv.length
    refine ⟨[it, a], (fun i v => its.toArray[i]? = some v), (fun i h => h.IsTupleIter it a i ∧ h.IsTuple a its.toArray), by rw [hl, show its.length = its.toArray.size by simp]; exact Draws.tuple hh it a ho its.toArray, ⟨hi, p⟩, by simp, fun b hb => ?_, ?_, ?_⟩
    · rcases List.mem_cons.mp hb with e | e
      · exact .inl e
      · exact .inr fun q => q (List.mem_singleton.mp e).symm
    · intro j u hu
      have hu' : its[j]? = some u := by simpa using hu
      have hj : j < xs.length := by rw [hl]; exact (List.getElem?_eq_some_iff.mp hu').1
      obtain ⟨u', e, r⟩ := rv.get (List.getElem?_eq_getElem hj)
      rw [hu'] at e
      cases e
      exact ⟨_, List.getElem?_eq_getElem hj, r⟩
    · exact fun j h st => st.1
theorem ZS.begins (I : Inv X pins σ H s) (z : ZS) (ha : z.at X.K H xs) : ∃ P, Begins z.vl z.new P ∧ P s.heap ∧ ∀ b, s.heap.objs.size ≤ b → z.off b := by
  cases z with
  | txt x t => exact ⟨_, begins_text x t, trivial, fun _ _ => trivial⟩
  | lst a =>
    obtain ⟨its, rv, p, _⟩ := I.list ha
    exact ⟨_, begins_list a its.toArray, p.isList, fun b hb => Nat.ne_of_lt (Nat.lt_of_lt_of_le p.lt hb)⟩
  | tup a =>
    obtain ⟨its, rv, p, _⟩ := I.tuple ha
    obtain ⟨o, e, _⟩ := id p
    exact ⟨_, begins_tuple a its.toArray, p, fun b hb => Nat.ne_of_lt (Nat.lt_of_lt_of_le (Heap.lt_size e) hb)⟩
end
def ItzG (K : PySem.W.Frag) (a b : ZS) (n m : Nat) : It :=
  ⟨fun i H => (∃ xs, a.at K H xs ∧ xs.length = n) ∧ (∃ ys, b.at K H ys ∧ ys.length = m) ∧ i < n ∧ i < m,
    fun i H v H' => ∃ T x y, v = .ref T ∧ H T = none ∧ H' = upd H T (.tup [x, y]) ∧ (∀ xs, a.at K H xs → xs[i]? = some x) ∧ ∀ ys, b.at K H ys → ys[i]? = some y,
    fun i H => (∃ xs, a.at K H xs ∧ xs.length = n) ∧ (∃ ys, b.at K H ys ∧ ys.length = m) ∧ (n ≤ i ∨ m ≤ i)⟩
theorem ZS.inj {X : Cx} {pins : List (Addr × Obj)} {σ : L2.St} {H : Hp} {s : Shared} {xs ys : List V} (I : Inv X pins σ H s) {z : ZS} (h : z.at X.K H xs) (k : z.at X.K H ys) : xs = ys := by
  cases z with
  | txt x t => exact Eq.trans h (Eq.symm k)
  | lst a => exact I.list_inj h k
  | tup a => exact I.tuple_inj h k
structure Apart (z TI TO i1 i2 : Addr) (a b : ZS) : Prop where
  TIz : TI ≠ z
  TOz : TO ≠ z
  TITO : TI ≠ TO
  TIi1 : TI ≠ i1
  TIi2 : TI ≠ i2
  z1 : z ≠ i1
  z2 : z ≠ i2
  T1 : TO ≠ i1
  T2 : TO ≠ i2
  i12 : i1 ≠ i2
  az : a.off z
  aT : a.off TO
  a1 : a.off i1
  a2 : a.off i2
  bz : b.off z
  bT : b.off TO
  b1 : b.off i1
  b2 : b.off i2
theorem Apart.sep {z TI TO i1 i2 : Addr} {a b : ZS} {fp1 fp2 : List Addr} (D : Apart z TI TO i1 i2 a b) (m1 : i1 ∈ fp1) (m2 : i2 ∈ fp2) (f1 : ∀ c ∈ fp1, c = i1 ∨ ¬ a.off c) (f2 : ∀ c ∈ fp2, c = i2 ∨ ¬ b.off c) : ZipSep2 z TI TO i1 i2 fp1 fp2 where
  TIz := D.TIz
  TOz := D.TOz
  TITO := D.TITO
  TIi1 := D.TIi1
  mem1 := m1
  zf1 := fun h => (f1 _ h).elim D.z1 fun n => n D.az
  Tf1 := fun h => (f1 _ h).elim D.T1 fun n => n D.aT
  TIi2 := D.TIi2
  mem2 := m2
  zf2 := fun h => (f2 _ h).elim D.z2 fun n => n D.bz
  Tf2 := fun h => (f2 _ h).elim D.T2 fun n => n D.bT
  sep1_2 := fun h => (f2 _ h).elim D.i12 fun n => n D.b1
  sep2_1 := fun h => (f1 _ h).elim (fun e => D.i12 e.symm) fun n => n D.a2
theorem turn_zipG {P : Program} {w : World} {K : PySem.W.Frag} {elts : List Expr} {kk : Nat} {tpos : Pos} {a b : ZS} {n m : Nat} {z TI TO i1 i2 : Addr} (D : Apart z TI TO i1 i2 a b) :
    Turn P w K (.Tuple elts kk tpos) (ItzG K a b n m) [z, TI, TO, i1, i2] z (fun i h => (i ≤ n ∧ i ≤ m) ∧ IsZip h z TI TO .none ∧ IsTupOf2 h TI (.ref i1) (.ref i2) ∧ (∃ x y, IsTupOf2 h TO x y) ∧ a.it i1 i h ∧ b.it i2 i h) where
  mem := by simp
  obj := fun i h st c hc => by
    obtain ⟨_, hz, hTI, ⟨x, y, hTO⟩, h1, h2⟩ := st
    have e' : c = z ∨ c = TI ∨ c = TO ∨ c = i1 ∨ c = i2 := by simpa using hc
    rcases e' with q | q | q | q | q
    · rw [q]; exact ⟨_, hz, fun v q => nomatch q⟩
    · rw [q]; exact ⟨_, hTI, fun v q => nomatch q⟩
    · rw [q]; exact ⟨_, hTO, fun v q => nomatch q⟩
    · rw [q]; exact (ZS.obj (z := a) h1)
    · rw [q]; exact (ZS.obj (z := b) h2)
  keep := fun i h h' st k => by
    obtain ⟨hb, hz, hTI, ⟨x, y, hTO⟩, h1, h2⟩ := st
    exact ⟨hb, k z (by simp) _ hz, k TI (by simp) _ hTI, ⟨x, y, k TO (by simp) _ hTO⟩, ZS.keep (z := a) h1 fun o q => k i1 (by simp) o q, ZS.keep (z := b) h2 fun o q => k i2 (by simp) o q⟩
  item := by
    intro X hP hw hK hc i pins s σ H E I hf st hg
    subst hP hw hK
    obtain ⟨hb, hz, hTI, ⟨x0, y0, hTO⟩, h1, h2⟩ := st
    obtain ⟨⟨xs, ha, hn⟩, ⟨ys, hbt, hm⟩, hx, hy⟩ := hg
    have hh : X.A.in1.handled = none := I.ok.hd hc
    obtain ⟨fp1, P1, St1, D1, s1, m1, f1, r1, t1⟩ := ZS.draws I hh a ha h1 D.a1
    obtain ⟨fp2, P2, St2, D2, s2, m2, f2, r2, t2⟩ := ZS.draws I hh b hbt h2 D.b2
    have hzl : z < s.heap.objs.size := Heap.lt_size hz
    refine wpAny_pyNext_zipD2_item (D.sep m1 m2 f1 f2) D1 D2 hz hTI hTO s1 s2 (by omega) (by omega) fun u u2 h' tk p1 p2 z' TO' s1' s2' hT hsz hk => ?_
    obtain ⟨x, hx', ru⟩ := r1 _ _ p1
    obtain ⟨y, hy', ru2⟩ := r2 _ _ p2
    refine ⟨_, rfl, wpAny_letOwnedTupleGo_zip (s := { s with heap := h', toks := tk }) z' fun h'' z'' sb => ?_⟩
    have hT2 : h''.get? s.heap.objs.size = some { cls := .type "tuple", data := .seq #[u, u2] } := (sb.2 _ (Nat.ne_of_gt hzl)).trans hT
    have new : ObjOk X.prog X.w (upd H s.heap.objs.size (.tup [x, y])) h'' s.heap.objs.size (.tup [x, y]) :=
      ⟨by show 2 ≤ sizeLine; decide, [u, u2], .cons ru (.cons ru2 .nil), ⟨_, hT2, rfl, _, rfl⟩⟩
    have I1 : Inv X pins σ (upd H s.heap.objs.size (.tup [x, y])) { s with heap := h'', toks := tk } :=
      I.turnedNew (t' := tk) (ch := [z, TI, TO, i1, i2]) (fun c o hb q => (sb.2 c (fun q' => hb (by simp [q']))).trans (hk c o (fun q' => hb (by simp [q'])) (fun q' => hb (by simp [q'])) (fun q' => hb (by simp [q'])) (fun q' => hb (by simp [q'])) q)) hf (Nat.le_refl _) new
    refine ⟨.ref s.heap.objs.size, _, I1, rfl, ⟨_, x, y, rfl, I.hok.fresh (Nat.le_refl _), rfl, fun l hl => by rw [ZS.inj I hl ha]; exact hx', fun l hl => by rw [ZS.inj I hl hbt]; exact hy'⟩, ⟨⟨hx, hy⟩, z'', ?_, ⟨u, u2, ?_⟩, ?_, ?_⟩, fun c hcm => ?_⟩
    · exact (sb.2 _ D.TIz).trans (hk _ _ D.TIz D.TITO D.TIi1 D.TIi2 hTI)
    · exact (sb.2 _ D.TOz).trans TO'
    · exact ZS.keep (z := a) (t1 _ _ s1') fun o q => (sb.2 _ D.z1.symm).trans q
    · exact ZS.keep (z := b) (t2 _ _ s2') fun o q => (sb.2 _ D.z2.symm).trans q
    · have hlt : c < s.heap.objs.size := by
        have e' : c = z ∨ c = TI ∨ c = TO ∨ c = i1 ∨ c = i2 := by simpa using hcm
        rcases e' with q | q | q | q | q
        · rw [q]; exact hzl
        · rw [q]; exact Heap.lt_size hTI
        · rw [q]; exact Heap.lt_size hTO
        · rw [q]; obtain ⟨_, e1, _⟩ := (ZS.obj (z := a) h1); exact Heap.lt_size e1
        · rw [q]; obtain ⟨_, e2, _⟩ := (ZS.obj (z := b) h2); exact Heap.lt_size e2
      rw [upd_ne (Nat.ne_of_lt hlt)]
      exact (hf c hcm).1
  done := by
    intro X hP hw hK hc i pins s σ H E I hf st hg
    subst hP hw hK
    obtain ⟨hb, hz, hTI, ⟨x0, y0, hTO⟩, h1, h2⟩ := st
    obtain ⟨⟨xs, ha, hn⟩, ⟨ys, hbt, hm⟩, hend⟩ := hg
    have hh : X.A.in1.handled = none := I.ok.hd hc
    obtain ⟨fp1, P1, St1, D1, s1, m1, f1, r1, t1⟩ := ZS.draws I hh a ha h1 D.a1
    obtain ⟨fp2, P2, St2, D2, s2, m2, f2, r2, t2⟩ := ZS.draws I hh b hbt h2 D.b2
    exact wpAny_pyNext_zipD2_end (D.sep m1 m2 f1 f2) D1 D2 hz hTI hTO s1 s2 (by omega) (by omega) (by omega) fun h' tk hk => ⟨rfl, I.turnedL (t' := tk) (ch := [z, TI, TO, i1, i2]) (fun c o hb q =>
      hk c o (fun q' => hb (by simp [q'])) (fun q' => hb (by simp [q'])) (fun q' => hb (by simp [q'])) (fun q' => hb (by simp [q'])) q) hf⟩
  self := fun A i s Q E st h => wpAny_pyIter_zip st.2.1 h
inductive ZK where
  | txt | lst | tup
def SrcK (K : PySem.W.Frag) (H : Hp) : ZK → V → List V → Prop
  | .txt, v, xs => ∃ x, v = .str x ∧ xs = sgs x
  | .lst, v, xs => ∃ a, v = .ref a ∧ SqL K H a xs
  | .tup, v, xs => ∃ a, v = .ref a ∧ SqT K H a xs
def ZK.zs : ZK → V → ZS → Prop
  | .txt, v, z => ∃ x t, v = .str x ∧ z = .txt x t
  | .lst, v, z => ∃ a, v = .ref a ∧ z = .lst a
  | .tup, v, z => ∃ a, v = .ref a ∧ z = .tup a
theorem SrcK.kd {K : PySem.W.Frag} {H : Hp} {k : ZK} {v : V} {xs : List V} {u : Value} (h : SrcK K H k v xs) (r : L2.RelV v u) : ∃ z : ZS, z.at K H xs ∧ z.vl = u ∧ k.zs v z := by
  cases k with
  | txt =>
    obtain ⟨x, rfl, rfl⟩ := h
    obtain ⟨t, rfl⟩ := r
    exact ⟨.txt x t, rfl, rfl, x, t, rfl, rfl⟩
  | lst =>
    obtain ⟨a, rfl, h⟩ := h
    obtain rfl : u = Value.ref a := r
    exact ⟨.lst a, h, rfl, a, rfl, rfl⟩
  | tup =>
    obtain ⟨a, rfl, h⟩ := h
    obtain rfl : u = Value.ref a := r
    exact ⟨.tup a, h, rfl, a, rfl, rfl⟩
theorem ZK.at {K : PySem.W.Frag} {H : Hp} {k : ZK} {v : V} {xs : List V} {z : ZS} (h : SrcK K H k v xs) (kz : k.zs v z) : z.at K H xs := by
  cases k with
  | txt =>
    obtain ⟨x, t, rfl, rfl⟩ := kz
    obtain ⟨y, e, rfl⟩ := h
    cases e
    rfl
  | lst =>
    obtain ⟨a, rfl, rfl⟩ := kz
    obtain ⟨b, e, h⟩ := h
    cases e
    exact h
  | tup =>
    obtain ⟨a, rfl, rfl⟩ := kz
    obtain ⟨b, e, h⟩ := h
    cases e
    exact h
def iZipG (K : PySem.W.Frag) (ta : TA) : TI := fun σ H R => ta σ H fun vs H1 => ∃ v1 v2 k1 k2 xs ys, vs = [v1, v2] ∧ SrcK K H1 k1 v1 xs ∧ SrcK K H1 k2 v2 ys ∧ ∀ a b : ZS, k1.zs v1 a → k2.zs v2 b → R (ItzG K a b xs.length ys.length) H1
theorem pi_zipG {X : Cx} {e e2 : Expr} {ta : TA} {p pos tpos : Pos} {elts : List Expr} {kk : Nat} (hg : Gl X "zip") (hm : X.mg "zip" = none) (ha : PA X [e, e2] ta)
    (hs : starEach [e, e2] X.env = (false, eval e X.env) :: starEach [e2] X.env := by rfl) (hpl : (backTo pos (starEach [e2] X.env)).any (·.1) = false := by rfl) :
    PI X (.Tuple elts kk tpos) (.Call (.Name "zip" p) [e, e2] [] pos) (iZipG X.K ta) := by
  refine ⟨fun pins s σ H R I h => ?_⟩
  refine Call_ (ld_blt I hg hm PyProof.Rows.boot_zip (PyProof.Rows.callWith_type1 (thn (ha.run pos pins s σ H _ I h) fun us s1 ⟨vs, H1, I1, r1, q1⟩ => ?_) hs hpl))
  obtain ⟨v1, v2, k1, k2, xs, ys, ex, q1, q2, q⟩ := q1
  subst ex
  cases r1 with
  | cons r rr =>
    cases rr with
    | cons r' rr =>
      cases rr
      obtain ⟨a, ha, ea, ka⟩ := q1.kd r
      obtain ⟨b, hb, eb, kb⟩ := q2.kd r'
      subst ea eb
      obtain ⟨PA, BA, pa, oa⟩ := ZS.begins I1 a ha
      obtain ⟨PB, BB, pb, ob⟩ := ZS.begins I1 b hb
      refine zip_begins2 BA BB pa pb fun h' hz hTI hTO h1 h2 hsz hk => wpAny_pyIter_zip hz ?_
      have I2 : Inv X pins σ H1 { s1 with heap := h' } := I1.kept (t' := s1.toks) hk
      have D : Apart (s1.heap.objs.size + 4) (s1.heap.objs.size + 2) (s1.heap.objs.size + 3) s1.heap.objs.size (s1.heap.objs.size + 1) a b := by
        generalize hN : s1.heap.objs.size = N at oa ob
        have ne : ∀ i j : Nat, i ≠ j → (N + i : Nat) ≠ N + j := fun i j h e => h (by omega)
        have le : ∀ i : Nat, N ≤ N + i := fun i => Nat.le_add_right N i
        exact ⟨ne 2 4 (by decide), ne 3 4 (by decide), ne 2 3 (by decide), ne 2 0 (by decide), ne 2 1 (by decide), ne 4 0 (by decide), ne 4 1 (by decide), ne 3 0 (by decide), ne 3 1 (by decide), ne 0 1 (by decide),
          oa _ (le 4), oa _ (le 3), oa _ (le 0), oa _ (le 1), ob _ (le 4), ob _ (le 3), ob _ (le 0), ob _ (le 1)⟩
      refine ⟨s1.heap.objs.size + 4, [s1.heap.objs.size + 4, s1.heap.objs.size + 2, s1.heap.objs.size + 3, s1.heap.objs.size, s1.heap.objs.size + 1], _, _, H1, rfl, I2, turn_zipG D, ⟨⟨Nat.zero_le _, Nat.zero_le _⟩, hz, hTI, ⟨_, _, hTO⟩, ZS.start h1, ZS.start h2⟩, fun c hcm => ?_, q a b ka kb⟩
      have e' : c = s1.heap.objs.size + 4 ∨ c = s1.heap.objs.size + 2 ∨ c = s1.heap.objs.size + 3 ∨ c = s1.heap.objs.size ∨ c = s1.heap.objs.size + 1 := by simpa using hcm
      have hle : s1.heap.objs.size ≤ c := by
        rcases e' with z | z | z | z | z
        · rw [z]; exact Nat.le_add_right _ _
        · rw [z]; exact Nat.le_add_right _ _
        · rw [z]; exact Nat.le_add_right _ _
        · rw [z]; exact Nat.le_refl _
        · rw [z]; exact Nat.le_add_right _ _
      exact I1.fpOk hle (I1.hok.fresh hle)
def IteG (K : PySem.W.Frag) (a : ZS) (n : Nat) : It :=
  ⟨fun i H => (∃ xs, a.at K H xs ∧ xs.length = n) ∧ i < n,
    fun i H v H' => ∃ T x, v = .ref T ∧ H T = none ∧ H' = upd H T (.tup [.int (i : Nat), x]) ∧ ∀ xs, a.at K H xs → xs[i]? = some x,
    fun i H => (∃ xs, a.at K H xs ∧ xs.length = n) ∧ n ≤ i⟩
theorem turn_enumG {P : Program} {w : World} {K : PySem.W.Frag} {elts : List Expr} {kk : Nat} {tpos : Pos} {a : ZS} {n : Nat} {e it : Addr} (hne : e ≠ it) (ae : a.off e) (ai : a.off it) :
    Turn P w K (.Tuple elts kk tpos) (IteG K a n) [e, it] e (fun i h => i ≤ n ∧ (∃ old, IsEnum h e it ((i : Nat) : Int) old) ∧ a.it it i h) where
  mem := by simp
  obj := fun i h st b hb => by
    obtain ⟨_, ⟨old, he⟩, h1⟩ := st
    have e' : b = e ∨ b = it := by simpa using hb
    rcases e' with z | z
    · rw [z]; exact ⟨_, he, fun v q => nomatch q⟩
    · rw [z]; exact (ZS.obj (z := a) h1)
  keep := fun i h h' st k => let ⟨hb, ⟨old, he⟩, hi⟩ := st; ⟨hb, ⟨old, k e (by simp) _ he⟩, ZS.keep (z := a) hi fun o q => k it (by simp) o q⟩
  item := by
    intro X hP hw hK hc i pins s σ H E I hf st hg
    subst hP hw hK
    obtain ⟨hb, ⟨old, he⟩, hit⟩ := st
    obtain ⟨⟨xs, ha, hn⟩, hx⟩ := hg
    have hh : X.A.in1.handled = none := I.ok.hd hc
    obtain ⟨fp1, P1, St1, D1, s1, m1, f1, r1, t1⟩ := ZS.draws I hh a ha hit ai
    have hel : e < s.heap.objs.size := Heap.lt_size he
    have hil : it < s.heap.objs.size := by obtain ⟨_, q, _⟩ := (ZS.obj (z := a) hit); exact Heap.lt_size q
    refine wpAny_pyNext_enum_itemC D1 he s1 (by omega) hne (fun m => (f1 _ m).elim hne fun n => n ae) fun u h' tk pu ho s1' hT hsz hk => ?_
    obtain ⟨x, hx', ru⟩ := r1 _ _ pu
    refine ⟨_, rfl, wpAny_letOwnedTupleGo_enum (s := { s with heap := h', toks := tk + 1 }) ho fun h'' he' sb => ?_⟩
    have hT2 : h''.get? s.heap.objs.size = some { cls := .type "tuple", data := .seq #[.int i tk, u] } := (sb.2 _ (Nat.ne_of_gt hel)).trans hT
    have new : ObjOk X.prog X.w (upd H s.heap.objs.size (.tup [.int (i : Nat), x])) h'' s.heap.objs.size (.tup [.int (i : Nat), x]) :=
      ⟨by show 2 ≤ sizeLine; decide, [.int i tk, u], .cons ⟨_, rfl⟩ (.cons ru .nil), ⟨_, hT2, rfl, _, rfl⟩⟩
    have I1 : Inv X pins σ (upd H s.heap.objs.size (.tup [.int (i : Nat), x])) { s with heap := h'', toks := tk + 1 } :=
      I.turnedNew (ch := [e, it]) (fun b ob hb q => (sb.2 b (fun z => hb (by simp [z]))).trans (hk b ob (fun z => hb (by simp [z])) (fun z => hb (by simp [z])) q)) hf (Nat.le_refl _) new
    refine ⟨.ref s.heap.objs.size, _, I1, rfl, ⟨_, x, rfl, I.hok.fresh (Nat.le_refl _), rfl, fun l hl => by rw [ZS.inj I hl ha]; exact hx'⟩, ⟨hx, ⟨u, ?_⟩, ZS.keep (z := a) (t1 _ _ s1') fun o q => (sb.2 it (Ne.symm hne)).trans q⟩, fun b hb => ?_⟩
    · have e1 : ((i + 1 : Nat) : Int) = (i : Int) + 1 := by omega
      rw [e1]; exact he'
    · have hb' : b < s.heap.objs.size := by
        have e' : b = e ∨ b = it := by simpa using hb
        rcases e' with z | z
        · rw [z]; exact hel
        · rw [z]; exact hil
      rw [upd_ne (Nat.ne_of_lt hb')]
      exact (hf b hb).1
  done := by
    intro X hP hw hK hc i pins s σ H E I hf st hg
    subst hP hw hK
    obtain ⟨hb, ⟨old, he⟩, hit⟩ := st
    obtain ⟨⟨xs, ha, hn⟩, hx⟩ := hg
    have hh : X.A.in1.handled = none := I.ok.hd hc
    obtain ⟨fp1, P1, St1, D1, s1, m1, f1, r1, t1⟩ := ZS.draws I hh a ha hit ai
    obtain ⟨f0, f1', f2, f3, f4, f5⟩ := hf it (by simp)
    have e1 : i = xs.length := by omega
    rw [e1] at s1
    exact wpAny_pyNext_enum_endD D1 he s1 fun h' eb => ⟨rfl, I.turned (t' := s.toks) (fun b o hb q => eb b o hb q) f0 f1' f3 f4 f5⟩
  self := fun A i s Q E st h => let ⟨_, ⟨_, he⟩, _⟩ := st; wpAny_pyIter_enum he h
def iEnumG (K : PySem.W.Frag) (ta : TA) : TI := fun σ H R => ta σ H fun vs H1 => ∃ v k xs, vs = [v] ∧ SrcK K H1 k v xs ∧ ∀ a : ZS, k.zs v a → R (IteG K a xs.length) H1
set_option maxHeartbeats 1000000 in
theorem meets_enumerate_new1 {v : Value} {o : Obj} {P : Heap → Prop} (B : Begins v o P) :
    Meets (Builtin.«enumerate.__new__» ⟨[.type "enumerate", v], []⟩) (fun _ R s => P s.heap ∧
      R (.ok (.ret (.ref (s.heap.push o).objs.size))) { s with heap := (s.heap.push o).push { cls := .type "enumerate", data := .fields #[.none, .bool false, .ref s.heap.objs.size, rawInt 0, .none, .none] } }) :=
  .of_wp fun prog w A R s h => by
    obtain ⟨hp, g, d, tk, os⟩ := s; obtain ⟨h1, h⟩ := h
    have hsub := sub_enumerate
    have q1 : ∀ {A' : Around} {E : Value → Shared → Prop} {Q : Value → Shared → Prop}, Q (.ref hp.objs.size) ⟨hp.push o, g, d, tk, os⟩ → wpAny (model prog w) A' (pyIter v) Q E ⟨hp, g, d, tk, os⟩ :=
      fun q => B.iter prog w _ _ ⟨hp, g, d, tk, os⟩ _ h1 q
    wp_walk using q1
    refine wpAny_stack_any fun st => wpAny_pure ?_
    split
    · rename_i c _ _ _ _ _
      cases (c == Value.type "enumerate")
      · wp_walk using q1
        exact ⟨_, rfl, h⟩
      · wp_walk using q1
        exact ⟨_, rfl, h⟩
    · wp_walk using q1
      exact ⟨_, rfl, h⟩
theorem enum_begins1 {prog : Program} {w : World} {A : Around} {E : Value → Shared → Prop} {s : Shared} {v : Value} {o : Obj} {P : Heap → Prop} {Q : Value → Shared → Prop} (B : Begins v o P) (h1 : P s.heap)
    (h : ∀ h', IsEnum h' (s.heap.objs.size + 1) s.heap.objs.size 0 .none → h'.get? s.heap.objs.size = some o → h'.objs.size = s.heap.objs.size + 2 →
      (∀ b o, s.heap.get? b = some o → h'.get? b = some o) → Q (.ref (s.heap.objs.size + 1)) { s with heap := h' }) :
    wpAny (model prog w) A (call (.type "enumerate") [v]) Q E s := by
  refine callType_new F.called_enumerate (by decide) (F.typeCall_enumerate_1 _) (F.newCall_enumerate_1 _) (fun obj => F.args_object_init_2 obj _) F.entry_enumerate_new
    (meets_enumerate_new1 B) ⟨h1, ?_⟩
  have hz : (s.heap.push o).objs.size = s.heap.objs.size + 1 := Heap.size_push ..
  show _ ∧ _
  rw [hz]
  have he : IsEnum ((s.heap.push o).push { cls := .type "enumerate", data := .fields #[.none, .bool false, .ref s.heap.objs.size, rawInt 0, .none, .none] }) (s.heap.objs.size + 1) s.heap.objs.size 0 .none := by
    have := Heap.get?_push_size (s.heap.push o) (o := { cls := .type "enumerate", data := .fields #[.none, .bool false, .ref s.heap.objs.size, rawInt 0, .none, .none] }) rfl
    rw [hz] at this; exact this
  exact ⟨⟨_, he, rfl⟩, h _ he (Heap.get?_push_of_some _ (Heap.get?_push_size _ B.free)) (by rw [Heap.size_push, hz]) fun b o x => Heap.get?_push_of_some _ (Heap.get?_push_of_some _ x)⟩
theorem pi_enumG {X : Cx} {e : Expr} {ta : TA} {p pos tpos : Pos} {elts : List Expr} {kk : Nat} (hg : Gl X "enumerate") (hm : X.mg "enumerate" = none) (ha : PA X [e] ta) (hs : starEach [e] X.env = [(false, eval e X.env)] := by rfl) :
    PI X (.Tuple elts kk tpos) (.Call (.Name "enumerate" p) [e] [] pos) (iEnumG X.K ta) := by
  refine ⟨fun pins s σ H R I h => ?_⟩
  refine Call_ (ld_blt I hg hm boot_enumerate (PyProof.Rows.callWith_type1 (thn (ha.run pos pins s σ H _ I h) fun us s1 ⟨vs, H1, I1, r1, q1⟩ => ?_) hs rfl))
  obtain ⟨v, k, xs, ex, hq, q⟩ := q1
  subst ex
  cases r1 with
  | cons r rr =>
    cases rr
    obtain ⟨a, ha, ea, ka⟩ := hq.kd r
    subst ea
    obtain ⟨PA, BA, pa, oa⟩ := ZS.begins I1 a ha
    refine enum_begins1 BA pa fun h' he h1 hsz hk => wpAny_pyIter_enum he ?_
    have I2 : Inv X pins σ H1 { s1 with heap := h' } := I1.kept (t' := s1.toks) hk
    refine ⟨s1.heap.objs.size + 1, [s1.heap.objs.size + 1, s1.heap.objs.size], _, _, H1, rfl, I2, turn_enumG (Nat.succ_ne_self _) (oa _ (Nat.le_succ _)) (oa _ (Nat.le_refl _)), ⟨Nat.zero_le _, ⟨.none, he⟩, ZS.start h1⟩, fun b hb => ?_, q a ka⟩
    have e' : b = s1.heap.objs.size + 1 ∨ b = s1.heap.objs.size := by simpa using hb
    have hle : s1.heap.objs.size ≤ b := by
      rcases e' with z | z
      · rw [z]; exact Nat.le_add_right _ _
      · rw [z]; exact Nat.le_refl _
    exact I1.fpOk hle (I1.hok.fresh hle)
end ZX
namespace SL
open PySem PySem.Spec L2 ZX
open PyProof.Rows hiding St
def kindD : D → ZK
  | .str _ => .txt
  | .tup _ => .tup
  | _ => .lst
section
variable {X : Cx} {W : WX} {H H' : Hp} {ρ ρ' : List Addr} {S : Store} {d e : D} {v v1 v2 : V} {xs ys ds : List D} {K : PySem.W.Frag}
theorem signs_reps (H : Hp) (ρ : List Addr) : ∀ l : List Nat, Reps H ρ (signs l) (l.map fun c => V.str ⟨#[c]⟩)
  | [] => rfl
  | c :: l => ⟨_, _, rfl, rfl, signs_reps H ρ l⟩
theorem iterD_src (st : StS H S ρ) (r : Rep H ρ d v) (h : iterD S d = some xs) : ∃ vs, SrcK K H (kindD d) v vs ∧ Reps H ρ xs vs := by
  cases d with
  | str l =>
    cases h
    cases r
    exact ⟨_, ⟨_, rfl, rfl⟩, by simpa [sgs] using signs_reps H ρ l⟩
  | tup es =>
    obtain ⟨a, vs, rfl, h1, h2⟩ := asT_rep r (show asT (.tup es) = some xs from h)
    exact ⟨vs, ⟨a, rfl, .inl h1.rd⟩, h2⟩
  | lst es =>
    obtain ⟨a, vs, rfl, h1, h2⟩ := asL_rep st r (show asL S (.lst es) = some xs from h)
    exact ⟨vs, ⟨a, rfl, .inl (.inl h1)⟩, h2⟩
  | loc m =>
    have hq : asL S (.loc m) = some xs := by
      unfold iterD asQ at h
      simp only at h
      split at h
      · rename_i e; cases h; exact e
      · cases h
    obtain ⟨a, vs, rfl, h1, h2⟩ := asL_rep st r hq
    exact ⟨vs, ⟨a, rfl, .inl (.inl h1)⟩, h2⟩
  | non => cases h
  | bl _ => cases h
  | int _ => cases h
  | raw _ => cases h
  | dct _ _ => cases h
  | obj _ _ _ => cases h
  | exn _ _ _ _ => cases h
theorem zipT_len : ∀ (xs ys : List D), (zipT xs ys).length = min xs.length ys.length
  | [], ys => by cases ys <;> simp [zipT]
  | _ :: _, [] => by simp [zipT]
  | x :: xs, y :: ys => by simp [zipT, zipT_len xs ys]
theorem zipT_at : ∀ (xs ys : List D) (i : Nat) (d : D), (zipT xs ys)[i]? = some d → ∃ x y, xs[i]? = some x ∧ ys[i]? = some y ∧ d = .tup [x, y]
  | [], ys, i, d, h => by cases ys <;> simp [zipT] at h
  | _ :: _, [], i, d, h => by simp [zipT] at h
  | x :: xs, y :: ys, 0, d, h => by simp [zipT] at h; exact ⟨x, y, rfl, rfl, h.symm⟩
  | x :: xs, y :: ys, i + 1, d, h => by
    simp only [zipT, List.getElem?_cons_succ] at h
    obtain ⟨a, b, e1, e2, e3⟩ := zipT_at xs ys i d h
    exact ⟨a, b, by simpa using e1, by simpa using e2, e3⟩
theorem enmT_len : ∀ (xs : List D) (k : Nat), (enmT k xs).length = xs.length
  | [], _ => rfl
  | _ :: xs, k => congrArg (· + 1) (enmT_len xs (k + 1))
theorem enmT_at : ∀ (xs : List D) (k i : Nat) (d : D), (enmT k xs)[i]? = some d → ∃ x, xs[i]? = some x ∧ d = .tup [.int ((k + i : Nat) : Int), x]
  | [], k, i, d, h => by simp [enmT] at h
  | x :: xs, k, 0, d, h => by simp [enmT] at h; exact ⟨x, rfl, h.symm⟩
  | x :: xs, k, i + 1, d, h => by
    simp only [enmT, List.getElem?_cons_succ] at h
    obtain ⟨a, e1, e2⟩ := enmT_at xs (k + 1) i d h
    exact ⟨a, by simpa using e1, by rw [e2, show k + 1 + i = k + (i + 1) by omega]⟩
theorem itr_zip {n m : Nat} {a b : ZS} (r1 : Rep H ρ d v1) (r2 : Rep H ρ e v2) (ka : (kindD d).zs v1 a) (kb : (kindD e).zs v2 b) : ItR H ρ (.zip d e n m) (ItzG K a b n m) := fun i H' ρ' S ds nx st h => by
  unfold items at h
  simp only at h
  split at h
  · rename_i xs ys ex ey
    split at h
    · rename_i hl
      cases h
      obtain ⟨vs, s1, q1⟩ := iterD_src (K := K) st (Rep.mono nx _ _ r1) ex
      obtain ⟨ws, s2, q2⟩ := iterD_src (K := K) st (Rep.mono nx _ _ r2) ey
      have l1 : vs.length = n := by rw [← q1.len]; exact hl.1
      have l2 : ws.length = m := by rw [← q2.len]; exact hl.2
      constructor
      · intro d' hd
        obtain ⟨x, y, hx, hy, rfl⟩ := zipT_at _ _ _ _ hd
        obtain ⟨v, hv, rv⟩ := Reps.getD q1 hx
        obtain ⟨w, hw, rw'⟩ := Reps.getD q2 hy
        refine ⟨⟨⟨vs, ZK.at s1 ka, l1⟩, ⟨ws, ZK.at s2 kb, l2⟩, by have := (List.getElem?_eq_some_iff.mp hx).1; omega, by have := (List.getElem?_eq_some_iff.mp hy).1; omega⟩, ?_⟩
        rintro z H2 ⟨T, x', y', rfl, hT, rfl, fx, fy⟩
        have e1 := (fx vs (ZK.at s1 ka)).symm.trans hv
        have e2 := (fy ws (ZK.at s2 kb)).symm.trans hw
        cases e1
        cases e2
        exact ⟨Nx.alloc hT, st.alloc hT, T, [v, w], rfl, .inl upd_same, fun z => st.trk z hT, Rep.mono (Nx.alloc hT) _ _ rv |> fun q => ⟨v, [w], rfl, q, w, [], rfl, Rep.mono (Nx.alloc hT) _ _ rw', rfl⟩⟩
      · intro hd
        have := List.getElem?_eq_none_iff.mp hd
        rw [zipT_len] at this
        exact ⟨⟨vs, ZK.at s1 ka, l1⟩, ⟨ws, ZK.at s2 kb, l2⟩, by omega⟩
    · cases h
  · cases h
theorem itr_enm {n : Nat} {a : ZS} (r1 : Rep H ρ d v1) (ka : (kindD d).zs v1 a) : ItR H ρ (.enm d n) (IteG K a n) := fun i H' ρ' S ds nx st h => by
  unfold items at h
  simp only at h
  split at h
  · rename_i xs ex
    split at h
    · rename_i hl
      cases h
      obtain ⟨vs, s1, q1⟩ := iterD_src (K := K) st (Rep.mono nx _ _ r1) ex
      have l1 : vs.length = n := by rw [← q1.len]; exact hl
      constructor
      · intro d' hd
        obtain ⟨x, hx, rfl⟩ := enmT_at _ _ _ _ hd
        obtain ⟨v, hv, rv⟩ := Reps.getD q1 hx
        refine ⟨⟨⟨vs, ZK.at s1 ka, l1⟩, by have := (List.getElem?_eq_some_iff.mp hx).1; omega⟩, ?_⟩
        rintro z H2 ⟨T, x', rfl, hT, rfl, fx⟩
        have e1 := (fx vs (ZK.at s1 ka)).symm.trans hv
        cases e1
        exact ⟨Nx.alloc hT, st.alloc hT, T, [.int (i : Nat), v], rfl, .inl upd_same, fun z => st.trk z hT, .int (i : Nat), [v], rfl, by rw [Nat.zero_add]; rfl, v, [], rfl, Rep.mono (Nx.alloc hT) _ _ rv, rfl⟩
      · intro hd
        have := List.getElem?_eq_none_iff.mp hd
        rw [enmT_len] at this
        exact ⟨⟨vs, ZK.at s1 ka, l1⟩, by omega⟩
    · cases h
  · cases h
def srcZ (ma mb : ME) : DEnv → Store → Res Src := fun δ S => (ma δ S).bind fun d S1 => (mb δ S1).bind fun e S2 => match iterD S2 d, iterD S2 e with
  | some xs, some ys => .ok (.zip d e xs.length ys.length) S2
  | _, _ => .stuck
def srcE (ma : ME) : DEnv → Store → Res Src := fun δ S => (ma δ S).bind fun d S1 => match iterD S1 d with
  | some xs => .ok (.enm d xs.length) S1
  | _ => .stuck
theorem pi_dzip {a b : Expr} {ma mb : ME} {p pos tpos : Pos} {elts : List Expr} {kk : Nat} (hm : X.mg "zip" = none) (ha : PE X a (tE W ma)) (hb : PE X b (tE W mb)) (hg : Gl X "zip" := by rfl)
    (hs : starEach [a, b] X.env = (false, eval a X.env) :: starEach [b] X.env := by rfl) (hs2 : starEach (b :: []) X.env = (false, eval b X.env) :: starEach [] X.env := by rfl) (hpl : (backTo pos (starEach [b] X.env)).any (·.1) = false := by rfl) :
    PI X (.Tuple elts kk tpos) (.Call (.Name "zip" p) [a, b] [] pos) (tG W ItR (srcZ ma mb)) := PI.weak (pi_zipG hg hm (pd_cons ha (pd_cons hb pd_nil hs2) hs) hs hpl) fun σ H R h => by
  obtain ⟨δ, S, ρ, I, h⟩ := h
  refine ⟨δ, S, ρ, I, ?_⟩
  unfold srcZ at h
  unfold consM nilM
  cases em : ma δ S with
  | stuck => rw [em] at h; exact False.elim h
  | exc x S1 => rw [em] at h; exact h
  | ok d S1 =>
    rw [em] at h
    simp only [bind_ok] at h ⊢
    cases em2 : mb δ S1 with
    | stuck => rw [em2] at h; exact False.elim h
    | exc x S2 => rw [em2] at h; exact h
    | ok e S2 =>
      rw [em2] at h
      simp only [bind_ok] at h ⊢
      intro vs H1 ρ1 n st r
      obtain ⟨v, us, rfl, r1, ru⟩ := r
      obtain ⟨u, ws, rfl, r2, rw'⟩ := ru
      cases rw'
      split at h
      · rename_i xs ys ex ey
        obtain ⟨vs, s1, q1⟩ := iterD_src (K := X.K) st r1 ex
        obtain ⟨ws, s2, q2⟩ := iterD_src (K := X.K) st r2 ey
        exact ⟨v, u, _, _, vs, ws, rfl, s1, s2, fun a b ka kb => by rw [← q1.len, ← q2.len]; exact h _ H1 ρ1 n st (itr_zip r1 r2 ka kb)⟩
      · exact False.elim h
theorem pi_denum {a : Expr} {ma : ME} {p pos tpos : Pos} {elts : List Expr} {kk : Nat} (hm : X.mg "enumerate" = none) (ha : PE X a (tE W ma)) (hg : Gl X "enumerate" := by rfl) (hs : starEach [a] X.env = [(false, eval a X.env)] := by rfl)
    (hs' : starEach (a :: []) X.env = (false, eval a X.env) :: starEach [] X.env := by rfl) : PI X (.Tuple elts kk tpos) (.Call (.Name "enumerate" p) [a] [] pos) (tG W ItR (srcE ma)) := PI.weak (pi_enumG hg hm (pd_cons ha pd_nil hs') hs) fun σ H R h => by
  obtain ⟨δ, S, ρ, I, h⟩ := h
  refine ⟨δ, S, ρ, I, ?_⟩
  unfold srcE at h
  unfold consM nilM
  cases em : ma δ S with
  | stuck => rw [em] at h; exact False.elim h
  | exc x S1 => rw [em] at h; exact h
  | ok d S1 =>
    rw [em] at h
    simp only [bind_ok] at h ⊢
    intro vs H1 ρ1 n st r
    obtain ⟨v, us, rfl, r1, ru⟩ := r
    cases ru
    split at h
    · rename_i xs ex
      obtain ⟨vs, s1, q1⟩ := iterD_src (K := X.K) st r1 ex
      exact ⟨v, _, vs, rfl, s1, fun a ka => by rw [← q1.len]; exact h _ H1 ρ1 n st (itr_enm r1 ka)⟩
    · exact False.elim h
end
end SL
namespace SL
open PySem PySem.Spec L2
open PyProof.Rows hiding St
def swL (c : Nat) : Nat := if 65 ≤ c ∧ c ≤ 90 then c + 32 else if 97 ≤ c ∧ c ≤ 122 then c - 32 else c
def swapG (_ : Store) (x : D) (xs : List D) : Option D := match x, xs with
  | .str [c], [] => if c < 128 then some (.str [swL c]) else none
  | _, _ => none
def isupG (_ : Store) (x : D) (xs : List D) : Option D := match x, xs with
  | .str [c], [] => if c < 128 then some (.bl (decide (65 ≤ c) && decide (c ≤ 90))) else none
  | _, _ => none
theorem swap_ascii : ∀ c, c < 128 → Txt.swapcase (⟨#[c]⟩ : Str) = ⟨#[swL c]⟩ := by decide +kernel
theorem isup_ascii : ∀ c, c < 128 → Txt.isupper (⟨#[c]⟩ : Str) = (decide (65 ≤ c) && decide (c ≤ 90)) := by decide +kernel
section
variable {X : Cx}
theorem mt_swapcase : MtR X "str.swapcase" (fun x xs H Q => ∃ a, x = .str a ∧ xs = [] ∧ (∃ c, c < 128 ∧ a = ⟨#[c]⟩) ∧ Q (.str (Txt.swapcase a)) H) :=
  mt0 (C := fun a => ∃ c, c < 128 ∧ a = ⟨#[c]⟩) (g := fun a => .str (Txt.swapcase a)) fun a t s Q hc h => by
    obtain ⟨c, hc, rfl⟩ := hc
    refine PySem.SC.swapcase ?_ (h _ (s.toks + 1) ⟨_, rfl⟩)
    rw [swap_ascii c hc]
    rfl
theorem snd_swap : MtSnd (fun x xs H Q => ∃ a, x = .str a ∧ xs = [] ∧ (∃ c, c < 128 ∧ a = ⟨#[c]⟩) ∧ Q (.str (Txt.swapcase a)) H) swapG := by
  intro H ρ S x xs z v vs Q st rx rs e k
  unfold swapG at e
  split at e
  · rename_i c
    split at e
    · rename_i h
      cases e; cases rx; cases rs
      refine ⟨_, rfl, rfl, ⟨c, h, rfl⟩, ?_⟩
      have : Txt.swapcase (⟨[c].toArray⟩ : Str) = ⟨[swL c].toArray⟩ := swap_ascii c h
      rw [this]
      exact k.now st rfl
    · cases e
  · cases e
theorem snd_isup : MtSnd (fun x xs H Q => ∃ a, x = .str a ∧ xs = [] ∧ True ∧ Q (.bl (Txt.isupper a)) H) isupG := by
  intro H ρ S x xs z v vs Q st rx rs e k
  unfold isupG at e
  split at e
  · rename_i c
    split at e
    · rename_i h
      cases e; cases rx; cases rs
      refine ⟨_, rfl, rfl, trivial, ?_⟩
      have : Txt.isupper (⟨[c].toArray⟩ : Str) = _ := isup_ascii c h
      rw [this]
      exact k.now st rfl
    · cases e
  · cases e
end
section
variable {P : Program} {w : World} {K : PySem.W.Frag} {mg : Str → Option Value} {base : Heap} {k : Nat} {at_ : Str × Option Str} {fd : FuncData} {x qual : Str} {params : Arguments} {body : List Stmt} {scope : Scope} {dvs : List V} {kws : List (Str × V)} {N ps : List Str} {m : MS}
theorem FunD.okT {CX : CXT} {sp : Sp} (F : FunD K x qual params body scope dvs kws (He.fAd K at_) fd) (S : FnScope N ps scope) (len : ∀ vs H Q E, sp vs H Q E → vs.length = ps.length)
    (hbody : ∀ (cdv : Value) (A : Around) (outer : List Env) (s : Shared) (H : Hp) (vs : List V) (Q : VK) (E : XK), cdv = .ref (He.cT K at_).1 → Room k (A.deeper (envOfC qual scope s.heap.objs.size (He.fAd K at_) cdv)) → sp vs H Q E →
      ∃ t, PSs (cxOf CX P w K mg base N qual scope (He.fAd K at_) cdv A outer s H E) body t ∧ t { nx := fun _ H' => Q .non H', rt := Q } (L2.start N vs) H) : FnOk P w K mg base CX (k + 1) (He.fAd K at_) fd ps sp := by
  obtain ⟨oc, od, dV, kV, doc, pm, an, cdv, ct, osl, rfl, lk, hcd, _, _⟩ := F.ex
  obtain ⟨c, rfl⟩ := He.codeIn_ref hcd
  have e := He.codeOf_eq lk rfl
  exact fn_of lk hcd S len fun A outer s H vs Q E hr hsp => hbody (.ref c) A outer s H vs Q E (by rw [← e]; rfl) hr hsp
end
section
variable {K : PySem.W.Frag} {x qual : Str} {params : Arguments} {body : List Stmt} {scope : Scope} {kws : List (Str × V)} {f : Addr} {fd : FuncData} {ps ks : List Str} {n : Nat} {g : List Value → List Value → List Value} {gV : List V → List V → List V}
theorem kbindsP (F : FunD K x qual params body scope [] kws f fd) (hrel : ∀ {vs zs : List V} {us ws : List Value}, Vals vs us → Vals zs ws → Vals (gV vs zs) (g us ws))
    (h : ∀ (kV doc pm : Value) (an : Option Addr) (cdv ct : Value) (us ws : List Value), us.length = n → ws.length = ks.length → bindArgs (PySem.W.fnOf x qual params body scope .none kV doc pm an cdv ct) ⟨us, ks.zip ws⟩ = pure (ps.zip (g us ws))) : KBn K fd ps n ks g gV := by
  obtain ⟨oc, od, dV, kV, doc, pm, an, cdv, ct, osl, rfl, lk, hcd, hD, hK⟩ := F.ex
  rcases hD with ⟨_, rfl⟩ | ⟨e, _⟩
  · exact ⟨fun s us ws X l1 l2 => .of_eq (h kV doc pm an cdv ct us ws l1 l2), fun r1 r2 => hrel r1 r2⟩
  · exact absurd rfl e
def ord {α : Type} (is : List Nat) (xs : List α) : List α := is.filterMap fun i => xs[i]?
theorem vals_get : ∀ {vs : List V} {us : List Value} (i : Nat), Vals vs us → (vs[i]? = none ∧ us[i]? = none) ∨ ∃ v u, vs[i]? = some v ∧ us[i]? = some u ∧ RelV v u
  | _, _, _, .nil => .inl ⟨by simp, by simp⟩
  | _, _, 0, .cons r _ => .inr ⟨_, _, rfl, rfl, r⟩
  | _, _, i + 1, .cons _ rs => by simpa using vals_get i rs
theorem vals_ord {vs : List V} {us : List Value} (r : Vals vs us) : ∀ is : List Nat, Vals (ord is vs) (ord is us)
  | [] => .nil
  | i :: is => by
    unfold ord
    rw [List.filterMap_cons, List.filterMap_cons]
    rcases vals_get i r with ⟨e1, e2⟩ | ⟨v, u, e1, e2, rv⟩
    · rw [e1, e2]; exact vals_ord r is
    · rw [e1, e2]; exact .cons rv (vals_ord r is)
theorem reps_ord {H : Hp} {ρ : List Addr} {ds : List D} {vs : List V} (r : Reps H ρ ds vs) : ∀ is : List Nat, Reps H ρ (ord is ds) (ord is vs)
  | [] => rfl
  | i :: is => by
    unfold ord
    rw [List.filterMap_cons, List.filterMap_cons]
    cases e : ds[i]? with
    | none =>
      have : vs[i]? = none := by
        rw [List.getElem?_eq_none_iff] at e ⊢
        rw [← r.len]; exact e
      rw [this]
      exact reps_ord r is
    | some d =>
      obtain ⟨v, e2, rv⟩ := Reps.getD r e
      rw [e2]
      exact Reps.cons rv (reps_ord r is)
theorem gr_ord (is : List Nat) : GRel (fun ds es => ord is (ds ++ es)) (fun vs zs => ord is (vs ++ zs)) := ⟨fun r1 r2 => reps_ord (r1.append r2) is⟩
end
section
variable {X : Cx} {W : WX} {o : Expr} {mo : ME} {mk : MA} {pos apos : Pos} {m : Str} {k n : Nat} {f C : Addr} {fd : FuncData} {ps ks : List Str} {φ : Fn} {kws : List Keyword}
end
section
variable {X : Cx} {W : WX} {e : Expr} {es : List Expr} {ms mk : MA} {x : Str} {p pos : Pos} {k n : Nat} {f : Addr} {fd : FuncData} {ps ks : List Str} {φ : Fn} {kws : List Keyword}
theorem pd_callN0 {q : Nat} {g : List Value → List Value → List Value} {gV : List V → List V → List V} {gD : List D → List D → List D} (F : FnOk X.prog X.w X.K X.mg X.base (L2.CX X.prog X.w) k f fd ps (spD q φ)) (hr : Room k X.A) (hm : X.mg x = some (.ref f)) (hk : PySem.W.keepIn X.K (.ref f) = true) (hb : KBn X.K fd ps n ks g gV) (gr : GRel gD gV) (tk : TkW X W)
    (hkw : PK X kws (tA W mk)) (hg : Gl X x := by rfl) (hall : (backToKw pos (keywordEach kws X.env)).all (·.1.isSome) = true := by rfl) (hks : (backToKw pos (keywordEach kws X.env)).filterMap (·.1) = ks := by rfl)
    (hdb : (x == ("__debug__" : Str)) = false := by decide)
    (hpl : ((backTo pos (starEach [] X.env)).any (·.1) || (backToKw pos (keywordEach kws X.env)).any (·.1.isNone)) = false := by rfl) :
    PE X (.Call (.Name x p) [] kws pos) (tE W (appN n ks.length q φ gD nilM mk)) := by
  refine ⟨fun pins s σ H Q I h => ?_⟩
  refine wpAny_Call_Name_kw (ld_glob I hg hm ?_ hdb)
  obtain ⟨δ, S, ρ, I', h⟩ := h
  refine PySem.W.callWith_KW0 (h₀ := X.base) (first := []) I.ok.mod.kin hk hall ?_ hpl
  have hkr : tA W mk σ H fun zs H2 => ([] : List V).length = n ∧ zs.length = ks.length ∧ spD q φ (gV [] zs) H2 Q (fun c dd H' => W c dd σ H') := by
    unfold appN at h
    simp only [nilM, bind_ok] at h
    refine bindG I' h fun zs ws S2 H2 ρ2 n2 I2 r2 h2 => ?_
    split at h2
    · rename_i hl
      exact ⟨hl.1, by rw [← r2.len]; exact hl.2, sp_of I2.st (gr.rel Reps.nil r2) h2⟩
    · exact False.elim h2
  refine thn (hkw.run pos pins s σ H _ I hkr) fun ws s2 ⟨zs, H2, I2, rz, l1, l2, q2⟩ => ⟨I2.kIn, ?_⟩
  rw [hks]
  exact run_fnKS (E := fun σ c d H => W c d σ H) (us := []) (vs := []) F hr hb (tk σ) I2 .nil rz l1 l2 q2
end
end SL
namespace SetTx
open PySem PySem.Spec PyProof.Rows L2 PpSet
def keyT (e : Int × Value) : Str := match e.2 with | .str k _ => k | _ => default
def GoodT (w : World) (e : Int × Value) : Prop := ∃ k tk, e.2 = Value.str k tk ∧ e.1 = hashStr w k
def SetT (w : World) (h : Heap) (a : Addr) (S : Str → Bool) (n : Nat) : Prop :=
  ∃ o es ep t, h.get? a = some o ∧ o.ExactSet ∧ o.data = .set es ep t ∧ (∀ e ∈ es.toList, GoodT w e) ∧ (es.toList.map keyT).Nodup ∧ (∀ k, S k = true ↔ k ∈ es.toList.map keyT) ∧
    es.size < scanBound ∧ t.fits es.size = true ∧ es.size = n ∧ Ris t.place.toList ∧ (w.params.followText "set-order" = true ∨ t.led = true)
section
variable {P : Program} {w : World} {h h' : Heap} {a : Addr} {S : Str → Bool} {n : Nat}
theorem SetT.at (R : SetT w h a S n) (k : ∀ o, h.get? a = some o → h'.get? a = some o) : SetT w h' a S n := by
  obtain ⟨o, es, ep, t, ho, r⟩ := R
  exact ⟨o, es, ep, t, k o ho, r⟩
theorem SetT.lt (R : SetT w h a S n) : a < h.objs.size := by
  obtain ⟨o, es, ep, t, ho, r⟩ := R
  exact Heap.lt_size ho
theorem SetT.congr {S' : Str → Bool} (R : SetT w h a S n) (e : ∀ k, S' k = S k) : SetT w h a S' n := by
  have q : S' = S := funext e
  rw [q]; exact R
end
section
variable {P : Program} {w : World} {A : Around} {E : Value → Shared → Prop} {s : Shared} {a : Addr} {S : Str → Bool} {n : Nat}
end
section
variable {P : Program} {w : World} {A : Around} {E : Value → Shared → Prop} {s : Shared}
end
section
variable {X : Cx}
end
section
variable {prog : Program} {w : World} {A : Around} {R : Result → Shared → Prop} {s : Shared} {elt t0 i0 t1 i1 : Expr} {ifs0 ifs1 : List Expr} {scope : Scope} {pos : Pos} {it acc : Value} {env : Env}
end
section
variable {X : Cx}
end
section
variable {X : Cx}
end
end SetTx
namespace SL
open PySem PySem.Spec L2 SetTx
open PyProof.Rows hiding St
section
variable {H : Hp} {ρ : List Addr} {p : Addr} {f g : Heap → Prop}
theorem stay_ext (hp : H p = some (.ext f)) {a : Addr} {o : HO} (h : H a = some o) (hn : ∀ f, o ≠ .ext f) : upd H p (.ext g) a = some o := by
  have hap : a ≠ p := fun z => by
    rw [z, hp] at h
    exact hn f (Option.some.inj h).symm
  rw [upd_ne hap]
  exact h
mutual
theorem Rep.ext (hp : H p = some (.ext f)) : ∀ (d : D) (v : V), Rep H ρ d v → Rep (upd H p (.ext g)) ρ d v
  | .non, v, h => h
  | .bl b, v, h => h
  | .int i, v, h => h
  | .str x, v, h => h
  | .raw u, v, h => h
  | .loc m, v, h => h
  | .tup ds, v, h => by
    obtain ⟨a, vs, e, h1, k, h2⟩ := h
    rcases h1 with h1 | ⟨e0, od, h1⟩
    · exact ⟨a, vs, e, .inl (stay_ext hp h1 (fun f z => by cases z)), k, Reps.ext hp ds vs h2⟩
    · exact ⟨a, vs, e, .inr ⟨e0, od, stay_ext hp h1 (fun f z => by cases z)⟩, k, Reps.ext hp ds vs h2⟩
  | .lst ds, v, h => by
    obtain ⟨a, vs, e, h1, k, h2⟩ := h
    exact ⟨a, vs, e, stay_ext hp h1 (fun f z => by cases z), k, Reps.ext hp ds vs h2⟩
  | .dct ks ds, v, h => by
    obtain ⟨a, vs, e, h1, k, l, h2⟩ := h
    rcases h1 with h1 | ⟨od, h1⟩
    · exact ⟨a, vs, e, .inl (stay_ext hp h1 (fun f z => by cases z)), k, l, Reps.ext hp ds vs h2⟩
    · exact ⟨a, vs, e, .inr ⟨od, stay_ext hp h1 (fun f z => by cases z)⟩, k, l, Reps.ext hp ds vs h2⟩
  | .obj C ns ds, v, h => by
    obtain ⟨a, dx, vs, e, h1, k, l, h2⟩ := h
    exact ⟨a, dx, vs, e, stay_ext hp h1 (fun f z => by cases z), k, l, Reps.ext hp ds vs h2⟩
  | .exn a dd ns ds, v, h => by
    obtain ⟨vs, e, h1, k, l, h2⟩ := h
    exact ⟨vs, e, stay_ext hp h1 (fun f z => by cases z), k, l, Reps.ext hp ds vs h2⟩
theorem Reps.ext (hp : H p = some (.ext f)) : ∀ (ds : List D) (vs : List V), Reps H ρ ds vs → Reps (upd H p (.ext g)) ρ ds vs
  | [], vs, h => h
  | d :: ds, vs, h => by
    obtain ⟨v, r, e, h1, h2⟩ := h
    exact ⟨v, r, e, Rep.ext hp d v h1, Reps.ext hp ds r h2⟩
end
theorem TabR.ext (hp : H p = some (.ext f)) (hf : ∀ q, HO.ext f ≠ LamX.CodeO p q) {a P : Addr} {q : Str} (h : TabR H ρ a P q) : TabR (upd H p (.ext g)) ρ a P q := by
  obtain ⟨e, ps, h1, h2, h3⟩ := h
  refine ⟨e, ps, stay_ext hp h1 (fun f z => by cases z), h2, fun pos cv q => ?_⟩
  obtain ⟨c, e1, e2, e3⟩ := h3 pos cv q
  have hcp : c ≠ p := fun z => by
    subst z
    rw [hp] at e2
    exact hf _ (Option.some.inj e2)
  exact ⟨c, e1, by rw [upd_ne hcp]; exact e2, e3⟩
theorem RepC.ext (hp : H p = some (.ext f)) (hf : ∀ q, HO.ext f ≠ LamX.CodeO p q) {a : Addr} {c : Cell} (ha : a ≠ p) (h : RepC H ρ a c) : RepC (upd H p (.ext g)) ρ a c := by
  cases c with
  | lst ds =>
    obtain ⟨vs, h1, h2⟩ := h
    exact ⟨vs, stay_ext hp h1 (fun f z => by cases z), Reps.ext hp _ _ h2⟩
  | dct ks ds =>
    obtain ⟨vs, h1, l, h2⟩ := h
    exact ⟨vs, stay_ext hp h1 (fun f z => by cases z), l, Reps.ext hp _ _ h2⟩
  | obj C ns ds =>
    obtain ⟨dx, vs, h1, l, h2⟩ := h
    exact ⟨dx, vs, stay_ext hp h1 (fun f z => by cases z), l, Reps.ext hp _ _ h2⟩
  | tab P q => exact TabR.ext hp hf h
  | emp P q es => exact ⟨TabR.ext hp hf h.1, fun x hx => by
      obtain ⟨⟨ob, h1⟩, h2⟩ := h.2 x hx
      exact ⟨⟨ob, stay_ext hp h1 (fun f z => by cases z)⟩, h2⟩⟩
  | fn κ j l =>
    obtain ⟨pm, c, ctv, h1, h2, h3⟩ := h
    have hcp : c ≠ p := fun z => by
      subst z
      rw [hp] at h2
      exact hf _ (Option.some.inj h2)
    exact ⟨pm, c, ctv, by rw [upd_ne ha]; exact h1, by rw [upd_ne hcp]; exact h2, h3⟩
theorem StS.ext {S : Store} (hp : H p = some (.ext f)) (hf : ∀ q, HO.ext f ≠ LamX.CodeO p q) (np : p ∉ ρ) (st : StS H S ρ) : StS (upd H p (.ext g)) S ρ := ⟨st.len, st.nd, fun n a c h1 h2 => RepC.ext hp hf (fun z => np (by rw [← z]; exact List.mem_of_getElem? h1)) (st.cells n a c h1 h2)⟩
theorem EnvS.ext {δ : DEnv} {σ : St} (hp : H p = some (.ext f)) (h : EnvS H ρ δ σ) : EnvS (upd H p (.ext g)) ρ δ σ := ⟨h.1, fun i d e => by
  obtain ⟨v, e1, e2⟩ := h.2 i d e
  exact ⟨v, e1, Rep.ext hp d v e2⟩⟩
theorem Nx.ext {H1 : Hp} {ρ1 : List Addr} (n : Nx H1 ρ1 H ρ) (h1 : H1 p = none) (hp : H p = some (.ext f)) : Nx H1 ρ1 (upd H p (.ext g)) ρ := by
  refine ⟨n.pre, n.new, fun a h => ?_, fun a o h k t => ?_, fun a ps h k => ?_⟩
  · by_cases e : a = p
    · rw [e]; exact h1
    · rw [upd_ne e] at h
      exact n.thr a h
  · have e : a ≠ p := fun z => by rw [z, h1] at h; cases h
    rw [upd_ne e]
    exact n.stay a o h k t
  · have e : a ≠ p := fun z => by rw [z, h1] at h; cases h
    rw [upd_ne e]
    exact n.tbl a ps h k
end
section
variable {X : Cx} {W : WX} {e tg : Expr} {ma : ME}
end
theorem EnvS.go {H H' : Hp} {ρ ρ' : List Addr} {δ : DEnv} {σ : St} (g : ∀ d v, Rep H ρ d v → Rep H' ρ' d v) (h : EnvS H ρ δ σ) : EnvS H' ρ' δ σ := ⟨h.1, fun i d e => by
  obtain ⟨v, e1, r⟩ := h.2 i d e
  exact ⟨v, e1, g _ _ r⟩⟩
section
variable {X : Cx} {W : WX}
variable {elt tge iter tge1 iter1 : Expr} {ifs ifs1 : List Expr} {scope : Scope} {own : List (Str × Nat)} {pos cpos fp : Pos} {mi mi1 : DEnv → Store → Res Src} {tg tg1 : Tg} {tst tst1 : MB} {el : ME}
end
end SL
namespace SL
open PySem PySem.Spec L2
open PyProof.Rows hiding St
section
variable {X : Cx} {W : WX} {e : Expr} {es : List Expr} {ms mk : MA} {p pos : Pos} {x : Str} {kws : List Keyword}
end
end SL
namespace NC
open PySem PySem.Spec L2 SL
structure Ad where
  (HallError Missing NothingLeft BadWalls BadBar BadSide Fixed Alike BadRoom BadPart Empty BadTurn BadTable OtherHall BadText BadTree Ring TooMany BadOrder BadCount NoStory BadName Taken Full InWay Hangs BadDeed BadPage NoRow NoWalker NoBar NoWall NoStep Hall Table Reader Maker Counter Log Crowd Desk t_in_order t_parts_where t_law e_bars e_names e_puts : Addr)
abbrev s_SMALL : List Nat := [97, 98, 99, 100, 101, 102, 103, 104, 105, 106, 107, 108, 109, 110, 111, 112, 113, 114, 115, 116, 117, 118, 119, 120, 121, 122]
def gx_HallError : List SL.D → List SL.D := fun ds => ds
def gx_BadWalls : List SL.D → List SL.D := fun _ => gx_HallError [.str [98, 97, 100, 119, 97, 108, 108, 115]]
def gx_BadBar : List SL.D → List SL.D := fun ds => ds ++ gx_HallError [.str [98, 97, 100, 98, 97, 114]]
def gx_BadSide : List SL.D → List SL.D := fun _ => gx_HallError [.str [98, 97, 100, 115, 105, 100, 101]]
noncomputable def m_law_draw (A : Ad)  : MS := (seqM (ifSM (andB (cmpB ltG (op2M ixG (vM 0) (cM (.int 2))) (vM 1)) (cmpB ltG (op2M ixG (vM 0) (cM (.int 1))) (callG lenG (consM (op2M ixG (vM 0) (cM (.int 0))) nilM)))) (seqM (asgM 2 (op2M ixG (op2M ixG (vM 0) (cM (.int 0))) (op2M ixG (vM 0) (cM (.int 1)))))
  (seqM (setIM (vM 0) (cM (.int 1)) (op2M addG (op2M ixG (vM 0) (cM (.int 1))) (cM (.int 1))))
  (seqM (setIM (vM 0) (cM (.int 2)) (ifM (cmpB geG (vM 2) (op2M powG (cM (.int 10)) (cM (.int 18)))) (vM 2) (cM (.int 0))))
  (setIM (vM 0) (cM (.int 3)) (op2M modG (op2M addG (op2M addG (op2M mulG (op2M ixG (vM 0) (cM (.int 3))) (cM (.int 69621))) (op2M modG (vM 2) (cM (.int 998244353)))) (cM (.int 1))) (cM (.int 2147483647))))))) nxM)
  (seqM (ifSM (cmpB geG (op2M ixG (vM 0) (cM (.int 2))) (vM 1)) (seqM (asgM 3 (op2M modG (op2M ixG (vM 0) (cM (.int 2))) (vM 1)))
  (seqM (setIM (vM 0) (cM (.int 2)) (op2M fdivG (op2M ixG (vM 0) (cM (.int 2))) (vM 1)))
  (retM (vM 3)))) nxM)
  (seqM (setIM (vM 0) (cM (.int 4)) (op2M addG (op2M ixG (vM 0) (cM (.int 4))) (cM (.int 1))))
  (seqM (asgM 4 (op2M addG (op2M addG (op2M mulG (op2M ixG (vM 0) (cM (.int 3))) (cM (.int 16807))) (op2M mulG (op2M ixG (vM 0) (cM (.int 4))) (cM (.int 40692)))) (cM (.int 7))))
  (seqM (asgM 4 (op2M addG (op2M mulG (vM 4) (op2M addG (op2M modG (vM 4) (cM (.int 65521))) (cM (.int 3)))) (op2M mulG (op2M ixG (vM 0) (cM (.int 4))) (cM (.int 9176)))))
  (seqM (setIM (vM 0) (cM (.int 3)) (op2M modG (vM 4) (cM (.int 2147483629))))
  (retM (op2M modG (op2M addG (op2M fdivG (op2M ixG (vM 0) (cM (.int 3))) (cM (.int 32))) (op2M mulG (op2M modG (op2M ixG (vM 0) (cM (.int 3))) (cM (.int 8191))) (cM (.int 13)))) (vM 1)))))))))
noncomputable def φlaw_draw (A : Ad) : Fn := defM 5 (m_law_draw A )
noncomputable def m_law_letters (A : Ad)  : MS := (retM (cM (.str [97, 98, 99, 100, 101, 102, 103, 104, 105, 106, 107, 108, 109, 110, 111, 112, 113, 114, 115, 116, 117, 118, 119, 120, 121, 122])))
noncomputable def φlaw_letters (A : Ad) : Fn := defM 0 (m_law_letters A )
noncomputable def m_law_shuts (A : Ad) (φlaw_draw : Fn) (φlaw_letters : Fn) : MS := (seqM (asgM 2 (cM (.str [])))
  (seqM (asgM 3 (op2M ixG (callG lstG (consM (cM (.int 0)) (consM (cM (.int 2)) (consM (cM (.int 26)) nilM)))) (appM 2 φlaw_draw (consM (vM 0) (consM (cM (.int 3)) nilM)) [])))
  (seqM (forM (srcV (slM (appM 0 φlaw_letters nilM []) (soO (appM 2 φlaw_draw (consM (vM 0) (consM (cM (.int 9)) nilM)) [])) noO)) (.nm 4) (ifSM (andB (cmpB ltG (callG lenG (consM (vM 2) nilM)) (vM 1)) (orB (cmpB eqG (vM 3) (cM (.int 0))) (cmpB eqG (appM 2 φlaw_draw (consM (vM 0) (consM (vM 3) nilM)) []) (cM (.int 0))))) (asgM 2 (op2M addG (vM 2) (vM 4))) nxM))
  (retM (ifM (cmpB neG (vM 2) (cM (.str []))) (vM 2) (cM (.str [107])))))))
noncomputable def φlaw_shuts (A : Ad) : Fn := defM 5 (m_law_shuts A (φlaw_draw A) (φlaw_letters A))
noncomputable def m_law_pairs (A : Ad)  : MS := (seqM (asgM 1 (lstLM nilM))
  (seqM (forM (src1 (callG lenG (consM (vM 0) nilM))) (.nm 2) (forM (src2 (op2M addG (vM 2) (cM (.int 1))) (callG lenG (consM (vM 0) nilM))) (.nm 3) (forM (srcV (callG tupG (consM (op2M ixG (vM 0) (vM 2)) (consM (mtS upperG (op2M ixG (vM 0) (vM 2)) nilM) nilM)))) (.nm 4) (exprM (lmM extendG (vM 1) (consM (compM (srcV (callG tupG (consM (op2M ixG (vM 0) (vM 3)) (consM (mtS upperG (op2M ixG (vM 0) (vM 3)) nilM) nilM)))) (.nm 5) yesB (op2M addG (vM 4) (vM 5)) [5]) nilM))))))
  (retM (vM 1))))
noncomputable def φlaw_pairs (A : Ad) : Fn := defM 6 (m_law_pairs A )
noncomputable def m_law_of (A : Ad) (φlaw_draw : Fn) : MS := (retM (op2M ixG (vM 1) (appM 2 φlaw_draw (consM (vM 0) (consM (callG lenG (consM (vM 1) nilM)) nilM)) [])))
noncomputable def φlaw_of (A : Ad) : Fn := defM 2 (m_law_of A (φlaw_draw A))
noncomputable def m_law_other (A : Ad)  : MS := (retM (ifM (trM (mtS isupG (vM 0) nilM)) (mtS lowerG (vM 0) nilM) (mtS upperG (vM 0) nilM)))
noncomputable def φlaw_other (A : Ad) : Fn := defM 1 (m_law_other A )
noncomputable def m_are_walls (A : Ad)  : MS := (seqM (ifSM (orB (notB (bM (chM leG leG (cM (.int 1)) (callG lenG (consM (vM 0) nilM)) (cM (.int 12))))) (notB (trM (callG allG (consM (compM (srcV (vM 0)) (.nm 1) yesB (op2M inG (vM 1) (cM (.str s_SMALL))) [1]) nilM))))) (retM (cM (.bl false))) nxM)
  (retM (callG allG (consM (compM (srcZ (vM 0) (slM (vM 0) (soO (cM (.int 1))) noO)) (.tp [(.nm 2), (.nm 3)]) yesB (op2M ltG (vM 2) (vM 3)) [2, 3]) nilM))))
noncomputable def φare_walls (A : Ad) : Fn := defM 4 (m_are_walls A )
noncomputable def m_look_walls (A : Ad) (φare_walls : Fn) : MS := (ifSM (notB (trM (appM 1 φare_walls (consM (vM 0) nilM) []))) (raiseM (mkxM A.BadWalls 0 ["word"] gx_BadWalls nilM)) nxM)
noncomputable def φlook_walls (A : Ad) : Fn := defM 1 (m_look_walls A (φare_walls A))
noncomputable def m_is_side (A : Ad)  : MS := (retM (andM (op2M eqG (callG lenG (consM (vM 1) nilM)) (cM (.int 1))) (op2M inG (mtS lowerG (vM 1) nilM) (vM 0))))
noncomputable def φis_side (A : Ad) : Fn := defM 2 (m_is_side A )
noncomputable def m_is_bar (A : Ad) (φis_side : Fn) : MS := (retM (andM (op2M eqG (callG lenG (consM (vM 1) nilM)) (cM (.int 2))) (andM (callG allG (consM (compM (srcV (vM 1)) (.nm 2) yesB (appM 2 φis_side (consM (vM 0) (consM (vM 2) nilM)) []) [2]) nilM)) (op2M ltG (mtS lowerG (op2M ixG (vM 1) (cM (.int 0))) nilM) (mtS lowerG (op2M ixG (vM 1) (cM (.int 1))) nilM)))))
noncomputable def φis_bar (A : Ad) : Fn := defM 3 (m_is_bar A (φis_side A))
noncomputable def m_look_bars (A : Ad) (φis_bar : Fn) : MS := (forM (srcE (vM 1)) (.tp [(.nm 2), (.nm 3)]) (ifSM (orB (notB (trM (appM 2 φis_bar (consM (vM 0) (consM (vM 3) nilM)) []))) (cmpB inG (vM 3) (slM (vM 1) noO (soO (vM 2))))) (raiseM (mkxM A.BadBar 1 ["at", "word"] gx_BadBar (consM (vM 2) nilM))) nxM))
noncomputable def φlook_bars (A : Ad) : Fn := defM 4 (m_look_bars A (φis_bar A))
noncomputable def m_other (A : Ad)  : MS := (retM (mtS swapG (vM 0) nilM))
noncomputable def φother (A : Ad) : Fn := defM 1 (m_other A )
noncomputable def m_sides_of (A : Ad) (φother : Fn) : MS := (retM (callG sortedG (consM (comp2M (srcV (vM 0)) (.nm 1) yesB (srcV (callG tupG (consM (vM 1) (consM (appM 1 φother (consM (vM 1) nilM) []) nilM)))) (.nm 2) yesB (vM 2) [1, 2] [2]) nilM)))
noncomputable def φsides_of (A : Ad) : Fn := defM 3 (m_sides_of A (φother A))
noncomputable def m_straight_of (A : Ad) (φsides_of : Fn) (φother : Fn) : MS := (seqM (asgM 2 (compDM (srcV (appM 1 φsides_of (consM (vM 0) nilM) [])) (.nm 4) yesB (vM 4) (lstLM nilM) [4]))
  (seqM (forM (srcV (callG sortedG (consM (vM 1) nilM))) (.nm 3) (seqM (exprM (lmM appendG (op2M ixG (vM 2) (op2M ixG (vM 3) (cM (.int 0)))) (consM (appM 1 φother (consM (op2M ixG (vM 3) (cM (.int 1))) nilM) []) nilM)))
  (exprM (lmM appendG (op2M ixG (vM 2) (op2M ixG (vM 3) (cM (.int 1)))) (consM (appM 1 φother (consM (op2M ixG (vM 3) (cM (.int 0))) nilM) []) nilM)))))
  (retM (vM 2))))
noncomputable def φstraight_of (A : Ad) : Fn := defM 5 (m_straight_of A (φsides_of A) (φother A))
noncomputable def m_chains_from (A : Ad)  : MS := (seqM (asgM 2 (dispM [((vM 1), (callG lstG (consM (vM 1) nilM)))]))
  (seqM (asgM 3 (lstLM (consM (vM 1) nilM)))
  (seqM (whileM (trM (vM 3)) (seqM (asgSL [(.nm 4), (.nm 3)] 1 (vM 3))
  (forM (srcV (op2M ixG (vM 0) (vM 4))) (.nm 5) (ifSM (cmpB ninG (vM 5) (vM 2)) (seqM (setXM (vM 2) (vM 5) (op2M addG (op2M ixG (vM 2) (vM 4)) (callG lstG (consM (vM 5) nilM))))
  (exprM (lmM appendG (vM 3) (consM (vM 5) nilM)))) nxM))))
  (retM (vM 2)))))
noncomputable def φchains_from (A : Ad) : Fn := defM 6 (m_chains_from A )
noncomputable def m_law_apart (A : Ad)  : MS := (retM (callG lenG (consM (compM (src1 (callG lenG (consM (vM 0) nilM))) (.nm 2) (cmpB neG (op2M ixG (vM 0) (vM 2)) (op2M ixG (vM 1) (vM 2))) (cM (.int 1)) [2]) nilM)))
noncomputable def φlaw_apart (A : Ad) : Fn := defM 3 (m_law_apart A )
noncomputable def m_law_far (A : Ad) (φlaw_apart : Fn) : MS := (seqM (asgT (.tp [(.nm 3), (.nm 4), (.nm 5)]) (callG tupG (consM (callG lstG (consM (vM 1) nilM)) (consM (callG lstG (consM (vM 1) nilM)) (consM (cM (.int 0)) nilM)))))
  (seqM (whileM (andB (cmpB neG (vM 4) (callG lstG nilM)) (cmpB ninG (vM 2) (vM 4))) (seqM (asgM 4 (compM (srcV (vM 0)) (.nm 6) (andB (cmpB ninG (vM 6) (vM 3)) (trM (callG anyG (consM (compM (srcV (vM 4)) (.nm 7) yesB (op2M eqG (appM 2 φlaw_apart (consM (vM 6) (consM (vM 7) nilM)) []) (cM (.int 1))) [7]) nilM)))) (vM 6) [6]))
  (seqM (asgM 3 (op2M addG (vM 3) (vM 4)))
  (asgM 5 (op2M addG (vM 5) (cM (.int 1)))))))
  (retM (ifM (cmpB neG (vM 4) (callG lstG nilM)) (vM 5) (cM .non)))))
noncomputable def φlaw_far (A : Ad) : Fn := defM 8 (m_law_far A (φlaw_apart A))
end NC
namespace SL
open PySem PySem.Spec L2
open PyProof.Rows hiding St
section
variable {X : Cx} {W : WX} {tg a b c e o : Expr} {es : List Expr} {ma mb mc mo : ME} {ms : MA} {p pos p1 p2 p3 p4 apos cpos : Pos} {x : Str} {k : Nat}
end
section
variable {X : Cx} {W : WX} {e : Expr} {es : List Expr} {ms : MA} {p pos : Pos} {x : Str} {k n : Nat} {f : Addr} {fd : FuncData} {ps : List Str} {φ : Fn} {dD : List D} {dvs : List V}
end
end SL
namespace NC
open PySem PySem.Spec L2 SL
end NC
namespace SL
open PySem PySem.Spec L2
open PyProof.Rows hiding St
section
variable {X : Cx}
end
end SL
namespace NC
open PySem PySem.Spec L2 SL
end NC
namespace SL
open PySem PySem.Spec L2
open PyProof.Rows hiding St
noncomputable def drawM : MS := (seqM (ifSM (andB (cmpB ltG (op2M ixG (vM 0) (cM (.int 2))) (vM 1)) (cmpB ltG (op2M ixG (vM 0) (cM (.int 1))) (callG lenG (consM (op2M ixG (vM 0) (cM (.int 0))) nilM)))) (seqM (asgM 2 (op2M ixG (op2M ixG (vM 0) (cM (.int 0))) (op2M ixG (vM 0) (cM (.int 1)))))
  (seqM (setIM (vM 0) (cM (.int 1)) (op2M addG (op2M ixG (vM 0) (cM (.int 1))) (cM (.int 1))))
  (seqM (setIM (vM 0) (cM (.int 2)) (ifM (cmpB geG (vM 2) (op2M powG (cM (.int 10)) (cM (.int 18)))) (vM 2) (cM (.int 0))))
  (setIM (vM 0) (cM (.int 3)) (op2M modG (op2M addG (op2M addG (op2M mulG (op2M ixG (vM 0) (cM (.int 3))) (cM (.int 69621))) (op2M modG (vM 2) (cM (.int 998244353)))) (cM (.int 1))) (cM (.int 2147483647))))))) nxM)
  (seqM (ifSM (cmpB geG (op2M ixG (vM 0) (cM (.int 2))) (vM 1)) (seqM (asgM 3 (op2M modG (op2M ixG (vM 0) (cM (.int 2))) (vM 1)))
  (seqM (setIM (vM 0) (cM (.int 2)) (op2M fdivG (op2M ixG (vM 0) (cM (.int 2))) (vM 1)))
  (retM (vM 3)))) nxM)
  (seqM (setIM (vM 0) (cM (.int 4)) (op2M addG (op2M ixG (vM 0) (cM (.int 4))) (cM (.int 1))))
  (seqM (asgM 4 (op2M addG (op2M addG (op2M mulG (op2M ixG (vM 0) (cM (.int 3))) (cM (.int 16807))) (op2M mulG (op2M ixG (vM 0) (cM (.int 4))) (cM (.int 40692)))) (cM (.int 7))))
  (seqM (asgM 4 (op2M addG (op2M mulG (vM 4) (op2M addG (op2M modG (vM 4) (cM (.int 65521))) (cM (.int 3)))) (op2M mulG (op2M ixG (vM 0) (cM (.int 4))) (cM (.int 9176)))))
  (seqM (setIM (vM 0) (cM (.int 3)) (op2M modG (vM 4) (cM (.int 2147483629))))
  (retM (op2M modG (op2M addG (op2M fdivG (op2M ixG (vM 0) (cM (.int 3))) (cM (.int 32))) (op2M mulG (op2M modG (op2M ixG (vM 0) (cM (.int 3))) (cM (.int 8191))) (cM (.int 13)))) (vM 1)))))))))
theorem gAddI {S : Store} {x y : Int} : addG S (.int x) (.int y) = some (.int (x + y)) := rfl
theorem gAddS {S : Store} {x y : List Nat} (h : x.length + y.length ≤ 1000000) : addG S (.str x) (.str y) = some (.str (x ++ y)) := if_pos h
theorem gMulI {S : Store} {x y : Int} (h1 : -(2 ^ 64) < y) (h2 : y < 2 ^ 64) : mulG S (.int x) (.int y) = some (.int (x * y)) := if_pos (.inl (.inr ⟨h1, h2⟩))
theorem gModI {S : Store} {x y : Int} (h : 0 < y) : modG S (.int x) (.int y) = some (.int (x % y)) := if_pos h
theorem gFdivI {S : Store} {x y : Int} (h : 0 < y) (h2 : y.natAbs.log2 < 9000) : fdivG S (.int x) (.int y) = some (.int (x / y)) := if_pos ⟨h, h2⟩
theorem gLtI {S : Store} {x y : Int} : ltG S (.int x) (.int y) = some (.bl (decide (x < y))) := rfl
theorem gGeI {S : Store} {x y : Int} : geG S (.int x) (.int y) = some (.bl (decide (y ≤ x))) := rfl
theorem gLenS {S : Store} {z : List Nat} (h : z.length ≤ 1000000) : lenG S [.str z] = some (.int z.length) := by
  show (match (if z.length ≤ 1000000 then some z.length else none : Option Nat) with | some n => some (D.int n) | none => none) = _
  rw [if_pos h]
theorem gPow {S : Store} {x y : Int} (h : 0 ≤ y ∧ y ≤ 1000000 ∧ x.natAbs < 2 ^ 64) : powG S (.int x) (.int y) = some (.int (x ^ y.toNat)) := if_pos h
theorem gIxL {S : Store} {ds : List D} {n : Nat} {d : D} (h : ds[n]? = some d) : ixG S (.lst ds) (.int n) = some d := by
  have hl := (List.getElem?_eq_some_iff.mp h).1
  show atI ds n = some d
  unfold atI ixN
  rw [if_pos (by omega), if_pos (by omega)]
  simpa using h
theorem gIxT {S : Store} {ds : List D} {n : Nat} {d : D} (h : ds[n]? = some d) : ixG S (.tup ds) (.int n) = some d := by
  have hl := (List.getElem?_eq_some_iff.mp h).1
  show atI ds n = some d
  unfold atI ixN
  rw [if_pos (by omega), if_pos (by omega)]
  simpa using h
theorem gIxS {S : Store} {l : List Nat} {n c : Nat} (hz : l.length ≤ 1000000) (h : l[n]? = some c) : ixG S (.str l) (.int n) = some (.str [c]) := by
  have hl := (List.getElem?_eq_some_iff.mp h).1
  show (if l.length ≤ 1000000 then (match atI l n with | some c => some (D.str [c]) | none => none) else none) = _
  rw [if_pos hz]
  unfold atI ixN
  rw [if_pos (by omega), if_pos (by omega)]
  simp [h]
theorem cut_nat {α : Type} (l : List α) (p q : Nat) : cutL l (some (p : Int)) (some (q : Int)) = (l.drop p).take (q - p) := by
  unfold cutL
  rw [HT.sIx_nat, HT.sIx_nat]
  by_cases hp : p ≤ l.length
  · rw [Nat.min_eq_left hp]
    by_cases hq : q ≤ l.length
    · rw [Nat.min_eq_left hq]
    · rw [Nat.min_eq_right (by omega), List.take_of_length_le (by rw [List.length_drop]; omega), List.take_of_length_le (by rw [List.length_drop]; omega)]
  · rw [Nat.min_eq_right (by omega : l.length ≤ p), List.drop_of_length_le (Nat.le_refl _), List.drop_of_length_le (by omega : l.length ≤ p)]
    simp
theorem cut_to {α : Type} (l : List α) (q : Nat) : cutL l none (some (q : Int)) = l.take q := by
  have := cut_nat l 0 q
  simpa [cutL, HT.sIx] using this
theorem cut_from {α : Type} (l : List α) (p : Nat) : cutL l (some (p : Int)) none = l.drop p := by
  unfold cutL
  rw [HT.sIx_nat, HT.sIx_none]
  by_cases hp : p ≤ l.length
  · rw [Nat.min_eq_left hp, List.take_of_length_le (by rw [List.length_drop]; omega)]
  · rw [Nat.min_eq_right (by omega : l.length ≤ p), List.drop_of_length_le (Nat.le_refl _), List.drop_of_length_le (by omega : l.length ≤ p)]
    simp
section
variable {ns : List Int} {i w s c x : Int} {T : Store}
theorem dr0 : ixG (drawS ns i w s c :: T) (.loc 0) (.int 0) = some (.lst (ns.map D.int)) := rfl
theorem dr1 : ixG (drawS ns i w s c :: T) (.loc 0) (.int 1) = some (.int i) := rfl
theorem dr2 : ixG (drawS ns i w s c :: T) (.loc 0) (.int 2) = some (.int w) := rfl
theorem dr3 : ixG (drawS ns i w s c :: T) (.loc 0) (.int 3) = some (.int s) := rfl
theorem dr4 : ixG (drawS ns i w s c :: T) (.loc 0) (.int 4) = some (.int c) := rfl
theorem dfold : Cell.lst [.lst (ns.map D.int), .int i, .int w, .int s, .int c] = drawS ns i w s c := rfl
theorem drL : locL (drawS ns i w s c :: T) (.loc 0) = some (0, [.lst (ns.map D.int), .int i, .int w, .int s, .int c]) := rfl
theorem st1 : setG [.lst (ns.map D.int), .int i, .int w, .int s, .int c] (.int 1) (.int x) = some [.lst (ns.map D.int), .int x, .int w, .int s, .int c] := rfl
theorem st2 : setG [.lst (ns.map D.int), .int i, .int w, .int s, .int c] (.int 2) (.int x) = some [.lst (ns.map D.int), .int i, .int x, .int s, .int c] := rfl
theorem st3 : setG [.lst (ns.map D.int), .int i, .int w, .int s, .int c] (.int 3) (.int x) = some [.lst (ns.map D.int), .int i, .int w, .int x, .int c] := rfl
theorem st4 : setG [.lst (ns.map D.int), .int i, .int w, .int s, .int c] (.int 4) (.int x) = some [.lst (ns.map D.int), .int i, .int w, .int s, .int x] := rfl
theorem fin_same {S S' : Store} {d : D} (h : fz S.length S' d = some d) (hl : S'.length = S.length) : finV S d S' = .ok d S' := by
  unfold finV
  rw [h]
  simp only
  split
  · rw [← hl, List.take_length]
  · rfl
theorem fin_int {S S' : Store} {j : Int} (hl : S'.length = S.length) : finV S (.int j) S' = .ok (.int j) S' := fin_same rfl hl
theorem draw_run {m : Int} (hi : 0 ≤ i) (hm : 0 < m) (hm2 : m < 2 ^ 64) : ∃ r i' w' s' c', 0 ≤ i' ∧ 0 ≤ r ∧ r < m ∧ defM 5 drawM [.loc 0, .int m] (drawS ns i w s c :: T) = .ok (.int r) (drawS ns i' w' s' c' :: T) := by
  have hlog : m.natAbs.log2 < 9000 := by
    have : m.natAbs < 2 ^ 64 := by omega
    have h2 : m.natAbs.log2 < 64 := (Nat.log2_lt (by omega)).mpr this
    omega
  have e9 : ∀ S (x : Int), modG S (.int x) (.int m) = some (.int (x % m)) := fun S x => gModI hm
  have e0 : ∀ S (x : Int), fdivG S (.int x) (.int m) = some (.int (x / m)) := fun S x => gFdivI hm hlog
  have tail : ∀ i w s c b, ∃ r s' c', 0 ≤ r ∧ r < m ∧ (seqM (setIM (vM 0) (cM (.int 4)) (op2M addG (op2M ixG (vM 0) (cM (.int 4))) (cM (.int 1))))
  (seqM (asgM 4 (op2M addG (op2M addG (op2M mulG (op2M ixG (vM 0) (cM (.int 3))) (cM (.int 16807))) (op2M mulG (op2M ixG (vM 0) (cM (.int 4))) (cM (.int 40692)))) (cM (.int 7))))
  (seqM (asgM 4 (op2M addG (op2M mulG (vM 4) (op2M addG (op2M modG (vM 4) (cM (.int 65521))) (cM (.int 3)))) (op2M mulG (op2M ixG (vM 0) (cM (.int 4))) (cM (.int 9176)))))
  (seqM (setIM (vM 0) (cM (.int 3)) (op2M modG (vM 4) (cM (.int 2147483629))))
  (retM (op2M modG (op2M addG (op2M fdivG (op2M ixG (vM 0) (cM (.int 3))) (cM (.int 32))) (op2M mulG (op2M modG (op2M ixG (vM 0) (cM (.int 3))) (cM (.int 8191))) (cM (.int 13)))) (vM 1))))))) [some (.loc 0), some (.int m), b, none, none] (drawS ns i w s c :: T) = .rt (.int r) (drawS ns i w s' c' :: T) := by
    intro i w s c b
    refine ⟨((((s * 16807 + (c + 1) * 40692 + 7) * ((s * 16807 + (c + 1) * 40692 + 7) % 65521 + 3) + (c + 1) * 9176) % 2147483629) / 32 + (((s * 16807 + (c + 1) * 40692 + 7) * ((s * 16807 + (c + 1) * 40692 + 7) % 65521 + 3) + (c + 1) * 9176) % 2147483629) % 8191 * 13) % m, ((s * 16807 + (c + 1) * 40692 + 7) * ((s * 16807 + (c + 1) * 40692 + 7) % 65521 + 3) + (c + 1) * 9176) % 2147483629, c + 1, Int.emod_nonneg _ (by omega), Int.emod_lt_of_pos _ hm, ?_⟩
    have e1 : ∀ S, mulG S (.int s) (.int 16807) = some (.int (s * 16807)) := fun S => gMulI (by omega) (by omega)
    have e2 : ∀ S, mulG S (.int (c + 1)) (.int 40692) = some (.int ((c + 1) * 40692)) := fun S => gMulI (by omega) (by omega)
    have e3 : ∀ S, mulG S (.int (c + 1)) (.int 9176) = some (.int ((c + 1) * 9176)) := fun S => gMulI (by omega) (by omega)
    generalize hm1 : s * 16807 + (c + 1) * 40692 + 7 = m1
    have e4 : ∀ S, mulG S (.int m1) (.int (m1 % 65521 + 3)) = some (.int (m1 * (m1 % 65521 + 3))) := fun S => gMulI (by omega) (by omega)
    have e5 : ∀ S (x : Int), mulG S (.int x) (.int 13) = some (.int (x * 13)) := fun S x => gMulI (by omega) (by omega)
    have e6 : ∀ S (x : Int), modG S (.int x) (.int 65521) = some (.int (x % 65521)) := fun S x => gModI (by omega)
    have e7 : ∀ S (x : Int), modG S (.int x) (.int 2147483629) = some (.int (x % 2147483629)) := fun S x => gModI (by omega)
    have e8 : ∀ S (x : Int), modG S (.int x) (.int 8191) = some (.int (x % 8191)) := fun S x => gModI (by omega)
    have e10 : ∀ S (x : Int), fdivG S (.int x) (.int 32) = some (.int (x / 32)) := fun S x => gFdivI (by omega) (by decide)
    simp only [seqM, setIM, asgM, retM, op2M, cM, vM, dr3, dr4, drL, gAddI, st3, st4, bindS_ok, bind_ok, RO_some, e1, e2, e3, e4, e5, e6, e7, e8, e9, e10, hm1, List.getElem?_cons_zero, List.getElem?_cons_succ, List.set_cons_zero, List.set_cons_succ, dfold]
  have rest : ∀ i w s c b, ∃ r w' s' c', 0 ≤ r ∧ r < m ∧ (seqM (ifSM (cmpB geG (op2M ixG (vM 0) (cM (.int 2))) (vM 1)) (seqM (asgM 3 (op2M modG (op2M ixG (vM 0) (cM (.int 2))) (vM 1)))
  (seqM (setIM (vM 0) (cM (.int 2)) (op2M fdivG (op2M ixG (vM 0) (cM (.int 2))) (vM 1)))
  (retM (vM 3)))) nxM)
  (seqM (setIM (vM 0) (cM (.int 4)) (op2M addG (op2M ixG (vM 0) (cM (.int 4))) (cM (.int 1))))
  (seqM (asgM 4 (op2M addG (op2M addG (op2M mulG (op2M ixG (vM 0) (cM (.int 3))) (cM (.int 16807))) (op2M mulG (op2M ixG (vM 0) (cM (.int 4))) (cM (.int 40692)))) (cM (.int 7))))
  (seqM (asgM 4 (op2M addG (op2M mulG (vM 4) (op2M addG (op2M modG (vM 4) (cM (.int 65521))) (cM (.int 3)))) (op2M mulG (op2M ixG (vM 0) (cM (.int 4))) (cM (.int 9176)))))
  (seqM (setIM (vM 0) (cM (.int 3)) (op2M modG (vM 4) (cM (.int 2147483629))))
  (retM (op2M modG (op2M addG (op2M fdivG (op2M ixG (vM 0) (cM (.int 3))) (cM (.int 32))) (op2M mulG (op2M modG (op2M ixG (vM 0) (cM (.int 3))) (cM (.int 8191))) (cM (.int 13)))) (vM 1)))))))) [some (.loc 0), some (.int m), b, none, none] (drawS ns i w s c :: T) = .rt (.int r) (drawS ns i w' s' c' :: T) := by
    intro i w s c b
    by_cases hw : m ≤ w
    · refine ⟨w % m, w / m, s, c, Int.emod_nonneg _ (by omega), Int.emod_lt_of_pos _ hm, ?_⟩
      simp only [seqM, ifSM, cmpB, setIM, asgM, retM, op2M, cM, vM, dr2, drL, st2, gGeI, asB, bindS_ok, bind_ok, RO_some, e9, e0, hw, decide_true, if_true, List.getElem?_cons_zero, List.getElem?_cons_succ, List.set_cons_zero, List.set_cons_succ, dfold]
    · obtain ⟨r, s', c', h1, h2, h3⟩ := tail i w s c b
      refine ⟨r, w, s', c', h1, h2, ?_⟩
      rw [seqM]
      have : (ifSM (cmpB geG (op2M ixG (vM 0) (cM (.int 2))) (vM 1)) (seqM (asgM 3 (op2M modG (op2M ixG (vM 0) (cM (.int 2))) (vM 1)))
  (seqM (setIM (vM 0) (cM (.int 2)) (op2M fdivG (op2M ixG (vM 0) (cM (.int 2))) (vM 1)))
  (retM (vM 3)))) nxM) [some (.loc 0), some (.int m), b, none, none] (drawS ns i w s c :: T) = .nx [some (.loc 0), some (.int m), b, none, none] (drawS ns i w s c :: T) := by
        simp only [ifSM, cmpB, op2M, cM, vM, dr2, gGeI, asB, bindS_ok, bind_ok, RO_some, hw, decide_false, Bool.false_eq_true, if_false, nxM, List.getElem?_cons_zero, List.getElem?_cons_succ]
      rw [this]
      exact h3
  have first : ∃ i1 w1 s1 b, 0 ≤ i1 ∧ (ifSM (andB (cmpB ltG (op2M ixG (vM 0) (cM (.int 2))) (vM 1)) (cmpB ltG (op2M ixG (vM 0) (cM (.int 1))) (callG lenG (consM (op2M ixG (vM 0) (cM (.int 0))) nilM)))) (seqM (asgM 2 (op2M ixG (op2M ixG (vM 0) (cM (.int 0))) (op2M ixG (vM 0) (cM (.int 1)))))
  (seqM (setIM (vM 0) (cM (.int 1)) (op2M addG (op2M ixG (vM 0) (cM (.int 1))) (cM (.int 1))))
  (seqM (setIM (vM 0) (cM (.int 2)) (ifM (cmpB geG (vM 2) (op2M powG (cM (.int 10)) (cM (.int 18)))) (vM 2) (cM (.int 0))))
  (setIM (vM 0) (cM (.int 3)) (op2M modG (op2M addG (op2M addG (op2M mulG (op2M ixG (vM 0) (cM (.int 3))) (cM (.int 69621))) (op2M modG (vM 2) (cM (.int 998244353)))) (cM (.int 1))) (cM (.int 2147483647))))))) nxM) [some (.loc 0), some (.int m), none, none, none] (drawS ns i w s c :: T) = .nx [some (.loc 0), some (.int m), b, none, none] (drawS ns i1 w1 s1 c :: T) := by
    have hlen : ∀ S : Store, lenG S [.lst (ns.map D.int)] = some (.int (ns.length : Nat)) := fun S => by
      show some (D.int ((ns.map D.int).length : Nat)) = _
      rw [List.length_map]
    by_cases h1 : w < m
    · by_cases h2 : i < ns.length
      · have hx : ∃ x, ns[i.toNat]? = some x := ⟨_, List.getElem?_eq_getElem (by omega)⟩
        obtain ⟨x, hx⟩ := hx
        have ex : ∀ S : Store, ixG S (.lst (ns.map D.int)) (.int i) = some (.int x) := fun S => by
          have hii : i = (i.toNat : Int) := by omega
          rw [hii]
          exact gIxL (by rw [List.getElem?_map, hx]; rfl)
        have e5 : ∀ S (y : Int), mulG S (.int y) (.int 69621) = some (.int (y * 69621)) := fun S y => gMulI (by omega) (by omega)
        have e6 : ∀ S (y : Int), modG S (.int y) (.int 998244353) = some (.int (y % 998244353)) := fun S y => gModI (by omega)
        have e7 : ∀ S (y : Int), modG S (.int y) (.int 2147483647) = some (.int (y % 2147483647)) := fun S y => gModI (by omega)
        have ep : ∀ S, powG S (.int 10) (.int 18) = some (.int (10 ^ 18)) := fun S => gPow (by decide)
        by_cases h3 : (10 ^ 18 : Int) ≤ x
        · refine ⟨i + 1, x, (s * 69621 + x % 998244353 + 1) % 2147483647, some (.int x), by omega, ?_⟩
          simp only [seqM, ifSM, ifM, andB, cmpB, setIM, asgM, callG, consM, nilM, op2M, cM, vM, dr0, dr1, dr2, dr3, drL, st1, st2, st3, gGeI, gLtI, gAddI, hlen, ex, e5, e6, e7, ep, asB, bindS_ok, bind_ok, RO_some, h1, h2, h3, decide_true, if_true, List.getElem?_cons_zero, List.getElem?_cons_succ, List.set_cons_zero, List.set_cons_succ, dfold]
        · refine ⟨i + 1, 0, (s * 69621 + x % 998244353 + 1) % 2147483647, some (.int x), by omega, ?_⟩
          simp only [seqM, ifSM, ifM, andB, cmpB, setIM, asgM, callG, consM, nilM, op2M, cM, vM, dr0, dr1, dr2, dr3, drL, st1, st2, st3, gGeI, gLtI, gAddI, hlen, ex, e5, e6, e7, ep, asB, bindS_ok, bind_ok, RO_some, h1, h2, h3, decide_true, decide_false, Bool.false_eq_true, if_false, if_true, List.getElem?_cons_zero, List.getElem?_cons_succ, List.set_cons_zero, List.set_cons_succ, dfold]
      · refine ⟨i, w, s, none, hi, ?_⟩
        simp only [ifSM, andB, cmpB, callG, consM, nilM, op2M, cM, vM, dr0, dr1, dr2, gLtI, hlen, asB, bindS_ok, bind_ok, RO_some, h1, h2, decide_true, decide_false, Bool.false_eq_true, if_false, if_true, nxM, List.getElem?_cons_zero, List.getElem?_cons_succ]
    · refine ⟨i, w, s, none, hi, ?_⟩
      simp only [ifSM, andB, cmpB, op2M, cM, vM, dr2, gLtI, asB, bindS_ok, bind_ok, RO_some, h1, decide_false, Bool.false_eq_true, if_false, nxM, List.getElem?_cons_zero, List.getElem?_cons_succ]
  obtain ⟨i1, w1, s1, b, hi1, ef⟩ := first
  obtain ⟨r, w', s', c', hr0, hr1, er⟩ := rest i1 w1 s1 c b
  refine ⟨r, i1, w', s', c', hi1, hr0, hr1, ?_⟩
  have hs : startD 5 [D.loc 0, .int m] = [some (.loc 0), some (.int m), none, none, none] := rfl
  unfold defM drawM
  rw [hs, seqM, ef]
  simp only
  rw [er]
  exact fin_int rfl
end
mutual
theorem okD_up : ∀ (d : D) (n : Nat), okD 0 d = true → okD n d = true
  | .loc m, n, h => by simp [okD] at h
  | .tup ds, n, h => by simp only [okD] at h ⊢; exact okL_up ds n h
  | .lst ds, n, h => by simp only [okD] at h ⊢; exact okL_up ds n h
  | .dct ks ds, n, h => by simp only [okD] at h ⊢; exact okL_up ds n h
  | .obj C ns ds, n, h => by simp only [okD] at h ⊢; exact okL_up ds n h
  | .exn a b ns ds, n, h => by simp only [okD] at h ⊢; exact okL_up ds n h
  | .non, n, h => rfl
  | .bl _, n, h => rfl
  | .int _, n, h => rfl
  | .str _, n, h => rfl
  | .raw _, n, h => rfl
theorem okL_up : ∀ (ds : List D) (n : Nat), okL 0 ds = true → okL n ds = true
  | [], n, h => rfl
  | d :: ds, n, h => by
    simp only [okL, Bool.and_eq_true] at h ⊢
    exact ⟨okD_up d n h.1, okL_up ds n h.2⟩
end
theorem fzN_ok {n f : Nat} {S : Store} {d : D} (h : okD n d = true) : fzN n S f d = some d := by
  cases f <;> simp only [fzN, if_pos h]
theorem fz_ok {n : Nat} {S : Store} {d : D} (h : okD n d = true) : fz n S d = some d := fzN_ok h
theorem fz_cl {n : Nat} {S : Store} {d : D} (h : okD 0 d = true) : fz n S d = some d := fz_ok (okD_up _ n h)
theorem allO_cl {n f : Nat} {S : Store} : ∀ {ds : List D}, okL n ds = true → allO (fzN n S f) ds = some ds
  | [], _ => rfl
  | d :: ds, h => by
    simp only [okL, Bool.and_eq_true] at h
    simp only [allO, fzN_ok h.1, allO_cl h.2]
theorem fin_cl {S S' : Store} {d : D} (h : okD 0 d = true) (hl : S'.length = S.length) : finV S d S' = .ok d S' := fin_same (fz_cl h) hl
theorem okL_iff {n : Nat} : ∀ {ds : List D}, okL n ds = true ↔ ∀ d ∈ ds, okD n d = true
  | [] => by simp [okL]
  | d :: ds => by simp [okL, okL_iff]
theorem fin_cut {S S' t : Store} {d e : D} (h : fz S.length (S' ++ t) d = some e) (hl : S'.length = S.length) (hs : Settles S S') : finV S d (S' ++ t) = .ok e S' := by
  unfold finV
  rw [h]
  simp only
  have hs2 : Settles S (S' ++ t) := fun i c hi e => hs i c hi (by rwa [List.getElem?_append_left (by omega)] at e)
  rw [if_pos hs2, ← hl, List.take_left]
theorem finX_cut {S S' t : Store} {x : Ex} (h : okL 0 x.ds = true) (hl : S'.length = S.length) (hs : Settles S S') : finX S x (S' ++ t) = .exc x S' := by
  unfold finX
  have hs2 : Settles S (S' ++ t) := fun i c hi e => hs i c hi (by rwa [List.getElem?_append_left (by omega)] at e)
  rw [if_pos ⟨okL_up _ _ h, hs2⟩, ← hl, List.take_left]
theorem Settles.set {S : Store} {n : Nat} {c : Cell} (h : okC 0 c = true) : Settles S (S.set n c) := fun i d hi e => by
  by_cases hn : n = i
  · subst hn
    rw [List.getElem?_set_self hi] at e
    cases e
    right
    cases c with
    | lst ds => exact okL_up ds _ h
    | dct ks ds => exact okL_up ds _ h
    | obj C ns ds => exact okL_up ds _ h
    | tab P q => rfl
    | emp P q es => rfl
    | fn κ j l => rfl
  · rw [List.getElem?_set_ne hn] at e
    exact .inl e
def Dw (T S : Store) : Prop := ∃ ns i w s c, 0 ≤ i ∧ S = drawS ns i w s c :: T
theorem Dw.len {T S : Store} (h : Dw T S) : S.length = T.length + 1 := by
  obtain ⟨ns, i, w, s, c, _, rfl⟩ := h
  rfl
theorem Dw.app {T S t : Store} (h : Dw T S) : Dw (T ++ t) (S ++ t) := by
  obtain ⟨ns, i, w, s, c, hi, rfl⟩ := h
  exact ⟨ns, i, w, s, c, hi, rfl⟩
theorem Dw.cut {T S t : Store} (h : Dw (T ++ t) S) : ∃ S', Dw T S' ∧ S = S' ++ t := by
  obtain ⟨ns, i, w, s, c, hi, rfl⟩ := h
  exact ⟨_, ⟨ns, i, w, s, c, hi, rfl⟩, rfl⟩
theorem draw_dw {T S : Store} {m : Int} (h : Dw T S) (hm : 0 < m) (hm2 : m < 2 ^ 64) : ∃ r S', Dw T S' ∧ 0 ≤ r ∧ r < m ∧ defM 5 drawM [.loc 0, .int m] S = .ok (.int r) S' := by
  obtain ⟨ns, i, w, s, c, hi, rfl⟩ := h
  obtain ⟨r, i', w', s', c', h1, h2, h3, h4⟩ := draw_run (ns := ns) (w := w) (s := s) (c := c) (T := T) hi hm hm2
  exact ⟨r, _, ⟨ns, i', w', s', c', h1, rfl⟩, h2, h3, h4⟩
noncomputable def ofM (φ : Fn) : MS := (retM (op2M ixG (vM 1) (appM 2 φ (consM (vM 0) (consM (callG lenG (consM (vM 1) nilM)) nilM)) [])))
theorem of_lst {T S : Store} {ds : List D} (h : Dw T S) (hn : ds ≠ []) (hl : ds.length < 2 ^ 64) (hc : okL 0 ds = true) : ∃ d S', Dw T S' ∧ d ∈ ds ∧ defM 2 (ofM (defM 5 drawM)) [.loc 0, .lst ds] S = .ok d S' := by
  have hpos : 0 < ds.length := List.length_pos_iff.mpr hn
  obtain ⟨r, S', h1, h2, h3, h4⟩ := draw_dw (m := (ds.length : Int)) h (by omega) (by omega)
  obtain ⟨k, rfl⟩ : ∃ k : Nat, r = k := ⟨r.toNat, by omega⟩
  have hr : k < ds.length := by omega
  refine ⟨ds[k], S', h1, List.getElem_mem hr, ?_⟩
  have e : ixG S' (.lst ds) (.int k) = some ds[k] := gIxL (List.getElem?_eq_getElem hr)
  have hs : startD 2 [D.loc 0, .lst ds] = [some (.loc 0), some (.lst ds)] := rfl
  have hlen : lenG S [.lst ds] = some (.int ds.length) := rfl
  show finD S (ofM (defM 5 drawM) (startD 2 _) S) = _
  unfold ofM
  rw [hs]
  simp only [finD, retM, op2M, appM, consM, nilM, callG, vM, hlen, h4, e, bindS_ok, bind_ok, RO_some, List.getElem?_cons_zero, List.getElem?_cons_succ, List.append_nil, List.length_cons, List.length_nil, if_true, Nat.zero_add, Nat.reduceAdd]
  exact fin_cl (okL_iff.mp hc _ (List.getElem_mem hr)) (h1.len.trans h.len.symm)
theorem of_str {T S : Store} {l : List Nat} (h : Dw T S) (hn : l ≠ []) (hl : l.length ≤ 1000000) : ∃ c S', Dw T S' ∧ c ∈ l ∧ defM 2 (ofM (defM 5 drawM)) [.loc 0, .str l] S = .ok (.str [c]) S' := by
  have hpos : 0 < l.length := List.length_pos_iff.mpr hn
  obtain ⟨r, S', h1, h2, h3, h4⟩ := draw_dw (m := (l.length : Int)) h (by omega) (by omega)
  obtain ⟨k, rfl⟩ : ∃ k : Nat, r = k := ⟨r.toNat, by omega⟩
  have hr : k < l.length := by omega
  refine ⟨l[k], S', h1, List.getElem_mem hr, ?_⟩
  have e : ixG S' (.str l) (.int k) = some (.str [l[k]]) := gIxS hl (List.getElem?_eq_getElem hr)
  have hs : startD 2 [D.loc 0, .str l] = [some (.loc 0), some (.str l)] := rfl
  have hlen : lenG S [.str l] = some (.int l.length) := gLenS hl
  show finD S (ofM (defM 5 drawM) (startD 2 _) S) = _
  unfold ofM
  rw [hs]
  simp only [finD, retM, op2M, appM, consM, nilM, callG, vM, hlen, h4, e, bindS_ok, bind_ok, RO_some, List.getElem?_cons_zero, List.getElem?_cons_succ, List.append_nil, List.length_cons, List.length_nil, if_true, Nat.zero_add, Nat.reduceAdd]
  exact fin_cl (by rfl) (h1.len.trans h.len.symm)
theorem rng_at {n k : Nat} {d : D} (h : ((List.range n).map fun (i : Nat) => D.int (0 + (i : Int) * 1))[k]? = some d) : k < n ∧ d = .int k := by
  have hk : k < n := by
    have := (List.getElem?_eq_some_iff.mp h).1
    simpa using this
  rw [List.getElem?_map, List.getElem?_range hk] at h
  refine ⟨hk, ?_⟩
  have := Option.some.inj h
  rw [← this]
  simp
section
variable {m1 m2 b : MS} {δ δ1 δ2 : DEnv} {S S1 S2 : Store} {d x : D} {e : Ex} {src : Src} {tg : Tg} {ds r : List D} {mi : DEnv → Store → Res Src} {me : ME} {nc : MB} {i : Nat}
end
def pl : Nat → D → Prop
  | 0, _ => False
  | n + 1, .tup ds => ds.length ≤ 100000 ∧ ∀ d ∈ ds, pl n d
  | n + 1, .lst ds => ds.length ≤ 100000 ∧ ∀ d ∈ ds, pl n d
  | _ + 1, .non => True
  | _ + 1, .bl _ => True
  | _ + 1, .int _ => True
  | _ + 1, .str _ => True
  | _ + 1, _ => False
theorem gEqB {S : Store} {a b : Bool} : eqG S (.bl a) (.bl b) = some (.bl (decide (a = b))) := by cases a <;> cases b <;> rfl
theorem gNeB {S : Store} {a b : Bool} : neG S (.bl a) (.bl b) = some (.bl (!decide (a = b))) := by cases a <;> cases b <;> rfl
section
variable {mo mv me : ME} {ms mk : MA} {δ : DEnv} {S S1 S2 S3 : Store} {r n j q : Nat} {C : Addr} {ns ns2 : List Str} {ds ds2 xs zs : List D} {d y z : D} {f m : Str} {φ : Fn} {g : Store → D → D → Option D} {x : Ex} {gD : List D → List D → List D}
theorem finX_same {S : Store} {x : Ex} (h : okL 0 x.ds = true) : finX S x S = .exc x S := by
  have := finX_cut (t := []) h rfl (Settles.same (S := S))
  rwa [List.append_nil] at this
end
end SL
namespace SL
open PySem PySem.Spec L2
section
variable {δ : DEnv} {S S1 S2 S3 : Store} {x y z w d : D} {xs zs : List D} {ma mb mc me mo : ME} {ms mk : MA} {na nb : MB} {i n : Nat} {φ : Fn} {b : Bool} {e : Ex}
end
def wp {α : Type} (r : Res α) (Q : α → Store → Prop) (X : Ex → Store → Prop) : Prop := match r with
  | .ok a S => Q a S
  | .exc x S => X x S
  | .stuck => False
def wf (r : Flw) (N : DEnv → Store → Prop) (R : D → Store → Prop) (X : Ex → DEnv → Store → Prop) (B C : DEnv → Store → Prop) : Prop := match r with
  | .nx δ S => N δ S
  | .rt d S => R d S
  | .exc x δ S => X x δ S
  | .bk δ S => B δ S
  | .ct δ S => C δ S
  | .stuck => False
def GW {α : Type} (o : Option α) (P : α → Prop) : Prop := ∃ z, o = some z ∧ P z
abbrev noX : Ex → Store → Prop := fun _ _ => False
abbrev noXs : Ex → DEnv → Store → Prop := fun _ _ _ => False
abbrev noB : DEnv → Store → Prop := fun _ _ => False
section
variable {α β : Type} {r : Res α} {Q Q' : α → Store → Prop} {X X' : Ex → Store → Prop} {S S1 S2 : Store} {a : α}
theorem wp_ok (h : r = .ok a S) (k : Q a S) : wp r Q X := by rw [h]; exact k
theorem wp_exc {x : Ex} (h : r = .exc x S) (k : X x S) : wp r Q X := by rw [h]; exact k
theorem wp_mono (h : wp r Q X) (k : ∀ a S, Q a S → Q' a S) (kx : ∀ x S, X x S → X' x S) : wp r Q' X' := by
  cases r with
  | ok a S => exact k a S h
  | exc x S => exact kx x S h
  | stuck => exact h
theorem wp_q (h : wp r Q X) (k : ∀ a S, Q a S → Q' a S) : wp r Q' X := wp_mono h k fun _ _ h => h
theorem wp_get (h : wp r Q noX) : ∃ a S, r = .ok a S ∧ Q a S := by
  cases r with
  | ok a S => exact ⟨a, S, rfl, h⟩
  | exc x S => exact h.elim
  | stuck => exact h.elim
theorem wp_bind {f : α → Store → Res β} {Q : β → Store → Prop} (h : wp r (fun a S => wp (f a S) Q X) X) : wp (r.bind f) Q X := by
  cases r with
  | ok a S => exact h
  | exc x S => exact h
  | stuck => exact h
theorem wp_RO {o : Option α} (h : GW o fun z => Q z S) : wp (RO o S) Q X := by
  obtain ⟨z, rfl, h⟩ := h
  exact h
end
section
variable {r : Flw} {N N' B B' C C' : DEnv → Store → Prop} {R R' : D → Store → Prop} {X X' : Ex → DEnv → Store → Prop}
theorem wf_rt (h : wf r noB R noXs noB noB) : ∃ d S, r = .rt d S ∧ R d S := by
  cases r with
  | rt d S => exact ⟨d, S, rfl, h⟩
  | _ => exact h.elim
end
section
variable {δ : DEnv} {S : Store} {x y z d : D} {ma mb mc mo mv : ME} {ms mk : MA} {na nb : MB} {i n : Nat} {φ : Fn} {b : Bool} {Q : D → Store → Prop} {QL : List D → Store → Prop} {QB : Bool → Store → Prop} {QO : Option Int → Store → Prop} {X : Ex → Store → Prop} {g g' : Store → D → D → Option D}
theorem wp_v (h : δ[i]? = some (some d)) (k : Q d S) : wp (vM i δ S) Q X := by unfold vM; rw [h]; exact k
theorem wp_c (k : Q d S) : wp (cM d δ S) Q X := k
theorem wp_nil (k : QL [] S) : wp (nilM δ S) QL X := k
theorem wp_cons (k : wp (ma δ S) (fun x S1 => wp (ms δ S1) (fun xs S2 => QL (x :: xs) S2) X) X) : wp (consM ma ms δ S) QL X := wp_bind (wp_q k fun _ _ h => wp_bind h)
theorem wp_op2 (k : wp (ma δ S) (fun x S1 => wp (mb δ S1) (fun y S2 => GW (g S2 x y) fun z => Q z S2) X) X) : wp (op2M g ma mb δ S) Q X := wp_bind (wp_q k fun _ _ h => wp_bind (wp_q h fun _ _ h => wp_RO h))
theorem wp_op1 {g : Store → D → Option D} (k : wp (ma δ S) (fun x S1 => GW (g S1 x) fun z => Q z S1) X) : wp (op1M g ma δ S) Q X := wp_bind (wp_q k fun _ _ h => wp_RO h)
theorem wp_callG {g : Store → List D → Option D} (k : wp (ms δ S) (fun xs S1 => GW (g S1 xs) fun z => Q z S1) X) : wp (callG g ms δ S) Q X := wp_bind (wp_q k fun _ _ h => wp_RO h)
theorem wp_callKG {g : Store → List D → List D → Option D} (k : wp (ms δ S) (fun xs S1 => wp (mk δ S1) (fun zs S2 => GW (g S2 xs zs) fun z => Q z S2) X) X) : wp (callKG g ms mk δ S) Q X := wp_bind (wp_q k fun _ _ h => wp_bind (wp_q h fun _ _ h => wp_RO h))
theorem wp_appA (k : wp (ms δ S) (fun xs S1 => xs.length = n ∧ wp (φ xs S1) Q X) X) : wp (appM n φ ms [] δ S) Q X := wp_bind (wp_q k fun xs S1 h => by rw [List.append_nil, if_pos h.1]; exact h.2)
theorem wp_appN {j q : Nat} {gD : List D → List D → List D} (k : wp (ms δ S) (fun xs S1 => wp (mk δ S1) (fun zs S2 => (xs.length = n ∧ zs.length = j) ∧ (gD xs zs).length = q ∧ wp (φ (gD xs zs) S2) Q X) X) X) : wp (appN n j q φ gD ms mk δ S) Q X :=
  wp_bind (wp_q k fun xs S1 h => wp_bind (wp_q h fun zs S2 h => by rw [if_pos h.1, if_pos h.2.1]; exact h.2.2))
theorem wp_cmpB (k : wp (ma δ S) (fun x S1 => wp (mb δ S1) (fun y S2 => GW (asB (g S2 x y)) fun z => QB z S2) X) X) : wp (cmpB g ma mb δ S) QB X := wp_bind (wp_q k fun _ _ h => wp_bind (wp_q h fun _ _ h => wp_RO h))
theorem wp_trM (k : wp (ma δ S) (fun x S1 => GW (truthB S1 x) fun z => QB z S1) X) : wp (trM ma δ S) QB X := wp_bind (wp_q k fun _ _ h => wp_RO h)
theorem wp_bM (k : wp (ma δ S) (fun x S1 => GW (asB (some x)) fun z => QB z S1) X) : wp (bM ma δ S) QB X := wp_bind (wp_q k fun _ _ h => wp_RO h)
theorem wp_notB (k : wp (na δ S) (fun c S1 => QB (!c) S1) X) : wp (notB na δ S) QB X := wp_bind (wp_q k fun _ _ h => h)
theorem wp_andB (k : wp (na δ S) (fun c S1 => (c = true → wp (nb δ S1) QB X) ∧ (c = false → QB false S1)) X) : wp (andB na nb δ S) QB X := wp_bind (wp_q k fun c _ h => by cases c with | true => exact h.1 rfl | false => exact h.2 rfl)
theorem wp_orB (k : wp (na δ S) (fun c S1 => (c = true → QB true S1) ∧ (c = false → wp (nb δ S1) QB X)) X) : wp (orB na nb δ S) QB X := wp_bind (wp_q k fun c _ h => by cases c with | true => exact h.1 rfl | false => exact h.2 rfl)
theorem wp_yes (k : QB true S) : wp (yesB δ S) QB X := k
theorem wp_andM (k : wp (ma δ S) (fun x S1 => GW (truthB S1 x) fun c => (c = true → wp (mb δ S1) Q X) ∧ (c = false → Q x S1)) X) : wp (andM ma mb δ S) Q X := wp_bind (wp_q k fun x S1 h => by
  obtain ⟨c, e, h⟩ := h
  simp only [e]
  cases c with
  | true => exact h.1 rfl
  | false => exact h.2 rfl)
theorem wp_orM (k : wp (ma δ S) (fun x S1 => GW (truthB S1 x) fun c => (c = true → Q x S1) ∧ (c = false → wp (mb δ S1) Q X)) X) : wp (orM ma mb δ S) Q X := wp_bind (wp_q k fun x S1 h => by
  obtain ⟨c, e, h⟩ := h
  simp only [e]
  cases c with
  | true => exact h.1 rfl
  | false => exact h.2 rfl)
theorem wp_notM (k : wp (ma δ S) (fun x S1 => GW (truthB S1 x) fun c => Q (.bl (!c)) S1) X) : wp (notM ma δ S) Q X := wp_bind (wp_q k fun x S1 h => by
  obtain ⟨c, e, h⟩ := h
  simp only [e]
  exact h)
theorem wp_ifM (k : wp (na δ S) (fun c S1 => (c = true → wp (ma δ S1) Q X) ∧ (c = false → wp (mb δ S1) Q X)) X) : wp (ifM na ma mb δ S) Q X := wp_bind (wp_q k fun c _ h => by cases c with | true => exact h.1 rfl | false => exact h.2 rfl)
theorem wp_ch (k : wp (ma δ S) (fun x S1 => wp (mb δ S1) (fun y S2 => GW (asB (g S2 x y)) fun c => (c = true → wp (mc δ S2) (fun z S3 => GW (g' S3 y z) fun w => Q w S3) X) ∧ (c = false → Q (.bl false) S2)) X) X) : wp (chM g g' ma mb mc δ S) Q X :=
  wp_bind (wp_q k fun x S1 h => wp_bind (wp_q h fun y S2 h => by
    obtain ⟨c, e, h⟩ := h
    simp only [e]
    cases c with
    | true => exact wp_bind (wp_q (h.1 rfl) fun _ _ h => wp_RO h)
    | false => exact h.2 rfl))
theorem wp_mtS {g : Store → D → List D → Option D} (k : wp (mo δ S) (fun x S1 => isS x = true ∧ wp (ms δ S1) (fun xs S2 => GW (g S2 x xs) fun z => Q z S2) X) X) : wp (mtS g mo ms δ S) Q X := wp_bind (wp_q k fun _ _ h => by
  rw [if_pos h.1]
  exact wp_bind (wp_q h.2 fun _ _ h => wp_RO h))
theorem wp_noO (k : QO none S) : wp (noO δ S) QO X := k
theorem wp_soO (k : wp (ma δ S) (fun x S1 => GW (asI x) fun j => QO (some j) S1) X) : wp (soO ma δ S) QO X := wp_bind (wp_q k fun x S1 h => by
  obtain ⟨j, e, h⟩ := h
  simp only [e]
  exact h)
theorem wp_sl {ml mh : MO} (k : wp (ma δ S) (fun x S1 => wp (ml δ S1) (fun lo S2 => wp (mh δ S2) (fun hi S3 => GW (slG S3 x lo hi) fun z => Q z S3) X) X) X) : wp (slM ma ml mh δ S) Q X :=
  wp_bind (wp_q k fun _ _ h => wp_bind (wp_q h fun _ _ h => wp_bind (wp_q h fun _ _ h => wp_RO h)))
theorem wp_lstLM (k : wp (ms δ S) (fun xs S1 => xs.length ≤ 100000 ∧ Q (.loc S1.length) (S1 ++ [.lst xs])) X) : wp (lstLM ms δ S) Q X := wp_bind (wp_q k fun xs S1 h => by rw [if_pos h.1]; exact h.2)
theorem wp_lm {g : List D → List D → Option (D × List D)} (k : wp (mo δ S) (fun x S1 => (locL S1 x).isSome = true ∧ wp (ms δ S1) (fun xs S2 => ∃ n ds d es, locL S2 x = some (n, ds) ∧ g ds xs = some (d, es) ∧ Q d (S2.set n (.lst es))) X) X) : wp (lmM g mo ms δ S) Q X := wp_bind (wp_q k fun x S1 h => by
  obtain ⟨q, e⟩ := Option.isSome_iff_exists.mp h.1
  simp only [e]
  refine wp_bind (wp_q h.2 fun xs S2 h => ?_)
  obtain ⟨n, ds, d, es, e1, e2, h⟩ := h
  simp only [e1, e2]
  exact h)
theorem locL_end {S : Store} {ds : List D} : locL (S ++ [.lst ds]) (.loc S.length) = some (S.length, ds) := by
  simp [locL]
theorem wp_lmEnd {g : List D → List D → Option (D × List D)} {ds : List D} {j : Nat} (hv : δ[j]? = some (some (.loc S.length))) (k : wp (ms δ (S ++ [.lst ds])) (fun xs S2 => ∃ S3 d es, S2 = S3 ++ [.lst ds] ∧ S3.length = S.length ∧ g ds xs = some (d, es) ∧ Q d (S3 ++ [.lst es])) X) : wp (lmM g (vM j) ms δ (S ++ [.lst ds])) Q X := by
  refine wp_lm (wp_v hv ⟨by rw [locL_end]; rfl, wp_q k fun xs S2 h => ?_⟩)
  obtain ⟨S3, d, es, rfl, hl, e, h⟩ := h
  refine ⟨S.length, ds, d, es, by rw [← hl]; exact locL_end, e, ?_⟩
  rw [List.set_append_right _ _ (by omega), hl]
  simpa using h
theorem wp_fld {C : Addr} {f : Str} {ns : List Str} {ds : List D} (k : wp (mo δ S) (fun x S1 => ∃ ns ds d, asO S1 x = some (C, ns, ds) ∧ lookS ns ds f = some d ∧ Q d S1) X) : wp (fldM C f mo δ S) Q X := wp_bind (wp_q k fun x S1 h => by
  obtain ⟨ns, ds, d, e1, e2, h⟩ := h
  simp only [e1, e2, if_true]
  exact h)
theorem wp_meth {C : Addr} {m : Str} {dD : List D} (k : wp (mo δ S) (fun x S1 => ∃ ns ds, asO S1 x = some (C, ns, ds) ∧ lookS ns ds m = none ∧ wp (ms δ S1) (fun xs S2 => (x :: (xs ++ dD)).length = n ∧ wp (φ (x :: (xs ++ dD)) S2) Q X) X) X) : wp (methM C m n φ mo ms dD δ S) Q X := by
  unfold methM selfM
  refine wp_bind (wp_q k fun x S1 h => ?_)
  obtain ⟨ns, ds, e1, e2, h⟩ := h
  simp only [e1, e2, and_self, if_true]
  exact wp_bind (wp_q h fun xs S2 h => by rw [if_pos h.1]; exact h.2)
theorem wp_fmt (k : wp (ma δ S) (fun x S1 => GW (fmtG x) fun z => Q z S1) X) : wp (fmtM ma δ S) Q X := wp_bind (wp_q k fun _ _ h => wp_RO h)
theorem wp_freeze (k : wp (ma δ S) (fun d S2 => wp (finV S d S2) Q X) X) : wp (freezeM ma δ S) Q X := wp_bind (wp_q k fun _ _ h => h)
end
section
variable {δ : DEnv} {S : Store} {d : D} {me ma mo mi mv : ME} {m1 m2 : MS} {nc : MB} {i : Nat} {N B C : DEnv → Store → Prop} {R : D → Store → Prop} {X : Ex → DEnv → Store → Prop}
theorem wf_bind {α : Type} {r : Res α} {k : α → Store → Flw} (h : wp r (fun a S => wf (k a S) N R X B C) (fun x S => X x δ S)) : wf (bindS r δ k) N R X B C := by
  cases r with
  | ok a S => exact h
  | exc x S => exact h
  | stuck => exact h
theorem wf_seq (h : wf (m1 δ S) (fun δ S => wf (m2 δ S) N R X B C) R X B C) : wf (seqM m1 m2 δ S) N R X B C := by
  unfold seqM
  cases e : m1 δ S with
  | nx δ S => rw [e] at h; exact h
  | rt d S => rw [e] at h; exact h
  | exc e' δ S => rw [e] at h; exact h
  | bk δ S => rw [e] at h; exact h
  | ct δ S => rw [e] at h; exact h
  | stuck => rw [e] at h; exact h
theorem wf_asg (h : wp (me δ S) (fun d S1 => N (δ.set i (some d)) S1) (fun x S1 => X x δ S1)) : wf (asgM i me δ S) N R X B C := wf_bind (wp_q h fun _ _ h => h)
theorem wf_ret (h : wp (me δ S) R (fun x S1 => X x δ S1)) : wf (retM me δ S) N R X B C := wf_bind (wp_q h fun _ _ h => h)
theorem wf_retN (h : R .non S) : wf (retN δ S) N R X B C := h
theorem wf_expr (h : wp (me δ S) (fun _ S1 => N δ S1) (fun x S1 => X x δ S1)) : wf (exprM me δ S) N R X B C := wf_bind (wp_q h fun _ _ h => h)
theorem wf_if (h : wp (nc δ S) (fun c S1 => (c = true → wf (m1 δ S1) N R X B C) ∧ (c = false → wf (m2 δ S1) N R X B C)) (fun x S1 => X x δ S1)) : wf (ifSM nc m1 m2 δ S) N R X B C := wf_bind (wp_q h fun c _ h => by cases c with | true => exact h.1 rfl | false => exact h.2 rfl)
theorem wf_nxM (h : N δ S) : wf (nxM δ S) N R X B C := h
theorem wf_bkM (h : B δ S) : wf (bkM δ S) N R X B C := h
theorem wf_ctM (h : C δ S) : wf (ctM δ S) N R X B C := h
theorem wf_asgT {tg : Tg} (h : wp (me δ S) (fun d S1 => GW (bindT tg d δ) fun δ1 => N δ1 S1) (fun x S1 => X x δ S1)) : wf (asgT tg me δ S) N R X B C := wf_bind (wp_q h fun _ _ h => by
  obtain ⟨δ1, e, h⟩ := h
  simp only [e]
  exact h)
theorem wf_raise {mx : DEnv → Store → Res Ex} (h : wp (mx δ S) (fun x S1 => X x δ S1) (fun x S1 => X x δ S1)) : wf (raiseM mx δ S) N R X B C := by
  unfold raiseM
  cases e : mx δ S with
  | ok x S1 => rw [e] at h; exact h
  | exc x S1 => rw [e] at h; exact h
  | stuck => rw [e] at h; exact h
theorem wp_mkx {Cl : Addr} {n : Nat} {fs : List Str} {gd : List D → List D} {ms : MA} {Q : Ex → Store → Prop} {Y : Ex → Store → Prop} (h : wp (ms δ S) (fun xs S1 => (xs.length = n ∧ (gd xs).length = fs.length) ∧ Q ⟨Cl, fs, gd xs⟩ S1) Y) : wp (mkxM Cl n fs gd ms δ S) Q Y := wp_bind (wp_q h fun xs S1 h => by rw [if_pos h.1]; exact h.2)
theorem wf_for {mi : DEnv → Store → Res Src} {tg : Tg} {b : MS} (J : Nat → DEnv → Store → Prop) (h : wp (mi δ S) (fun src S1 => ∃ ds, (∀ k δ S, J k δ S → items S src = some ds) ∧ J 0 δ S1 ∧
      (∀ (k : Nat) (d : D), ds[k]? = some d → ∀ δ S, J k δ S → GW (bindT tg d δ) fun δ1 => wf (b δ1 S) (J (k + 1)) R X N (J (k + 1))) ∧ ∀ δ S, J ds.length δ S → N δ S) (fun x S1 => X x δ S1)) : wf (SL.forM mi tg b δ S) N R X B C := by
  refine wf_bind (wp_q h fun src S1 h => ?_)
  obtain ⟨ds, hit, h0, hb, hN⟩ := h
  simp only [hit 0 _ _ h0]
  have key : ∀ (r : List D) (k : Nat) (δ : DEnv) (S : Store), ds.drop k = r → k ≤ ds.length → J k δ S → wf (forL src tg b ds r δ S) N R X B C := by
    intro r
    induction r with
    | nil =>
      intro k δ S hr hkl hJ
      unfold forL
      rw [if_pos (hit k δ S hJ)]
      have hk : ds.length = k := by
        have := congrArg List.length hr
        rw [List.length_drop] at this
        simp only [List.length_nil] at this
        omega
      subst hk
      exact hN δ S hJ
    | cons d r ih =>
      intro k δ S hr hkl hJ
      have hk : ds[k]? = some d := by
        have := congrArg (fun l => l[0]?) hr
        simpa using this
      have hr' : ds.drop (k + 1) = r := by
        have := congrArg List.tail hr
        simpa using this
      obtain ⟨δ1, e1, hw⟩ := hb k d hk δ S hJ
      have hk1 : k + 1 ≤ ds.length := (List.getElem?_eq_some_iff.mp hk).1
      unfold forL
      rw [if_pos (hit k δ S hJ), e1]
      simp only
      cases e : b δ1 S with
      | nx δ2 S2 => rw [e] at hw; exact ih (k + 1) δ2 S2 hr' hk1 hw
      | ct δ2 S2 => rw [e] at hw; exact ih (k + 1) δ2 S2 hr' hk1 hw
      | bk δ2 S2 => rw [e] at hw; exact hw
      | rt d2 S2 => rw [e] at hw; exact hw
      | exc x δ2 S2 => rw [e] at hw; exact hw
      | stuck => rw [e] at hw; exact hw
  exact key ds 0 δ S1 rfl (Nat.zero_le _) h0
theorem wf_while {b : MS} (J : Nat → DEnv → Store → Prop) {n : Nat} (h0 : J n δ S) (hs : ∀ n δ S, J n δ S → wp (nc δ S) (fun c S1 => (c = true → ∃ m, n = m + 1 ∧ wf (b δ S1) (J m) R X N (J m)) ∧ (c = false → N δ S1)) (fun x S1 => X x δ S1)) : wf (whileM nc b δ S) N R X B C := by
  have key : ∀ (n : Nat) (δ : DEnv) (S : Store), J n δ S → ∃ r, whileN nc b (n + 1) δ S = r ∧ r ≠ .stuck ∧ wf r N R X B C := by
    intro n
    induction n with
    | zero =>
      intro δ S hJ
      have h := hs 0 δ S hJ
      refine ⟨_, rfl, ?_⟩
      unfold whileN
      cases e : nc δ S with
      | ok c S1 =>
        rw [e] at h
        cases c with
        | true => obtain ⟨m, hm, _⟩ := h.1 rfl; cases hm
        | false => exact ⟨by simp, h.2 rfl⟩
      | exc x S1 => rw [e] at h; exact ⟨by simp, h⟩
      | stuck => rw [e] at h; exact h.elim
    | succ n ih =>
      intro δ S hJ
      have h := hs (n + 1) δ S hJ
      refine ⟨_, rfl, ?_⟩
      unfold whileN
      cases e : nc δ S with
      | ok c S1 =>
        rw [e] at h
        cases c with
        | true =>
          obtain ⟨m, hm, hw⟩ := h.1 rfl
          have hm' : m = n := by omega
          subst hm'
          simp only [bindS_ok, if_true]
          cases eb : b δ S1 with
          | nx δ2 S2 => rw [eb] at hw; obtain ⟨r, er, h1, h2⟩ := ih δ2 S2 hw; simp only; rw [er]; exact ⟨h1, h2⟩
          | ct δ2 S2 => rw [eb] at hw; obtain ⟨r, er, h1, h2⟩ := ih δ2 S2 hw; simp only; rw [er]; exact ⟨h1, h2⟩
          | bk δ2 S2 => rw [eb] at hw; exact ⟨by simp, hw⟩
          | rt d2 S2 => rw [eb] at hw; exact ⟨by simp, hw⟩
          | exc x δ2 S2 => rw [eb] at hw; exact ⟨by simp, hw⟩
          | stuck => rw [eb] at hw; exact hw.elim
        | false => exact ⟨by simp, h.2 rfl⟩
      | exc x S1 => rw [e] at h; exact ⟨by simp, h⟩
      | stuck => rw [e] at h; exact h.elim
  obtain ⟨r, er, h1, h2⟩ := key n δ S h0
  rw [whileM_is (n + 1) er h1]
  exact h2
end
section
variable {δ : DEnv} {S : Store} {Q : D → Store → Prop} {X : Ex → Store → Prop} {mi : DEnv → Store → Res Src} {tg : Tg} {tst : MB} {el : ME} {vs : List Nat}
theorem comp_run {src : Src} {δ' : DEnv} {ds : List D} (J : Nat → List D → Store → Prop) {n : Nat} (hlen : ∀ k acc S0, J k acc S0 → S0.length = n ∧ acc.length ≤ k) (hn : ds.length ≤ 1000000)
    (hit : ∀ k acc S0 t, J k acc S0 → items (S0 ++ t) src = some ds)
    (hs : ∀ (k : Nat) (d : D), ds[k]? = some d → ∀ acc S0, J k acc S0 → GW (bindT tg d δ') fun δ1 => wp (tst δ1 (S0 ++ [.lst acc])) (fun c S2 => (c = true → wp (el δ1 S2) (fun x S3 => ∃ S4, S3 = S4 ++ [.lst acc] ∧ J (k + 1) (acc ++ [x]) S4) noX) ∧ (c = false → ∃ S4, S2 = S4 ++ [.lst acc] ∧ J (k + 1) acc S4)) noX) :
    ∀ (r : List D) (k : Nat) (acc : List D) (S0 : Store), ds.drop k = r → k ≤ ds.length → J k acc S0 → ∃ acc' S', J ds.length acc' S' ∧ compL src tg tst el n ds δ' r (S0 ++ [.lst acc]) = some (S' ++ [.lst acc']) := by
  intro r
  induction r with
  | nil =>
    intro k acc S0 hr hkl hJ
    have hk : ds.length = k := by
      have := congrArg List.length hr
      rw [List.length_drop] at this
      simp only [List.length_nil] at this
      omega
    subst hk
    refine ⟨acc, S0, hJ, ?_⟩
    unfold compL
    rw [if_pos (hit _ _ _ _ hJ)]
  | cons d r ih =>
    intro k acc S0 hr hkl hJ
    have hk : ds[k]? = some d := by
      have := congrArg (fun l => l[0]?) hr
      simpa using this
    have hr' : ds.drop (k + 1) = r := by
      have := congrArg List.tail hr
      simpa using this
    have hk1 : k + 1 ≤ ds.length := (List.getElem?_eq_some_iff.mp hk).1
    obtain ⟨δ1, e1, hw⟩ := hs k d hk acc S0 hJ
    obtain ⟨c, S2, e2, h1, h2⟩ := wp_get hw
    unfold compL
    rw [if_pos (hit _ _ _ _ hJ), e1]
    simp only [e2]
    cases c with
    | true =>
      obtain ⟨x, S3, e3, S4, rfl, hJ4⟩ := wp_get (h1 rfl)
      simp only [e3]
      have ha := hlen _ _ _ hJ4
      have ha0 := hlen _ _ _ hJ
      have e4 : appC n (S4 ++ [Cell.lst acc]) x = some (S4 ++ [.lst (acc ++ [x])]) := by
        unfold appC
        have e5 : (S4 ++ [Cell.lst acc])[n]? = some (.lst acc) := by rw [← ha.1]; simp
        rw [e5]
        simp only
        rw [if_pos (by omega)]
        congr 1
        rw [List.set_append_right _ _ (by omega), ha.1]
        simp
      simp only [e4]
      exact ih (k + 1) _ _ hr' hk1 hJ4
    | false =>
      obtain ⟨S4, rfl, hJ4⟩ := h2 rfl
      exact ih (k + 1) _ _ hr' hk1 hJ4
theorem wp_comp (J : Nat → List D → Store → Prop) (h : wp (mi δ S) (fun src S1 => ∃ ds, ds.length ≤ 1000000 ∧ (∀ k acc S0 t, J k acc S0 → items (S0 ++ t) src = some ds) ∧ (∀ k acc S0, J k acc S0 → S0.length = S1.length ∧ Settles S1 S0 ∧ okL 0 acc = true ∧ acc.length ≤ k) ∧ J 0 [] S1 ∧
      (∀ (k : Nat) (d : D), ds[k]? = some d → ∀ acc S0, J k acc S0 → GW (bindT tg d (wipeD δ vs)) fun δ1 => wp (tst δ1 (S0 ++ [.lst acc])) (fun c S2 => (c = true → wp (el δ1 S2) (fun x S3 => ∃ S4, S3 = S4 ++ [.lst acc] ∧ J (k + 1) (acc ++ [x]) S4) noX) ∧ (c = false → ∃ S4, S2 = S4 ++ [.lst acc] ∧ J (k + 1) acc S4)) noX) ∧
      ∀ acc S', J ds.length acc S' → Q (.lst acc) S') X) : wp (compM mi tg tst el vs δ S) Q X := by
  unfold compM
  refine wp_bind (wp_q h fun src S1 h => ?_)
  obtain ⟨ds, hn, hit, hlen, h0, hs, hQ⟩ := h
  have e0 : items S1 src = some ds := by simpa using hit 0 [] S1 [] h0
  obtain ⟨acc', S', hJ, e⟩ := comp_run (n := S1.length) J (fun k acc S0 hJ => ⟨(hlen _ _ _ hJ).1, (hlen _ _ _ hJ).2.2.2⟩) hn hit hs ds 0 [] S1 rfl (Nat.zero_le _) h0
  simp only [e0, e]
  obtain ⟨hl, hset, hok, _⟩ := hlen _ _ _ hJ
  unfold endC
  have e1 : (S' ++ [Cell.lst acc'])[S1.length]? = some (.lst acc') := by rw [← hl]; simp
  rw [e1]
  simp only
  have hst : Settles S1 (S' ++ [Cell.lst acc']) := fun j c hj e => hset j c hj (by rwa [List.getElem?_append_left (by omega)] at e)
  rw [if_pos ⟨by rw [List.length_append, hl]; rfl, okL_up _ _ hok, hst⟩, ← hl, List.take_left]
  exact hQ _ _ hJ
theorem wp_compF {α β : Type} (xs : List α) (en : α → D) (f : α → Option β) (en' : β → D) (h : wp (mi δ S) (fun src S1 => (∀ t, items (S1 ++ t) src = some (xs.map en)) ∧ xs.length ≤ 1000000 ∧
      (∀ x, x ∈ xs → ∀ acc, GW (bindT tg (en x) (wipeD δ vs)) fun δ1 => wp (tst δ1 (S1 ++ [.lst acc])) (fun c S2 => S2 = S1 ++ [.lst acc] ∧ (c = true → wp (el δ1 (S1 ++ [.lst acc])) (fun y S3 => S3 = S1 ++ [.lst acc] ∧ ∃ z, f x = some z ∧ y = en' z ∧ okD 0 y = true) noX) ∧ (c = false → f x = none)) noX) ∧
      Q (.lst ((xs.filterMap f).map en')) S1) X) : wp (compM mi tg tst el vs δ S) Q X := by
  unfold compM
  refine wp_bind (wp_q h fun src S1 h => ?_)
  obtain ⟨hit, hn, hs, hQ⟩ := h
  have hk := wp_comp (mi := fun _ S => .ok src S) (δ := δ) (S := S1) (tg := tg) (tst := tst) (el := el) (vs := vs) (X := X) (Q := Q) (fun k acc S0 => S0 = S1 ∧ acc = ((xs.take k).filterMap f).map en' ∧ okL 0 acc = true) ⟨xs.map en, by simpa using hn, fun k acc S0 t hJ => by rw [hJ.1]; exact hit t, fun k acc S0 hJ => by
    refine ⟨by rw [hJ.1], by rw [hJ.1]; exact Settles.same, hJ.2.2, ?_⟩
    rw [hJ.2.1, List.length_map]
    exact Nat.le_trans (List.length_filterMap_le _ _) (by rw [List.length_take]; omega), ⟨rfl, by simp, rfl⟩, fun k d hd acc S0 hJ => by
    obtain ⟨rfl, rfl, hok⟩ := hJ
    rw [List.getElem?_map] at hd
    cases hx : xs[k]? with
    | none => rw [hx] at hd; cases hd
    | some x =>
      rw [hx] at hd
      cases hd
      obtain ⟨δ1, e1, hw⟩ := hs x (List.mem_of_getElem? hx) (((xs.take k).filterMap f).map en')
      have htk : xs.take (k + 1) = xs.take k ++ [x] := by rw [List.take_succ, hx]; rfl
      refine ⟨δ1, e1, wp_q hw fun c S2 h => ⟨fun hc => ?_, fun hc => ?_⟩⟩
      · obtain ⟨rfl, h1, h2⟩ := h
        refine wp_q (h1 hc) fun y S3 h => ?_
        obtain ⟨rfl, z, ez, rfl, ho⟩ := h
        refine ⟨_, rfl, rfl, ?_, ?_⟩
        · rw [htk, List.filterMap_append, List.map_append]
          simp [ez]
        · exact okL_iff.mpr fun d hd => by
            rcases List.mem_append.mp hd with hd | hd
            · exact okL_iff.mp hok d hd
            · rw [List.mem_singleton.mp hd]; exact ho
      · obtain ⟨rfl, h1, h2⟩ := h
        refine ⟨_, rfl, rfl, ?_, hok⟩
        rw [htk, List.filterMap_append]
        simp [h2 hc], fun acc S' hJ => by
    obtain ⟨rfl, rfl, _⟩ := hJ
    rw [List.length_map, List.take_length]
    exact hQ⟩
  exact hk
theorem wp_compE {α β : Type} (xs : List α) (en : α → D) (f : α → β) (en' : β → D) (h : wp (mi δ S) (fun src S1 => (∀ t, items (S1 ++ t) src = some (xs.map en)) ∧ xs.length ≤ 1000000 ∧
      (∀ x, x ∈ xs → ∀ acc, GW (bindT tg (en x) (wipeD δ vs)) fun δ1 => wp (el δ1 (S1 ++ [.lst acc])) (fun y S3 => S3 = S1 ++ [.lst acc] ∧ y = en' (f x) ∧ okD 0 y = true) noX) ∧
      Q (.lst ((xs.map f).map en')) S1) X) : wp (compM mi tg yesB el vs δ S) Q X := by
  refine wp_compF xs en (fun x => some (f x)) en' (wp_q h fun src S1 h => ?_)
  obtain ⟨h1, h2, h3, h4⟩ := h
  refine ⟨h1, h2, fun x hx acc => ?_, ?_⟩
  · obtain ⟨δ1, e, hw⟩ := h3 x hx acc
    refine ⟨δ1, e, wp_yes ⟨rfl, fun _ => wp_q hw fun y S3 h => ?_, fun h => by cases h⟩⟩
    exact ⟨h.1, f x, rfl, h.2⟩
  · have : xs.filterMap (fun x => some (f x)) = xs.map f := by
      induction xs with
      | nil => rfl
      | cons x xs ih => simp [List.filterMap_cons]
    rw [this]
    exact h4
end
section
variable {S S' S2 t : Store} {d : D} {Q : D → Store → Prop} {X : Ex → Store → Prop} {n : Nat} {m : MS} {ds : List D}
theorem wp_def (h : wf (m (startD n ds) S) (fun _ S' => wp (finV S .non S') Q X) (fun d S' => wp (finV S d S') Q X) (fun x _ S' => wp (finX S x S') Q X) noB noB) : wp (defM n m ds S) Q X := by
  unfold defM
  cases e : m (startD n ds) S with
  | nx δ S' => rw [e] at h; exact h
  | rt d S' => rw [e] at h; exact h
  | exc x δ S' => rw [e] at h; exact h
  | bk δ S' => rw [e] at h; exact h.elim
  | ct δ S' => rw [e] at h; exact h.elim
  | stuck => rw [e] at h; exact h.elim
theorem wp_fin (h : okD 0 d = true) (hl : S'.length = S.length) (k : Q d S') : wp (finV S d S') Q X := wp_ok (fin_cl h hl) k
theorem wp_finG (h : okD 0 d = true) (hl : S'.length = S.length) (hs : Settles S S') (k : Q d S') : wp (finV S d (S' ++ t)) Q X := wp_ok (fin_cut (fz_cl h) hl hs) k
theorem wp_finS (h : okD 0 d = true) (k : Q d S) : wp (finV S d S) Q X := wp_fin h rfl k
theorem wp_finL {xs : List D} (h : okL 0 xs = true) (hl : S'.length = S.length) (hs : Settles S S') (k : Q (.lst xs) S') : wp (finV S (.loc S.length) (S' ++ (.lst xs :: t))) Q X := by
  refine wp_ok (fin_cut (e := .lst xs) ?_ hl hs) k
  have e1 : (S' ++ (Cell.lst xs :: t))[S.length]? = some (.lst xs) := by rw [← hl]; simp
  have ho : ¬ okD S.length (.loc S.length) = true := by simp [okD]
  unfold fz fzN
  rw [if_neg ho]
  simp only [e1, allO_cl (okL_up _ _ h)]
theorem wp_finXS {x : Ex} (h : okL 0 x.ds = true) (k : X x S) : wp (finX S x S) Q X := wp_exc (finX_same h) k
end
section
variable {δ : DEnv} {S : Store} {ma mb : ME} {Q : Src → Store → Prop} {X : Ex → Store → Prop}
theorem wp_srcV (h : wp (ma δ S) (fun d S1 => (iterD S1 d).isSome = true ∧ Q (.vals d) S1) X) : wp (srcV ma δ S) Q X := wp_bind (wp_q h fun d S1 h => by
  obtain ⟨q, e⟩ := Option.isSome_iff_exists.mp h.1
  simp only [e]
  exact h.2)
theorem wp_src1 (h : wp (ma δ S) (fun d S1 => ∃ i : Int, d = .int i ∧ i.natAbs ≤ 1000000000 ∧ Q (.rng 0 1 i.toNat) S1) X) : wp (src1 ma δ S) Q X := wp_bind (wp_q h fun d S1 h => by
  obtain ⟨i, rfl, hi, h⟩ := h
  simp only
  rw [if_pos hi]
  exact h)
end
section
variable {S : Store} {P : D → Prop} {PB : Bool → Prop} {x y : Int} {a b : List Nat} {ds es : List D} {d : D} {i n c : Nat}
theorem gw_addI (k : P (.int (x + y))) : GW (addG S (.int x) (.int y)) P := ⟨_, rfl, k⟩
theorem gw_addS (k : P (.str (a ++ b))) (h : a.length + b.length ≤ 1000000 := by first | assumption | ((try simp only [List.length_append, List.length_cons, List.length_nil, List.length_take, List.length_drop]); omega)) : GW (addG S (.str a) (.str b)) P := ⟨_, gAddS h, k⟩
theorem gw_addL (k : P (.lst (ds ++ es))) (h : ds.length + es.length ≤ 1000000 := by first | assumption | ((try simp only [List.length_append, List.length_cons, List.length_nil, List.length_map, List.length_take, List.length_drop]); omega)) : GW (addG S (.lst ds) (.lst es)) P := ⟨_, if_pos h, k⟩
theorem gw_addT (k : P (.tup (ds ++ es))) (h : ds.length + es.length ≤ 1000000 := by first | assumption | ((try simp only [List.length_append, List.length_cons, List.length_nil, List.length_map, List.length_take, List.length_drop]); omega)) : GW (addG S (.tup ds) (.tup es)) P := ⟨_, if_pos h, k⟩
theorem gw_subI (k : P (.int (x - y))) : GW (subG S (.int x) (.int y)) P := ⟨_, rfl, k⟩
theorem gw_mulR (k : P (.int (x * y))) (h1 : -(2 ^ 64) < y := by omega) (h2 : y < 2 ^ 64 := by omega) : GW (mulG S (.int x) (.int y)) P := ⟨_, gMulI h1 h2, k⟩
theorem gw_mulL (k : P (.int (x * y))) (h1 : -(2 ^ 64) < x := by omega) (h2 : x < 2 ^ 64 := by omega) : GW (mulG S (.int x) (.int y)) P := ⟨_, if_pos (.inl (.inl ⟨h1, h2⟩)), k⟩
theorem gw_mulS (k : P (.str (List.replicate n a).flatten)) (h : n ≤ 1000000 := by omega) (h2 : a.length * n ≤ 1000000 := by first | assumption | omega | (simp only [List.length_cons, List.length_nil]; omega)) : GW (mulG S (.str a) (.int (n : Int))) P :=
  ⟨_, (show (if 0 ≤ (n : Int) ∧ (n : Int) ≤ 1000000 ∧ a.length * (n : Int).toNat ≤ 1000000 then some (D.str (List.replicate (n : Int).toNat a).flatten) else none) = some (D.str (List.replicate n a).flatten) by
    rw [Int.toNat_natCast, if_pos ⟨by omega, by omega, h2⟩]), k⟩
theorem gw_modI (k : P (.int (x % y))) (h : 0 < y := by first | assumption | omega | decide) : GW (modG S (.int x) (.int y)) P := ⟨_, if_pos h, k⟩
theorem log_small {y : Int} (h : y.natAbs < 2 ^ 64) : y.natAbs.log2 < 9000 := by
  rcases Nat.eq_zero_or_pos y.natAbs with e | hp
  · rw [e]; decide
  · have := (Nat.log2_lt (by omega)).mpr h
    omega
theorem gw_fdivI (k : P (.int (x / y))) (h : 0 < y := by first | assumption | omega | decide) (h2 : y.natAbs < 2 ^ 64 := by first | assumption | omega | decide) : GW (fdivG S (.int x) (.int y)) P := ⟨_, if_pos ⟨h, log_small h2⟩, k⟩
theorem gw_pow (k : P (.int (x ^ y.toNat))) (h : 0 ≤ y ∧ y ≤ 1000000 ∧ x.natAbs < 2 ^ 64 := by decide) : GW (powG S (.int x) (.int y)) P := ⟨_, if_pos h, k⟩
theorem gw_negI (k : P (.int (-x))) : GW (negG S (.int x)) P := ⟨_, rfl, k⟩
theorem gw_ltI (k : P (.bl (decide (x < y)))) : GW (ltG S (.int x) (.int y)) P := ⟨_, rfl, k⟩
theorem gw_leI (k : P (.bl (decide (x ≤ y)))) : GW (leG S (.int x) (.int y)) P := ⟨_, rfl, k⟩
theorem gw_gtI (k : P (.bl (decide (y < x)))) : GW (gtG S (.int x) (.int y)) P := ⟨_, rfl, k⟩
theorem gw_geI (k : P (.bl (decide (y ≤ x)))) : GW (geG S (.int x) (.int y)) P := ⟨_, rfl, k⟩
theorem gw_ltS (k : P (.bl (decide (a < b)))) : GW (ltG S (.str a) (.str b)) P := ⟨_, rfl, k⟩
theorem gw_eqI (k : P (.bl (decide (x = y)))) : GW (eqG S (.int x) (.int y)) P := ⟨_, rfl, k⟩
theorem gw_neI (k : P (.bl (!decide (x = y)))) : GW (neG S (.int x) (.int y)) P := ⟨_, rfl, k⟩
theorem gw_eqS (k : P (.bl (decide (a = b)))) : GW (eqG S (.str a) (.str b)) P := ⟨_, rfl, k⟩
theorem gw_neS (k : P (.bl (!decide (a = b)))) : GW (neG S (.str a) (.str b)) P := ⟨_, rfl, k⟩
theorem gw_eqB {p q : Bool} (k : P (.bl (decide (p = q)))) : GW (eqG S (.bl p) (.bl q)) P := ⟨_, gEqB, k⟩
theorem gw_neB {p q : Bool} (k : P (.bl (!decide (p = q)))) : GW (neG S (.bl p) (.bl q)) P := ⟨_, gNeB, k⟩
theorem gw_inC (k : P (.bl (decide (c ∈ b)))) : GW (inG S (.str [c]) (.str b)) P := ⟨_, rfl, k⟩
theorem gw_ninC (k : P (.bl (!decide (c ∈ b)))) : GW (ninG S (.str [c]) (.str b)) P := ⟨_, rfl, k⟩
theorem gb_ltI (k : PB (decide (x < y))) : GW (asB (ltG S (.int x) (.int y))) PB := ⟨_, rfl, k⟩
theorem gb_leI (k : PB (decide (x ≤ y))) : GW (asB (leG S (.int x) (.int y))) PB := ⟨_, rfl, k⟩
theorem gb_gtI (k : PB (decide (y < x))) : GW (asB (gtG S (.int x) (.int y))) PB := ⟨_, rfl, k⟩
theorem gb_geI (k : PB (decide (y ≤ x))) : GW (asB (geG S (.int x) (.int y))) PB := ⟨_, rfl, k⟩
theorem gb_eqI (k : PB (decide (x = y))) : GW (asB (eqG S (.int x) (.int y))) PB := ⟨_, rfl, k⟩
theorem gb_neI (k : PB (!decide (x = y))) : GW (asB (neG S (.int x) (.int y))) PB := ⟨_, rfl, k⟩
theorem gb_eqS (k : PB (decide (a = b))) : GW (asB (eqG S (.str a) (.str b))) PB := ⟨_, rfl, k⟩
theorem gb_neS (k : PB (!decide (a = b))) : GW (asB (neG S (.str a) (.str b))) PB := ⟨_, rfl, k⟩
theorem gb_inC (k : PB (decide (c ∈ b))) : GW (asB (inG S (.str [c]) (.str b))) PB := ⟨_, rfl, k⟩
theorem gb_ninC (k : PB (!decide (c ∈ b))) : GW (asB (ninG S (.str [c]) (.str b))) PB := ⟨_, rfl, k⟩
theorem gb_bl {p : Bool} (k : PB p) : GW (asB (some (.bl p))) PB := ⟨_, rfl, k⟩
theorem gt_bl {p : Bool} (k : PB p) : GW (truthB S (.bl p)) PB := ⟨_, rfl, k⟩
theorem gt_int (k : PB (x != 0)) : GW (truthB S (.int x)) PB := ⟨_, rfl, k⟩
theorem gt_lst (k : PB (!ds.isEmpty)) : GW (truthB S (.lst ds)) PB := ⟨_, rfl, k⟩
theorem gt_tup (k : PB (!ds.isEmpty)) : GW (truthB S (.tup ds)) PB := ⟨_, rfl, k⟩
theorem gw_tup (k : P (.tup ds)) (h : ds.length ≤ 100000 := by first | assumption | ((try simp only [List.length_cons, List.length_nil]); omega)) : GW (tupG S ds) P := ⟨_, if_pos h, k⟩
theorem gw_lst (k : P (.lst ds)) (h : ds.length ≤ 100000 := by first | assumption | ((try simp only [List.length_cons, List.length_nil]); omega)) : GW (lstG S ds) P := ⟨_, if_pos h, k⟩
theorem gw_lenS (k : P (.int (a.length : Nat))) (h : a.length ≤ 1000000 := by first | assumption | omega | ((try simp only [List.length_append, List.length_cons, List.length_nil, List.length_map, List.length_take, List.length_drop]); omega)) : GW (lenG S [.str a]) P := ⟨_, gLenS h, k⟩
theorem gw_lenL (k : P (.int (ds.length : Nat))) : GW (lenG S [.lst ds]) P := ⟨_, rfl, k⟩
theorem gw_lenT (k : P (.int (ds.length : Nat))) : GW (lenG S [.tup ds]) P := ⟨_, rfl, k⟩
theorem gw_lenEnd (k : P (.int (ds.length : Nat))) : GW (lenG (S ++ [.lst ds]) [.loc S.length]) P := ⟨_, by
  show (match lenN (S ++ [Cell.lst ds]) (.loc S.length) with | some n => some (D.int n) | none => none) = some (D.int (ds.length : Nat))
  have : asL (S ++ [Cell.lst ds]) (.loc S.length) = some ds := by simp [asL]
  simp only [lenN, this], k⟩
theorem gw_tuple (k : P (.tup ds)) : GW (tupleG S [.lst ds]) P := ⟨_, rfl, k⟩
theorem gw_tupleT (k : P (.tup ds)) : GW (tupleG S [.tup ds]) P := ⟨_, rfl, k⟩
theorem gw_tupleEnd (k : P (.tup ds)) : GW (tupleG (S ++ [.lst ds]) [.loc S.length]) P := ⟨_, by
  have : asL (S ++ [Cell.lst ds]) (.loc S.length) = some ds := by simp [asL]
  show (match asL (S ++ [Cell.lst ds]) (.loc S.length) with | some ds => some (D.tup ds) | none => none) = _
  rw [this], k⟩
theorem gw_all {bs : List Bool} (k : P (.bl (bs.all id))) : GW (allG S [.lst (bs.map D.bl)]) P := ⟨_, by
  show (match asBs (bs.map D.bl) with | some bs => some (D.bl (bs.all id)) | none => none) = some (D.bl (bs.all id))
  rw [asBs_map], k⟩
theorem gw_any {bs : List Bool} (k : P (.bl (bs.any id))) : GW (anyG S [.lst (bs.map D.bl)]) P := ⟨_, by
  show (match asBs (bs.map D.bl) with | some bs => some (D.bl (bs.any id)) | none => none) = some (D.bl (bs.any id))
  rw [asBs_map], k⟩
theorem asIsMap : ∀ ls : List Int, asIs (ls.map D.int) = some ls
  | [] => rfl
  | x :: xs => by simp [asIs, asIsMap xs]
theorem asSsMap : ∀ xs : List (List Nat), asSs (xs.map D.str) = some xs
  | [] => rfl
  | x :: xs => by simp [asSs, asSsMap xs]
theorem gw_sum {ls : List Int} (k : P (.int ls.sum)) : GW (sumG S [.lst (ls.map D.int)]) P := ⟨_, by
  show (match asIs (ls.map D.int) with | some bs => some (D.int bs.sum) | none => none) = some (D.int ls.sum)
  rw [asIsMap], k⟩
theorem gw_upper (k : P (.str (a.map upL))) (h : asc a = true := by first | assumption | rfl) (h2 : a.length ≤ 1000000 := by first | assumption | omega | ((try simp only [List.length_append, List.length_cons, List.length_nil, List.length_map, List.length_take, List.length_drop]); omega)) : GW (upperG S (.str a) []) P := ⟨_, if_pos ⟨h, h2⟩, k⟩
theorem gw_lower (k : P (.str (a.map loL))) (h : asc a = true := by first | assumption | rfl) (h2 : a.length ≤ 1000000 := by first | assumption | omega | ((try simp only [List.length_append, List.length_cons, List.length_nil, List.length_map, List.length_take, List.length_drop]); omega)) : GW (lowerG S (.str a) []) P := ⟨_, if_pos ⟨h, h2⟩, k⟩
theorem gw_str (k : P (.str (strI x))) (h : x.natAbs.log2 < 1920 := by first | assumption | decide) : GW (strG S [.int x]) P := ⟨_, if_pos h, k⟩
theorem gw_intI (k : P (.int x)) : GW (intG S [.int x]) P := ⟨_, rfl, k⟩
theorem gw_intB {p : Bool} (k : P (.int (if p then 1 else 0))) : GW (intG S [.bl p]) P := ⟨_, rfl, k⟩
theorem gw_isi {nm t : String} {p : Bool} (k : P (.bl p)) (h : tyN S d = some t := by rfl) (h2 : isTy nm t = some p := by rfl) : GW (isiA S [d, .raw (.ty nm)]) P := ⟨_, by
  show (match tyN S d with | some t => (match isTy nm t with | some b => some (D.bl b) | none => none) | none => none) = _
  rw [h]
  simp only [h2], k⟩
theorem gw_ixL (h : ds[i]? = some d) (k : P d) : GW (ixG S (.lst ds) (.int (i : Int))) P := ⟨_, gIxL h, k⟩
theorem gw_ixT (h : ds[i]? = some d) (k : P d) : GW (ixG S (.tup ds) (.int (i : Int))) P := ⟨_, gIxT h, k⟩
theorem gw_ixS (h : a[i]? = some c) (k : P (.str [c])) (hl : a.length ≤ 1000000 := by first | assumption | omega | ((try simp only [List.length_append, List.length_cons, List.length_nil, List.length_map, List.length_take, List.length_drop]); omega)) : GW (ixG S (.str a) (.int (i : Int))) P := ⟨_, gIxS hl h, k⟩
theorem gw_ixLd (h : i < ds.length) (k : ∀ d, d ∈ ds → P d) : GW (ixG S (.lst ds) (.int (i : Int))) P := gw_ixL (List.getElem?_eq_getElem h) (k _ (List.getElem_mem h))
theorem gw_ix0L (k : P d) : GW (ixG S (.lst (d :: ds)) (.int 0)) P := gw_ixL (i := 0) rfl k
theorem gw_ix0T (k : P d) : GW (ixG S (.tup (d :: ds)) (.int 0)) P := gw_ixT (i := 0) rfl k
theorem gw_ix1L {e : D} (k : P d) : GW (ixG S (.lst (e :: d :: ds)) (.int 1)) P := gw_ixL (i := 1) rfl k
theorem gw_ix1T {e : D} (k : P d) : GW (ixG S (.tup (e :: d :: ds)) (.int 1)) P := gw_ixT (i := 1) rfl k
theorem gw_ix2L {e f : D} (k : P d) : GW (ixG S (.lst (e :: f :: d :: ds)) (.int 2)) P := gw_ixL (i := 2) rfl k
theorem gw_ix2T {e f : D} (k : P d) : GW (ixG S (.tup (e :: f :: d :: ds)) (.int 2)) P := gw_ixT (i := 2) rfl k
theorem gw_slS {lo hi : Option Int} (k : P (.str (cutL a lo hi))) (h : a.length ≤ 1000000 := by first | assumption | omega | ((try simp only [List.length_append, List.length_cons, List.length_nil, List.length_map, List.length_take, List.length_drop]); omega)) : GW (slG S (.str a) lo hi) P := ⟨_, if_pos h, k⟩
theorem gw_slT {lo hi : Option Int} (k : P (.tup (cutL ds lo hi))) : GW (slG S (.tup ds) lo hi) P := ⟨_, rfl, k⟩
theorem gw_slL {lo hi : Option Int} (k : P (.lst (cutL ds lo hi))) : GW (slG S (.lst ds) lo hi) P := ⟨_, rfl, k⟩
theorem gw_slTo {q : Nat} (k : P (.str (a.take q))) (h : a.length ≤ 1000000 := by first | assumption | omega | ((try simp only [List.length_append, List.length_cons, List.length_nil, List.length_map, List.length_take, List.length_drop]); omega)) : GW (slG S (.str a) none (some (q : Int))) P := gw_slS (by rw [cut_to]; exact k) h
theorem gw_slFrom {q : Nat} (k : P (.str (a.drop q))) (h : a.length ≤ 1000000 := by first | assumption | omega | ((try simp only [List.length_append, List.length_cons, List.length_nil, List.length_map, List.length_take, List.length_drop]); omega)) : GW (slG S (.str a) (some (q : Int)) none) P := gw_slS (by rw [cut_from]; exact k) h
theorem gw_slFT {p q : Nat} (k : P (.str ((a.drop p).take (q - p)))) (h : a.length ≤ 1000000 := by first | assumption | omega | ((try simp only [List.length_append, List.length_cons, List.length_nil, List.length_map, List.length_take, List.length_drop]); omega)) : GW (slG S (.str a) (some (p : Int)) (some (q : Int))) P := gw_slS (by rw [cut_nat]; exact k) h
theorem gw_asI {PI : Int → Prop} (k : PI x) : GW (asI (.int x)) PI := ⟨_, rfl, k⟩
theorem gw_bind {δ δ1 : DEnv} {tg : Tg} {PE : DEnv → Prop} (k : PE δ1) (h : bindT tg d δ = some δ1 := by rfl) : GW (bindT tg d δ) PE := ⟨_, h, k⟩
theorem append_ok {x : D} (h : ds.length < 1000000) : appendG ds [x] = some (.non, ds ++ [x]) := if_pos h
theorem wp_append {δ : DEnv} {j : Nat} {ms : MA} {Q : D → Store → Prop} {X : Ex → Store → Prop} (hv : δ[j]? = some (some (.loc S.length))) (k : wp (ms δ (S ++ [.lst ds])) (fun xs S2 => ∃ S3 x, S2 = S3 ++ [.lst ds] ∧ S3.length = S.length ∧ xs = [x] ∧ ds.length < 1000000 ∧ Q .non (S3 ++ [.lst (ds ++ [x])])) X) : wp (lmM appendG (vM j) ms δ (S ++ [.lst ds])) Q X :=
  wp_lmEnd hv (wp_q k fun xs S2 h => by
    obtain ⟨S3, x, e1, e2, rfl, hl, h⟩ := h
    exact ⟨S3, .non, ds ++ [x], e1, e2, append_ok hl, h⟩)
theorem wd_draw {T : Store} {m : Int} {Q : D → Store → Prop} {X : Ex → Store → Prop} (h : Dw T S) (hm : 0 < m) (hm2 : m < 2 ^ 64) (k : ∀ (r : Nat) S', Dw T S' → (r : Int) < m → Q (.int (r : Int)) S') : wp (defM 5 drawM [.loc 0, .int m] S) Q X := by
  obtain ⟨r, S', h1, h2, h3, h4⟩ := draw_dw h hm hm2
  obtain ⟨j, rfl⟩ : ∃ j : Nat, r = j := ⟨r.toNat, by omega⟩
  exact wp_ok h4 (k j S' h1 h3)
theorem wd_of {T : Store} {Q : D → Store → Prop} {X : Ex → Store → Prop} (h : Dw T S) (hc : okL 0 ds = true) (k : ∀ d S', Dw T S' → d ∈ ds → Q d S') (hn : ds ≠ [] := by simp) (hl : ds.length < 2 ^ 64 := by first | assumption | (simp only [List.length_cons, List.length_nil]; omega)) : wp (defM 2 (ofM (defM 5 drawM)) [.loc 0, .lst ds] S) Q X := by
  obtain ⟨d, S', h1, h2, h3⟩ := of_lst h hn hl hc
  exact wp_ok h3 (k d S' h1 h2)
theorem wd_ofS {T : Store} {Q : D → Store → Prop} {X : Ex → Store → Prop} (h : Dw T S) (k : ∀ c S', Dw T S' → c ∈ a → Q (.str [c]) S') (hn : a ≠ [] := by simp) (hl : a.length ≤ 1000000 := by first | assumption | (simp only [List.length_cons, List.length_nil]; omega)) : wp (defM 2 (ofM (defM 5 drawM)) [.loc 0, .str a] S) Q X := by
  obtain ⟨c, S', h1, h2, h3⟩ := of_str h hn hl
  exact wp_ok h3 (k c S' h1 h2)
end
section
variable {δ : DEnv} {S : Store} {d : D} {me ma mb mo mi mv : ME} {ms : MA} {i j : Nat} {N B C : DEnv → Store → Prop} {R : D → Store → Prop} {X : Ex → DEnv → Store → Prop} {Y : Ex → Store → Prop} {Q : D → Store → Prop}
theorem wf_asgU {tgs : List Tg} (h : wp (me δ S) (fun d S1 => GW (asL S1 d) fun ds => GW (bindTs tgs ds δ) fun δ1 => N δ1 S1) (fun x S1 => X x δ S1)) : wf (asgU tgs me δ S) N R X B C := wf_bind (wp_q h fun _ _ h => by
  obtain ⟨ds, e, δ1, e1, h⟩ := h
  simp only [e, e1]
  exact h)
theorem wf_par (h : wp (ms δ S) (fun xs S1 => ∃ v w, xs = [v, w] ∧ N ((δ.set i (some v)).set j (some w)) S1) (fun x S1 => X x δ S1)) : wf (parM i j ms δ S) N R X B C := wf_bind (wp_q h fun _ _ h => by
  obtain ⟨v, w, rfl, h⟩ := h
  exact h)
theorem wf_asgSL {tgs : List Tg} {k : Nat} (h : wp (me δ S) (fun d S1 => GW (asL S1 d) fun ds => k ≤ ds.length ∧ GW (bindTs tgs (ds.take k ++ [.loc S1.length]) δ) fun δ1 => N δ1 (S1 ++ [.lst (ds.drop k)])) (fun x S1 => X x δ S1)) : wf (asgSL tgs k me δ S) N R X B C := wf_bind (wp_q h fun _ _ h => by
  obtain ⟨ds, e, hk, δ1, e1, h⟩ := h
  simp only [e, e1, if_pos hk]
  exact h)
theorem wf_setD (h : wp (mv δ S) (fun d S1 => wp (mo δ S1) (fun x S2 => wp (mi δ S2) (fun y S3 => ∃ n ks ds k, x = .loc n ∧ S3[n]? = some (.dct ks ds) ∧ keyD y = some k ∧ ks.length < 1000000 ∧ N δ (S3.set n (.dct (putD ks ds k d).1 (putD ks ds k d).2))) (fun x S1 => X x δ S1)) (fun x S1 => X x δ S1)) (fun x S1 => X x δ S1)) : wf (setXM mo mi mv δ S) N R X B C :=
  wf_bind (wp_q h fun _ _ h => wf_bind (wp_q h fun _ _ h => wf_bind (wp_q h fun _ _ h => by
    obtain ⟨n, ks, ds, k, rfl, e, ek, hl, h⟩ := h
    simp only [locL, locD, e, ek, if_pos hl]
    exact h)))
theorem wp_disp {ps : List (ME × ME)} (h : wp (pairsM ps δ (S ++ [.dct [] []])) (fun xs S1 => ∃ qs, keysP xs = some qs ∧ S1[S.length]? = some (.dct [] []) ∧ qs.length ≤ 15 ∧ Q (.loc S.length) (S1.set S.length (.dct (mergeD [] [] qs).1 (mergeD [] [] qs).2))) Y) : wp (dispM ps δ S) Q Y := wp_bind (wp_q h fun xs S1 h => by
  obtain ⟨qs, e1, e2, hl, h⟩ := h
  simp only [e1, e2, if_pos hl]
  exact h)
theorem wp_pnil {QP : List (D × D) → Store → Prop} (h : QP [] S) : wp (pairsM [] δ S) QP Y := h
theorem wp_pcons {QP : List (D × D) → Store → Prop} {r : List (ME × ME)} (h : wp (ma δ S) (fun k S1 => wp (mb δ S1) (fun v S2 => wp (pairsM r δ S2) (fun ps S3 => QP ((k, v) :: ps) S3) Y) Y) Y) : wp (pairsM ((ma, mb) :: r) δ S) QP Y := by
  unfold pairsM
  exact wp_bind (wp_q h fun _ _ h => wp_bind (wp_q h fun _ _ h => wp_bind h))
theorem wp_srcZ {QS : Src → Store → Prop} (h : wp (ma δ S) (fun d S1 => wp (mb δ S1) (fun e S2 => ∃ xs ys, iterD S2 d = some xs ∧ iterD S2 e = some ys ∧ QS (.zip d e xs.length ys.length) S2) Y) Y) : wp (srcZ ma mb δ S) QS Y := wp_bind (wp_q h fun _ _ h => wp_bind (wp_q h fun _ _ h => by
  obtain ⟨xs, ys, e1, e2, h⟩ := h
  simp only [e1, e2]
  exact h))
theorem wp_srcE {QS : Src → Store → Prop} (h : wp (ma δ S) (fun d S1 => ∃ xs, iterD S1 d = some xs ∧ QS (.enm d xs.length) S1) Y) : wp (srcE ma δ S) QS Y := wp_bind (wp_q h fun _ _ h => by
  obtain ⟨xs, e1, h⟩ := h
  simp only [e1]
  exact h)
theorem wp_src2 {QS : Src → Store → Prop} (h : wp (ma δ S) (fun d S1 => wp (mb δ S1) (fun e S2 => ∃ i j : Int, d = .int i ∧ e = .int j ∧ (i.natAbs ≤ 1000000000 ∧ j.natAbs ≤ 1000000000) ∧ QS (.rng i 1 (j - i).toNat) S2) Y) Y) : wp (src2 ma mb δ S) QS Y := wp_bind (wp_q h fun _ _ h => wp_bind (wp_q h fun _ _ h => by
  obtain ⟨i, j, rfl, rfl, hb, h⟩ := h
  simp only [if_pos hb]
  exact h))
end
section
variable {δ : DEnv} {S : Store} {Q : D → Store → Prop} {X : Ex → Store → Prop} {mi : DEnv → Store → Res Src} {tg : Tg} {ke ve : ME} {vs : List Nat}
theorem wp_compD (J : Nat → List Key → List D → Store → Prop) (h : wp (mi δ S) (fun src S1 => ∃ ds, items S1 src = some ds ∧ (∀ k ks vs S', J k ks vs S' → items S' src = some ds) ∧ J 0 [] [] (S1 ++ [.dct [] []]) ∧
      (∀ (k : Nat) (d : D), ds[k]? = some d → ∀ ks us S', J k ks us S' → GW (bindT tg d (wipeD δ vs)) fun δ1 => wp (ke δ1 S') (fun kd S2 => wp (ve δ1 S2) (fun x S3 => ∃ q ks' us', keyD kd = some q ∧ S3[S1.length]? = some (.dct ks' us') ∧ ks'.length < 1000000 ∧ J (k + 1) (putD ks' us' q x).1 (putD ks' us' q x).2 (S3.set S1.length (.dct (putD ks' us' q x).1 (putD ks' us' q x).2))) noX) noX) ∧
      ∀ ks us S', J ds.length ks us S' → Q (.loc S1.length) S') X) : wp (compDM mi tg yesB ke ve vs δ S) Q X := by
  unfold compDM
  refine wp_bind (wp_q h fun src S1 h => ?_)
  obtain ⟨ds, e0, hit, h0, hs, hQ⟩ := h
  have key : ∀ (r : List D) (k : Nat) (ks : List Key) (us : List D) (S' : Store), ds.drop k = r → k ≤ ds.length → J k ks us S' → ∃ ks' us' Sf, compDL src tg yesB ke ve S1.length ds (wipeD δ vs) r S' = some Sf ∧ J ds.length ks' us' Sf := by
    intro r
    induction r with
    | nil =>
      intro k ks us S' hr hkl hJ
      have hk : ds.length = k := by
        have := congrArg List.length hr
        rw [List.length_drop] at this
        simp only [List.length_nil] at this
        omega
      subst hk
      refine ⟨ks, us, S', ?_, hJ⟩
      unfold compDL
      rw [if_pos (hit _ _ _ _ hJ)]
    | cons d r ih =>
      intro k ks us S' hr hkl hJ
      have hk : ds[k]? = some d := by
        have := congrArg (fun l => l[0]?) hr
        simpa using this
      have hr' : ds.drop (k + 1) = r := by
        have := congrArg List.tail hr
        simpa using this
      obtain ⟨δ1, e1, hw⟩ := hs k d hk ks us S' hJ
      have hk1 : k + 1 ≤ ds.length := (List.getElem?_eq_some_iff.mp hk).1
      obtain ⟨kd, S2, e2, hw2⟩ := wp_get hw
      obtain ⟨x, S3, e3, q, ks', us', eq, ec, hl, hJ'⟩ := wp_get hw2
      obtain ⟨k2, u2, Sf, ef, hf⟩ := ih (k + 1) _ _ _ hr' hk1 hJ'
      refine ⟨k2, u2, Sf, ?_, hf⟩
      unfold compDL
      rw [if_pos (hit _ _ _ _ hJ), e1]
      simp only [yesB, e2, e3, putC, ec, eq, if_pos hl]
      exact ef
  obtain ⟨ks', us', Sf, e, hf⟩ := key ds 0 [] [] _ rfl (Nat.zero_le _) h0
  simp only [e0, e]
  exact hQ _ _ _ hf
end
section
variable {δ : DEnv} {S : Store} {Q : D → Store → Prop} {X : Ex → Store → Prop} {mi mi1 : DEnv → Store → Res Src} {tg tg1 : Tg} {tst tst1 : MB} {el : ME} {vs vs1 : List Nat}
theorem compL_pure {α β : Type} {src : Src} {δ' : DEnv} {S1 : Store} (xs : List α) (en : α → D) (f : α → Option β) (en' : β → D) {b : Nat} (hn : b + xs.length ≤ 1000000) (hit : ∀ t, items (S1 ++ t) src = some (xs.map en))
    (hs : ∀ x, x ∈ xs → ∀ acc, GW (bindT tg (en x) δ') fun δ1 => wp (tst δ1 (S1 ++ [.lst acc])) (fun c S2 => S2 = S1 ++ [.lst acc] ∧ (c = true → wp (el δ1 (S1 ++ [.lst acc])) (fun y S3 => S3 = S1 ++ [.lst acc] ∧ ∃ z, f x = some z ∧ y = en' z) noX) ∧ (c = false → f x = none)) noX) :
    ∀ (k : Nat) (acc : List D), k ≤ xs.length → acc.length ≤ b + k → compL src tg tst el S1.length (xs.map en) δ' ((xs.map en).drop k) (S1 ++ [.lst acc]) = some (S1 ++ [.lst (acc ++ ((xs.drop k).filterMap f).map en')]) := by
  intro k
  generalize hm : xs.length - k = m
  induction m generalizing k with
  | zero =>
    intro acc hk ha
    have e : xs.drop k = [] := List.drop_eq_nil_of_le (by omega)
    have e2 : (xs.map en).drop k = [] := List.drop_eq_nil_of_le (by rw [List.length_map]; omega)
    rw [e, e2]
    unfold compL
    rw [if_pos (hit _)]
    simp
  | succ m ih =>
    intro acc hk ha
    have hlt : k < xs.length := by omega
    have e : xs.drop k = xs[k] :: xs.drop (k + 1) := List.drop_eq_getElem_cons hlt
    have e2 : (xs.map en).drop k = en xs[k] :: (xs.map en).drop (k + 1) := by
      rw [← List.map_drop, e, List.map_cons, List.map_drop]
    rw [e, e2]
    obtain ⟨δ1, e1, hw⟩ := hs xs[k] (List.getElem_mem hlt) acc
    obtain ⟨c, S2, et, rfl, h1, h2⟩ := wp_get hw
    unfold compL
    rw [if_pos (hit _), e1]
    simp only [et]
    cases c with
    | true =>
      obtain ⟨y, S3, ee, rfl, z, ez, rfl⟩ := wp_get (h1 rfl)
      simp only [ee]
      have e4 : appC S1.length (S1 ++ [Cell.lst acc]) (en' z) = some (S1 ++ [.lst (acc ++ [en' z])]) := by
        unfold appC
        have e5 : (S1 ++ [Cell.lst acc])[S1.length]? = some (.lst acc) := by simp
        rw [e5]
        simp only
        rw [if_pos (by omega)]
        congr 1
        rw [List.set_append_right _ _ (Nat.le_refl _)]
        simp
      simp only [e4]
      rw [ih (k + 1) (by omega) _ (by omega) (by rw [List.length_append, List.length_singleton]; omega)]
      have ef : (xs[k] :: xs.drop (k + 1)).filterMap f = z :: (xs.drop (k + 1)).filterMap f := by rw [List.filterMap_cons, ez]
      rw [ef, List.map_cons, List.append_assoc]
      rfl
    | false =>
      have ef : (xs[k] :: xs.drop (k + 1)).filterMap f = (xs.drop (k + 1)).filterMap f := by rw [List.filterMap_cons, h2 rfl]
      rw [ef]
      exact ih (k + 1) (by omega) _ (by omega) (by omega)
def flat2 {α β γ : Type} (xs : List α) (ys : α → List β) (f : α → β → Option γ) : List γ := (xs.map fun x => (ys x).filterMap (f x)).flatten
theorem comp2L_pure {α β γ : Type} {src : Src} {δ' : DEnv} {S1 : Store} (xs : List α) (en : α → D) (ys : α → List β) (en1 : β → D) (f : α → β → Option γ) (en' : γ → D) {m : Nat} (hys : ∀ x ∈ xs, (ys x).length ≤ m) (hn : xs.length * m ≤ 1000000) (hit : ∀ t, items (S1 ++ t) src = some (xs.map en))
    (hs : ∀ x, x ∈ xs → ∀ acc, GW (bindT tg (en x) δ') fun δ1 => wp (mi1 δ1 (S1 ++ [.lst acc])) (fun src1 S2 => S2 = S1 ++ [.lst acc] ∧ (∀ t, items (S1 ++ t) src1 = some ((ys x).map en1)) ∧ ∀ y, y ∈ ys x → ∀ acc, GW (bindT tg1 (en1 y) (wipeD δ1 vs1)) fun δ2 => wp (tst1 δ2 (S1 ++ [.lst acc])) (fun c S2 => S2 = S1 ++ [.lst acc] ∧ (c = true → wp (el δ2 (S1 ++ [.lst acc])) (fun y' S3 => S3 = S1 ++ [.lst acc] ∧ ∃ z, f x y = some z ∧ y' = en' z) noX) ∧ (c = false → f x y = none)) noX) noX) :
    ∀ (k : Nat) (acc : List D), k ≤ xs.length → acc.length ≤ k * m → comp2L src tg yesB mi1 tg1 tst1 el vs1 S1.length (xs.map en) δ' ((xs.map en).drop k) (S1 ++ [.lst acc]) = some (S1 ++ [.lst (acc ++ (flat2 (xs.drop k) ys f).map en')]) := by
  intro k
  generalize hm : xs.length - k = q
  induction q generalizing k with
  | zero =>
    intro acc hk ha
    have e : xs.drop k = [] := List.drop_eq_nil_of_le (by omega)
    have e2 : (xs.map en).drop k = [] := List.drop_eq_nil_of_le (by rw [List.length_map]; omega)
    rw [e, e2]
    unfold comp2L
    rw [if_pos (hit _)]
    simp [flat2]
  | succ q ih =>
    intro acc hk ha
    have hlt : k < xs.length := by omega
    have e : xs.drop k = xs[k] :: xs.drop (k + 1) := List.drop_eq_getElem_cons hlt
    have e2 : (xs.map en).drop k = en xs[k] :: (xs.map en).drop (k + 1) := by
      rw [← List.map_drop, e, List.map_cons, List.map_drop]
    rw [e, e2]
    obtain ⟨δ1, e1, hw⟩ := hs xs[k] (List.getElem_mem hlt) acc
    obtain ⟨src1, S2, es, rfl, hi1, h1⟩ := wp_get hw
    unfold comp2L
    rw [if_pos (hit _), e1]
    have hy := hys xs[k] (List.getElem_mem hlt)
    have hb : (k + 1) * m ≤ xs.length * m := Nat.mul_le_mul_right _ (by omega)
    have hb' : (k + 1) * m = k * m + m := Nat.succ_mul k m
    have hc := compL_pure (b := k * m) (ys xs[k]) en1 (f xs[k]) en' (by omega) hi1 h1 0 acc (Nat.zero_le _) (by omega)
    rw [List.drop_zero, List.drop_zero] at hc
    simp only [yesB, es, hi1 _, hc]
    have hfl : (List.filterMap (f xs[k]) (ys xs[k])).length ≤ m := Nat.le_trans (List.length_filterMap_le _ _) hy
    rw [ih (k + 1) (by omega) _ (by omega) (by rw [List.length_append, List.length_map]; omega)]
    have ef : flat2 (xs[k] :: xs.drop (k + 1)) ys f = (ys xs[k]).filterMap (f xs[k]) ++ flat2 (xs.drop (k + 1)) ys f := by
      unfold flat2
      rw [List.map_cons, List.flatten_cons]
    rw [ef, List.map_append, List.append_assoc]
theorem wp_comp2 {α β γ : Type} (xs : List α) (en : α → D) (ys : α → List β) (en1 : β → D) (f : α → β → Option γ) (en' : γ → D) (m : Nat) (hok : ∀ z, okD 0 (en' z) = true) (h : wp (mi δ S) (fun src S1 => (∀ t, items (S1 ++ t) src = some (xs.map en)) ∧ (∀ x ∈ xs, (ys x).length ≤ m) ∧ xs.length * m ≤ 1000000 ∧
      (∀ x, x ∈ xs → ∀ acc, GW (bindT tg (en x) (wipeD δ vs)) fun δ1 => wp (mi1 δ1 (S1 ++ [.lst acc])) (fun src1 S2 => S2 = S1 ++ [.lst acc] ∧ (∀ t, items (S1 ++ t) src1 = some ((ys x).map en1)) ∧ ∀ y, y ∈ ys x → ∀ acc, GW (bindT tg1 (en1 y) (wipeD δ1 vs1)) fun δ2 => wp (tst1 δ2 (S1 ++ [.lst acc])) (fun c S2 => S2 = S1 ++ [.lst acc] ∧ (c = true → wp (el δ2 (S1 ++ [.lst acc])) (fun y' S3 => S3 = S1 ++ [.lst acc] ∧ ∃ z, f x y = some z ∧ y' = en' z) noX) ∧ (c = false → f x y = none)) noX) noX) ∧
      Q (.lst ((flat2 xs ys f).map en')) S1) X) : wp (comp2M mi tg yesB mi1 tg1 tst1 el vs vs1 δ S) Q X := by
  unfold comp2M
  refine wp_bind (wp_q h fun src S1 h => ?_)
  obtain ⟨hit, hys, hn, hs, hQ⟩ := h
  have e0 : items S1 src = some (xs.map en) := by simpa using hit []
  have hc := comp2L_pure (vs1 := vs1) xs en ys en1 f en' hys hn hit hs 0 [] (Nat.zero_le _) (by simp)
  rw [List.drop_zero, List.drop_zero, List.nil_append] at hc
  simp only [e0, hc]
  unfold endC
  have e1 : (S1 ++ [Cell.lst ((flat2 xs ys f).map en')])[S1.length]? = some (.lst ((flat2 xs ys f).map en')) := by simp
  rw [e1]
  simp only
  have ho : okL S1.length ((flat2 xs ys f).map en') = true := okL_up _ _ (okL_iff.mpr fun d hd => by
    obtain ⟨z, _, rfl⟩ := List.mem_map.mp hd
    exact hok z)
  rw [if_pos ⟨by simp, ho, Settles.app⟩, List.take_left]
  exact hQ
end
section
variable {S : Store} {P : D → Prop} {PB : Bool → Prop} {a b : List Nat} {ds es : List D} {d : D} {c n : Nat} {xs : List (List Nat)}
theorem gw_upper1 (k : P (.str [upL c])) (h : c < 128 := by first | assumption | omega) : GW (upperG S (.str [c]) []) P := gw_upper (a := [c]) k (by simp [asc, h]) (by simp)
theorem gw_lower1 (k : P (.str [loL c])) (h : c < 128 := by first | assumption | omega) : GW (lowerG S (.str [c]) []) P := gw_lower (a := [c]) k (by simp [asc, h]) (by simp)
theorem gw_swap (k : P (.str [swL c])) (h : c < 128 := by first | assumption | omega) : GW (swapG S (.str [c]) []) P := ⟨_, if_pos h, k⟩
theorem gw_isup (k : P (.bl (decide (65 ≤ c) && decide (c ≤ 90)))) (h : c < 128 := by first | assumption | omega) : GW (isupG S (.str [c]) []) P := ⟨_, if_pos h, k⟩
theorem gw_sorted (k : P (.lst ((sortT xs).map D.str))) : GW (sortedG S [.lst (xs.map D.str)]) P := ⟨_, by
  show (match asSs (xs.map D.str) with | some ls => some (D.lst ((sortT ls).map D.str)) | none => none) = _
  rw [asSsMap], k⟩
theorem gw_sortedT (k : P (.lst ((sortT xs).map D.str))) : GW (sortedG S [.tup (xs.map D.str)]) P := ⟨_, by
  show (match asSs (xs.map D.str) with | some ls => some (D.lst ((sortT ls).map D.str)) | none => none) = _
  rw [asSsMap], k⟩
theorem gw_keys {ks : List Key} (k : P (.lst (ks.map kD))) : GW (list3G S [.dct ks ds]) P := ⟨_, rfl, k⟩
def kS (c : Nat) : Key := .inr (sOf [c])
theorem kS_inj {c e : Nat} (h : kS c = kS e) : c = e := by
  unfold kS at h
  injection h with h
  have := congrArg (fun s : Str => s.cps.toList) h
  simpa [sOf] using this
theorem lookK_map {α : Type} (f : Nat → D) : ∀ {l : List Nat}, c ∈ l → lookK (l.map kS) (l.map f) (kS c) = some (f c)
  | [], h => by simp at h
  | x :: l, h => by
    simp only [List.map_cons, lookK]
    by_cases e : x = c
    · subst e; simp
    · rw [if_neg (fun z => e (kS_inj z))]
      exact lookK_map (α := α) f ((List.mem_cons.mp h).resolve_left (fun z => e z.symm))
theorem gw_ixD (f : Nat → D) {l : List Nat} (h : c ∈ l) (k : P (f c)) : GW (ixG S (.dct (l.map kS) (l.map f)) (.str [c])) P := ⟨_, lookK_map (α := Nat) f h, k⟩
theorem gw_ixDl {ks : List Key} (h : S[n]? = some (.dct ks ds)) (h2 : lookK ks ds (kS c) = some d) (k : P d) : GW (ixG S (.loc n) (.str [c])) P := ⟨d, by
  have : asDct S (.loc n) = some (ks, ds) := by simp only [asDct, h]
  show (match asDct S (.loc n), keyD (.str [c]) with | some (ks, ds), some k => lookK ks ds k | _, _ => _) = _
  rw [this]
  exact h2, k⟩
theorem memK_map {l : List Nat} : memK (l.map kS) (kS c) = decide (c ∈ l) := by
  induction l with
  | nil => rfl
  | cons x l ih =>
    have e : memK ((x :: l).map kS) (kS c) = (decide (kS x = kS c) || memK (l.map kS) (kS c)) := rfl
    rw [e, ih]
    by_cases h : x = c
    · subst h; simp
    · have : kS x ≠ kS c := fun z => h (kS_inj z)
      have h' : c ≠ x := fun z => h z.symm
      simp [this, h, h']
theorem inB_dct {l : List Nat} (h : S[n]? = some (.dct (l.map kS) ds)) : inB S (.str [c]) (.loc n) = some (decide (c ∈ l)) := by
  have e1 : asQ S (.loc n) = none := by simp only [asQ, asL, asT, h]
  have e2 : asDct S (.loc n) = some (l.map kS, ds) := by simp only [asDct, h]
  unfold inB
  simp only [e1, e2]
  show some (memK (l.map kS) (kS c)) = _
  rw [memK_map]
theorem gb_ninD {l : List Nat} (h : S[n]? = some (.dct (l.map kS) ds)) (k : PB (!decide (c ∈ l))) : GW (asB (ninG S (.str [c]) (.loc n))) PB := ⟨_, by
  unfold ninG
  rw [inB_dct h]
  rfl, k⟩
theorem flVsMap : ∀ xs : List (List Nat), flVs (xs.map D.str) = some (xs.map fun l => V.str ⟨l.toArray⟩)
  | [] => rfl
  | x :: xs => by simp [flVs, flV, flVsMap xs]
theorem inV_strs : ∀ xs : List (List Nat), inV (V.str ⟨a.toArray⟩) (xs.map fun l => V.str ⟨l.toArray⟩) = decide (a ∈ xs)
  | [] => rfl
  | x :: xs => by
    have e : inV (V.str ⟨a.toArray⟩) ((x :: xs).map fun l => V.str ⟨l.toArray⟩) = (eqV (V.str ⟨x.toArray⟩) (V.str ⟨a.toArray⟩) || inV (V.str ⟨a.toArray⟩) (xs.map fun l => V.str ⟨l.toArray⟩)) := rfl
    rw [e, inV_strs xs]
    have e2 : eqV (V.str ⟨x.toArray⟩) (V.str ⟨a.toArray⟩) = decide (x = a) := by
      show decide ((⟨x.toArray⟩ : Str) = ⟨a.toArray⟩) = decide (x = a)
      by_cases h : x = a
      · subst h; simp
      · have : (⟨x.toArray⟩ : Str) ≠ ⟨a.toArray⟩ := fun z => h (by
          have := congrArg (fun s : Str => s.cps.toList) z
          simpa using this)
        simp [h, this]
    rw [e2]
    by_cases h : x = a
    · subst h; simp
    · have h' : ¬ a = x := fun z => h z.symm
      simp [h, h']
theorem inB_strs (h : asQ S d = some (xs.map D.str)) (hd : ∀ l, d ≠ .str l) : inB S (.str a) d = some (decide (a ∈ xs)) := by
  unfold inB
  split
  · exact absurd rfl (hd _)
  · rw [h]
    simp only [flV, flVsMap, inV_strs]
theorem gw_inL (k : P (.bl (decide (a ∈ xs)))) : GW (inG S (.str a) (.lst (xs.map D.str))) P := ⟨_, by unfold inG; rw [inB_strs (xs := xs) rfl (fun l h => by cases h)], k⟩
theorem gw_ninL (k : P (.bl (!decide (a ∈ xs)))) : GW (ninG S (.str a) (.lst (xs.map D.str))) P := ⟨_, by unfold ninG; rw [inB_strs (xs := xs) rfl (fun l h => by cases h)], k⟩
theorem gb_inL (k : PB (decide (a ∈ xs))) : GW (asB (inG S (.str a) (.lst (xs.map D.str)))) PB := ⟨_, by unfold inG; rw [inB_strs (xs := xs) rfl (fun l h => by cases h)]; rfl, k⟩
theorem gb_ninL (k : PB (!decide (a ∈ xs))) : GW (asB (ninG S (.str a) (.lst (xs.map D.str)))) PB := ⟨_, by unfold ninG; rw [inB_strs (xs := xs) rfl (fun l h => by cases h)]; rfl, k⟩
end
section
variable {δ : DEnv} {S : Store} {N B C : DEnv → Store → Prop} {R : D → Store → Prop} {X : Ex → DEnv → Store → Prop} {tg : Tg} {b : MS} {mi : DEnv → Store → Res Src}
end
section
variable {δ : DEnv} {S : Store} {Q : D → Store → Prop} {X : Ex → Store → Prop} {mi mi1 : DEnv → Store → Res Src} {tg tg1 : Tg} {tst tst1 : MB} {el : ME} {vs vs1 : List Nat}
theorem wp_compK {α : Type} (xs : List α) (en : α → D) (p : α → Bool) (h : wp (mi δ S) (fun src S1 => (∀ t, items (S1 ++ t) src = some (xs.map en)) ∧ xs.length ≤ 1000000 ∧
      (∀ x, x ∈ xs → ∀ acc, GW (bindT tg (en x) (wipeD δ vs)) fun δ1 => wp (tst δ1 (S1 ++ [.lst acc])) (fun c S2 => S2 = S1 ++ [.lst acc] ∧ c = p x ∧ (p x = true → wp (el δ1 (S1 ++ [.lst acc])) (fun y S3 => S3 = S1 ++ [.lst acc] ∧ y = en x ∧ okD 0 y = true) noX)) noX) ∧
      Q (.lst ((xs.filter p).map en)) S1) X) : wp (compM mi tg tst el vs δ S) Q X := by
  refine wp_compF xs en (fun x => if p x = true then some x else none) en (wp_q h fun src S1 h => ?_)
  obtain ⟨h1, h2, h3, h4⟩ := h
  refine ⟨h1, h2, fun x hx acc => ?_, ?_⟩
  · obtain ⟨δ1, e, hw⟩ := h3 x hx acc
    refine ⟨δ1, e, wp_q hw fun c S2 h => ?_⟩
    obtain ⟨rfl, rfl, h⟩ := h
    refine ⟨rfl, fun hp => wp_q (h hp) fun y S3 h => ?_, fun hp => if_neg (by rw [hp]; simp)⟩
    exact ⟨h.1, x, if_pos hp, h.2⟩
  · have : ∀ l : List α, l.filterMap (fun x => if p x = true then some x else none) = l.filter p := fun l => by
      induction l with
      | nil => rfl
      | cons x l ih =>
        rw [List.filterMap_cons, List.filter_cons]
        cases hp : p x <;> simp [hp, ih]
    rw [this]
    exact h4
end
section
variable {δ : DEnv} {S : Store} {Q : D → Store → Prop} {X : Ex → Store → Prop} {i n : Nat} {φ : Fn} {ms : MA} {C : Addr} {ns : List Str} {ds : List D} {d : D} {f m : Str}
theorem wp_fO (hv : δ[i]? = some (some (.obj C ns ds))) (hl : lookS ns ds f = some d) (k : Q d S) : wp (fldM C f (vM i) δ S) Q X := wp_fld (ns := []) (ds := []) (wp_v hv ⟨ns, ds, d, rfl, hl, k⟩)
theorem wp_mO (hv : δ[i]? = some (some (.obj C ns ds))) (hm : lookS ns ds m = none) (k : wp (ms δ S) (fun xs S2 => (D.obj C ns ds :: (xs ++ [])).length = n ∧ wp (φ (.obj C ns ds :: (xs ++ [])) S2) Q X) X) : wp (methM C m n φ (vM i) ms [] δ S) Q X := wp_meth (wp_v hv ⟨ns, ds, rfl, hm, k⟩)
end
section
variable {δ : DEnv} {S : Store} {N B C : DEnv → Store → Prop} {R : D → Store → Prop} {X : Ex → DEnv → Store → Prop}
end
section
variable {δ : DEnv} {S : Store} {Q : D → Store → Prop} {X : Ex → Store → Prop} {i n : Nat} {ns : List Str} {ds : List D} {d : D} {f : Str}
end
theorem toPys_strs : ∀ xs : List (List Nat), toPys (xs.map D.str) = some (xs.map fun l => PyData.str ⟨l.toArray⟩)
  | [] => rfl
  | x :: xs => by simp [toPys, toPy, toPys_strs xs]
theorem canLay_strs : ∀ {xs : List (List Nat)}, (∀ l ∈ xs, ∀ c ∈ l, c < 128) → PyData.canLayAll0 (xs.map fun l => PyData.str ⟨l.toArray⟩) = true
  | [], _ => rfl
  | x :: xs, h => by
    have ih := canLay_strs (xs := xs) fun l hl => h l (List.mem_cons_of_mem _ hl)
    have hx := h x (by simp)
    rw [List.map_cons, PyData.canLayAll0, ih, Bool.and_true]
    show (x.toArray).all (· < 0x110000) = true
    rw [List.all_toArray]
    exact List.all_eq_true.mpr fun c hc => decide_eq_true (by have := hx c hc; omega)
theorem depth_strs : ∀ xs : List (List Nat), PyData.depthAll (xs.map fun l => PyData.str ⟨l.toArray⟩) = 0
  | [] => rfl
  | x :: xs => by
    rw [List.map_cons, PyData.depthAll, depth_strs xs]
    rfl
def LsS (S : Store) (d : D) (xs : List (List Nat)) : Prop := toPyS S d = some (.list (xs.map fun l => PyData.str ⟨l.toArray⟩)) ∧ (∀ l, d ≠ .str l) ∧ ∀ i, d ≠ .int i
theorem LsS.lst {S : Store} (xs : List (List Nat)) : LsS S (.lst (xs.map D.str)) xs := ⟨by show toPy _ = _; rw [toPy, toPys_strs], (fun _ h => by cases h), fun _ h => by cases h⟩
theorem LsS.loc {S : Store} {n : Nat} {xs : List (List Nat)} (h : S[n]? = some (.lst (xs.map D.str))) : LsS S (.loc n) xs := ⟨by simp only [toPyS, asL, h, toPys_strs], (fun _ h => by cases h), fun _ h => by cases h⟩
theorem LsS.nil {S : Store} : LsS S (.lst []) [] := LsS.lst []
end SL
namespace SL
open PySem PySem.Spec L2
open PyProof.Rows hiding St
section
variable {X : Cx} {W : WX} {e o : Expr} {es : List Expr} {ms : MA} {mo mk md : ME} {x : Str} {p pos : Pos}
def getV (S : Store) (x y : D) (z : D) : Option D := match asDct S x, keyD y with
  | some (ks, ds), some k => some ((lookK ks ds k).getD z)
  | _, _ => none
theorem lookK_none : ∀ {ks : List Key} {ds : List D} {vs : List V} {q : Key}, ks.length = ds.length → ds.length = vs.length → lookK ks ds q = none → valV (ks.zip vs) q = none
  | [], _, _, _, _, _, _ => by simp [valV]
  | k :: ks, [], _, _, h, _, _ => by cases h
  | k :: ks, d :: ds, [], _, _, h, _ => by cases h
  | k :: ks, d :: ds, v :: vs, q, h1, h2, h => by
    rw [List.zip_cons_cons]
    unfold lookK at h
    split at h
    · cases h
    · rename_i e
      have ih := lookK_none (ks := ks) (ds := ds) (vs := vs) (q := q) (by simpa using h1) (by simpa using h2) h
      have e' : ¬ ((k, v) : Key × V).1 = q := e
      unfold valV at ih ⊢
      rw [List.find?_cons_of_neg (by simpa using e')]
      exact ih
theorem getV_rep {H : Hp} {ρ : List Addr} {S : Store} {x y z d : D} {v u w : V} (st : StS H S ρ) (rx : Rep H ρ x v) (ry : Rep H ρ y u) (rz : Rep H ρ z w) (h : getV S x y z = some d) :
    ∃ a o, v = .ref a ∧ DGet H a u o ∧ Rep H ρ d (o.getD w) := by
  unfold getV at h
  split at h
  · rename_i ks ds k e1 e2
    cases h
    obtain ⟨a, vs, rfl, hr, l, rv⟩ := asDct_rep st rx e1
    have hu := keyD_rep ry e2
    subst hu
    refine ⟨a, valV (ks.zip vs) k, rfl, .inl ⟨_, k, hr, rfl, rfl⟩, ?_⟩
    cases el : lookK ks ds k with
    | none =>
      rw [lookK_none l rv.len el]
      exact rz
    | some d' =>
      obtain ⟨v', e3, r3⟩ := lookK_rep rv el
      rw [e3]
      exact r3
  · cases h
def isDct (S : Store) (x : D) : Bool := (asDct S x).isSome
theorem isDct_rep {H : Hp} {ρ : List Addr} {S : Store} {x : D} {v : V} (st : StS H S ρ) (rx : Rep H ρ x v) (h : isDct S x = true) : ∃ a, v = .ref a ∧ IsD H a := by
  obtain ⟨⟨ks, ds⟩, e⟩ := Option.isSome_iff_exists.mp h
  obtain ⟨a, vs, rfl, hr, _, _⟩ := asDct_rep st rx e
  exact ⟨a, rfl, .inl ⟨_, hr⟩⟩
def get1M (mo mk : ME) : ME := fun δ S => (mo δ S).bind fun x S1 => if isDct S1 x = true then (mk δ S1).bind fun y S2 => RO (getV S2 x y .non) S2 else .stuck
variable {f : Expr} {apos cpos : Pos}
theorem pd_get1 (hu : X.A.units + 1 < cLine) (ho : PE X o (tE W mo)) (he : PE X e (tE W mk)) (m : M1 X o "get" apos e cpos := by exact ⟨rfl, rfl, rfl, rfl⟩) :
    PE X (.Call (.Attribute o "get" apos) [e] [] cpos) (tE W (get1M mo mk)) :=
  PE.weak (pe_dget1 hu ho he m) fun σ H Q h => by
    obtain ⟨δ, S, ρ, I, h⟩ := h
    refine bindG I h fun xd v S1 H1 ρ1 n1 I1 r1 h1 => ?_
    split at h1
    · rename_i hd
      obtain ⟨a, rfl, hi⟩ := isDct_rep I1.st r1 hd
      refine ⟨a, rfl, hi, ?_⟩
      refine bindG I1 h1 fun y u S2 H2 ρ2 n2 I2 r2 h2 => ?_
      obtain ⟨d, eg, q⟩ := RunG.ro h2
      obtain ⟨a', o', e1, g, r⟩ := getV_rep (z := .non) (w := .non) I2.st (Rep.mono n2 _ _ r1) r2 rfl eg
      cases e1
      exact ⟨o', g, q _ _ _ (Nx.refl _ _) I2.st r⟩
    · exact False.elim h1
end
section
variable {X : Cx} {W : WX} {G : Ends} {H H' : Hp} {ρ ρ' : List Addr} {σ σ' : St} {δ δ' : DEnv} {S S' : Store} {m : MS}
end
theorem PS.or {X : Cx} {st : Stmt} {t t' : TS} (h : PS X st t) (h' : PS X st t') : PS X st (fun G σ H => t G σ H ∨ t' G σ H) := ⟨fun pins s σ H D I q => q.elim (h.run pins s σ H D I) (h'.run pins s σ H D I)⟩
section
variable {X : Cx} {W : WX} {tge : Expr} {body : List Stmt} {t : Tg} {m : MS} {pos p : Pos} {x : Str} {i : Nat}
end
section
variable {P : Program} {w : World} {K : PySem.W.Frag} {mg : Str → Option Value} {base : Heap} {k : Nat} {f : Addr} {fd : FuncData} {x qual : Str} {params : Arguments} {body : List Stmt} {scope : Scope} {dvs : List V} {kws : List (Str × V)} {N ps : List Str} {m : MS}
end
theorem units1 {u : Nat} (h : u + 64 < cLine) : u + 1 < cLine := by omega
section
variable {S : Store} {Q : D → Store → Prop} {X : Ex → Store → Prop}
theorem wp_get1 {δ : DEnv} {mo mk : ME} (h : wp (mo δ S) (fun x S1 => isDct S1 x = true ∧ wp (mk δ S1) (fun y S2 => GW (getV S2 x y .non) fun d => Q d S2) X) X) : wp (get1M mo mk δ S) Q X := wp_bind (wp_q h fun x S1 h => by
  rw [if_pos h.1]
  exact wp_bind (wp_q h.2 fun y S2 h => wp_RO h))
end
section
variable {δ : DEnv} {S : Store} {m : MS} {i : Nat} {N B C : DEnv → Store → Prop} {R : D → Store → Prop} {X : Ex → DEnv → Store → Prop}
end
end SL
namespace ZX
open PySem PySem.Spec PyProof.Rows L2
section
variable {prog : Program} {w : World} {A : Around} {E : Value → Shared → Prop} {s : Shared} {z TI TO i1 i2 T : Addr} {fp1 fp2 : List Addr} {n1 n2 i : Nat} {P1 P2 : Nat → Value → Prop} {St1 St2 : Nat → Heap → Prop} {a1 a2 : Value} {f : Bool} {oT : Obj}
structure ZL (z TI TO i1 i2 L : Addr) (St1 St2 : Nat → Heap → Prop) (i : Nat) (h : Heap) : Prop where
  ti : IsTupOf2 h TI (.ref i1) (.ref i2)
  s1 : St1 i h
  s2 : St2 i h
  to : ∃ o, h.get? TO = some o
  zz : (IsZip h z TI TO .none ∧ ∃ a b, IsTupOf2 h TO a b) ∨ ∃ T f oT, IsZipHeld h z TI TO T f ∧ h.get? T = some oT ∧ T ≠ z ∧ T ≠ i1 ∧ T ≠ i2 ∧ T ≠ L
structure AccZ (z TO i1 i2 L : Addr) (P1 P2 : Nat → Value → Prop) (h : Heap) (acc : Array Value) (i : Nat) : Prop where
  sz : acc.size = i
  it : ∀ j v, acc[j]? = some v → ∃ T x1 x2, v = .ref T ∧ P1 j x1 ∧ P2 j x2 ∧ IsTupOf2 h T x1 x2 ∧ T ≠ z ∧ T ≠ TO ∧ T ≠ i1 ∧ T ≠ i2 ∧ T ≠ L
structure OffZ (z TI TO i1 i2 L : Addr) (fp1 fp2 : List Addr) : Prop where
  z : L ≠ z
  TI : L ≠ TI
  TO : L ≠ TO
  i1 : L ≠ i1
  i2 : L ≠ i2
  f1 : L ∉ fp1
  f2 : L ∉ fp2
theorem AccZ.keep {L : Addr} {h h' : Heap} {acc : Array Value} {i : Nat} (a : AccZ z TO i1 i2 L P1 P2 h acc i) (k : ∀ c o, c ≠ z → c ≠ TO → c ≠ i1 → c ≠ i2 → c ≠ L → h.get? c = some o → h'.get? c = some o) : AccZ z TO i1 i2 L P1 P2 h' acc i :=
  ⟨a.sz, fun j v e => let ⟨T, x1, x2, e1, p1, p2, t, t1, t2, t3, t4, t5⟩ := a.it j v e; ⟨T, x1, x2, e1, p1, p2, k _ _ t1 t2 t3 t4 t5 t, t1, t2, t3, t4, t5⟩⟩
theorem AccZ.push {L : Addr} {h : Heap} {acc : Array Value} {i : Nat} {x1 x2 : Value} (a : AccZ z TO i1 i2 L P1 P2 h acc i) (p1 : P1 i x1) (p2 : P2 i x2) (t : IsTupOf2 h T x1 x2) (t1 : T ≠ z) (t2 : T ≠ TO) (t3 : T ≠ i1) (t4 : T ≠ i2) (t5 : T ≠ L) : AccZ z TO i1 i2 L P1 P2 h (acc.push (.ref T)) (i + 1) := by
  refine ⟨by rw [Array.size_push, a.sz], fun j v e => ?_⟩
  rw [Array.getElem?_push] at e
  split at e
  · rename_i hj
    have hj : j = i := by rw [hj, a.sz]
    subst hj
    cases e
    exact ⟨T, x1, x2, rfl, p1, p2, t, t1, t2, t3, t4, t5⟩
  · exact a.it j v e
end
end ZX
namespace SL
open PySem PySem.Spec L2 ZX
open PyProof.Rows hiding St
section
variable {X : Cx} {W : WX} {a b : Expr} {ma mb : ME} {p1 p2 p3 pos1 pos2 pos3 : Pos}
end
end SL
namespace NC
open PySem PySem.Spec L2 SL
end NC
namespace SL
open PySem PySem.Spec L2
open PyProof.Rows hiding St
section
variable {X : Cx}
end
end SL
namespace SL
open PySem PySem.Spec L2
def Pi : Nat → D → Prop
  | _, .non => True
  | _, .int _ => True
  | _, .str l => ∀ c ∈ l, c < 128
  | n + 1, .tup xs => ∀ x ∈ xs, Pi n x
  | n + 1, .lst xs => ∀ x ∈ xs, Pi n x
  | _, _ => False
noncomputable def cB (p : Prop) : Bool := @decide p (Classical.propDecidable p)
theorem cB_iff {p : Prop} : cB p = true ↔ p := by
  unfold cB
  rw [@decide_eq_true_eq p (Classical.propDecidable p)]
theorem cB_eq {p : Prop} [Decidable p] : cB p = decide p := by
  rw [Bool.eq_iff_iff, cB_iff, decide_eq_true_eq]
theorem cB_t {p : Prop} (h : p) : cB p = true := cB_iff.mpr h
theorem cB_f {p : Prop} (h : ¬ p) : cB p = false := by
  rw [← Bool.not_eq_true]
  exact fun z => h (cB_iff.mp z)
theorem cB_congr {p q : Prop} (h : p ↔ q) : cB p = cB q := by
  rw [Bool.eq_iff_iff, cB_iff, cB_iff, h]
theorem strOk_of {l : List Nat} (h : ∀ c ∈ l, c < 128) : PyData.canLay0 (.str ⟨l.toArray⟩) = true := by
  have := canLay_strs (xs := [l]) fun x hx => by rw [List.mem_singleton.mp hx]; exact h
  rw [List.map_cons, List.map_nil, PyData.canLayAll0, PyData.canLayAll0, Bool.and_true] at this
  exact this
mutual
theorem Pi.py : ∀ (n : Nat) (d : D), Pi n d → ∃ p, toPy d = some p ∧ PyData.canLay0 p = true ∧ p.depth ≤ n
  | n, .non, h => ⟨_, rfl, rfl, Nat.zero_le _⟩
  | n, .int i, h => ⟨_, rfl, rfl, Nat.zero_le _⟩
  | n, .str l, h => ⟨_, rfl, strOk_of (by cases n <;> exact h), Nat.zero_le _⟩
  | n + 1, .tup xs, h => by
    obtain ⟨ps, e, c, dp⟩ := Pi.pys n xs h
    exact ⟨.tuple ps, by rw [toPy, e], by rw [PyData.canLay0]; exact c, by rw [PyData.depth]; omega⟩
  | n + 1, .lst xs, h => by
    obtain ⟨ps, e, c, dp⟩ := Pi.pys n xs h
    exact ⟨.list ps, by rw [toPy, e], by rw [PyData.canLay0]; exact c, by rw [PyData.depth]; omega⟩
  | 0, .tup _, h => h.elim
  | 0, .lst _, h => h.elim
  | 0, .bl _, h => h.elim
  | 0, .dct _ _, h => h.elim
  | 0, .obj _ _ _, h => h.elim
  | 0, .loc _, h => h.elim
  | 0, .raw _, h => h.elim
  | 0, .exn _ _ _ _, h => h.elim
  | _ + 1, .bl _, h => h.elim
  | _ + 1, .dct _ _, h => h.elim
  | _ + 1, .obj _ _ _, h => h.elim
  | _ + 1, .loc _, h => h.elim
  | _ + 1, .raw _, h => h.elim
  | _ + 1, .exn _ _ _ _, h => h.elim
theorem Pi.pys : ∀ (n : Nat) (xs : List D), (∀ x ∈ xs, Pi n x) → ∃ ps, toPys xs = some ps ∧ PyData.canLayAll0 ps = true ∧ PyData.depthAll ps ≤ n
  | n, [], h => ⟨[], rfl, rfl, Nat.zero_le _⟩
  | n, x :: xs, h => by
    obtain ⟨p, e1, c1, d1⟩ := Pi.py n x (h x (List.mem_cons_self ..))
    obtain ⟨ps, e2, c2, d2⟩ := Pi.pys n xs fun y hy => h y (List.mem_cons_of_mem _ hy)
    exact ⟨p :: ps, by simp only [toPys, e1, e2], by rw [PyData.canLayAll0, c1, c2]; rfl, by rw [PyData.depthAll]; omega⟩
end
theorem strEq_iff {x y : List Nat} : (⟨x.toArray⟩ : Str) = ⟨y.toArray⟩ ↔ x = y := ⟨fun z => by
  have := congrArg (fun s : Str => s.cps.toList) z
  simpa using this, fun h => by rw [h]⟩
mutual
theorem Pi.eqv : ∀ (n m : Nat) (d e : D) (p q : PyData), Pi n d → Pi m e → toPy d = some p → toPy e = some q → (PyData.eqv p q = true ↔ d = e)
  | n, m, d, e, p, q, hd, he, h1, h2 => by
    cases d with
    | non =>
      cases h1
      cases e with
      | non => cases h2; simp [PyData.eqv]
      | int j => cases h2; simp [PyData.eqv]
      | str l => cases h2; simp [PyData.eqv]
      | tup ys =>
        cases m with
        | zero => exact he.elim
        | succ m =>
          obtain ⟨qs, e2, _, _⟩ := Pi.pys m ys he
          rw [toPy, e2] at h2
          cases h2
          simp [PyData.eqv]
      | lst ys =>
        cases m with
        | zero => exact he.elim
        | succ m =>
          obtain ⟨qs, e2, _, _⟩ := Pi.pys m ys he
          rw [toPy, e2] at h2
          cases h2
          simp [PyData.eqv]
      | _ => cases m <;> exact he.elim
    | int i =>
      cases h1
      cases e with
      | non => cases h2; simp [PyData.eqv]
      | int j => cases h2; simp [PyData.eqv]
      | str l => cases h2; simp [PyData.eqv]
      | tup ys =>
        cases m with
        | zero => exact he.elim
        | succ m =>
          obtain ⟨qs, e2, _, _⟩ := Pi.pys m ys he
          rw [toPy, e2] at h2
          cases h2
          simp [PyData.eqv]
      | lst ys =>
        cases m with
        | zero => exact he.elim
        | succ m =>
          obtain ⟨qs, e2, _, _⟩ := Pi.pys m ys he
          rw [toPy, e2] at h2
          cases h2
          simp [PyData.eqv]
      | _ => cases m <;> exact he.elim
    | str k =>
      cases h1
      cases e with
      | non => cases h2; simp [PyData.eqv]
      | int j => cases h2; simp [PyData.eqv]
      | str l =>
        cases h2
        rw [PyData.eqv, beq_iff_eq, strEq_iff]
        exact ⟨fun h => by rw [h], fun h => by cases h; rfl⟩
      | tup ys =>
        cases m with
        | zero => exact he.elim
        | succ m =>
          obtain ⟨qs, e2, _, _⟩ := Pi.pys m ys he
          rw [toPy, e2] at h2
          cases h2
          simp [PyData.eqv]
      | lst ys =>
        cases m with
        | zero => exact he.elim
        | succ m =>
          obtain ⟨qs, e2, _, _⟩ := Pi.pys m ys he
          rw [toPy, e2] at h2
          cases h2
          simp [PyData.eqv]
      | _ => cases m <;> exact he.elim
    | tup xs =>
      cases n with
      | zero => exact hd.elim
      | succ n =>
        obtain ⟨ps, e1, _, _⟩ := Pi.pys n xs hd
        rw [toPy, e1] at h1
        cases h1
        cases e with
        | non => cases h2; simp [PyData.eqv]
        | int j => cases h2; simp [PyData.eqv]
        | str l => cases h2; simp [PyData.eqv]
        | tup ys =>
          cases m with
          | zero => exact he.elim
          | succ m =>
            obtain ⟨qs, e2, _, _⟩ := Pi.pys m ys he
            rw [toPy, e2] at h2
            cases h2
            rw [PyData.eqv, Pi.eqvs n m xs ys ps qs hd he e1 e2]
            exact ⟨fun h => by rw [h], fun h => by cases h; rfl⟩
        | lst ys =>
          cases m with
          | zero => exact he.elim
          | succ m =>
            obtain ⟨qs, e2, _, _⟩ := Pi.pys m ys he
            rw [toPy, e2] at h2
            cases h2
            simp [PyData.eqv]
        | _ => cases m <;> exact he.elim
    | lst xs =>
      cases n with
      | zero => exact hd.elim
      | succ n =>
        obtain ⟨ps, e1, _, _⟩ := Pi.pys n xs hd
        rw [toPy, e1] at h1
        cases h1
        cases e with
        | non => cases h2; simp [PyData.eqv]
        | int j => cases h2; simp [PyData.eqv]
        | str l => cases h2; simp [PyData.eqv]
        | tup ys =>
          cases m with
          | zero => exact he.elim
          | succ m =>
            obtain ⟨qs, e2, _, _⟩ := Pi.pys m ys he
            rw [toPy, e2] at h2
            cases h2
            simp [PyData.eqv]
        | lst ys =>
          cases m with
          | zero => exact he.elim
          | succ m =>
            obtain ⟨qs, e2, _, _⟩ := Pi.pys m ys he
            rw [toPy, e2] at h2
            cases h2
            rw [PyData.eqv, Pi.eqvs n m xs ys ps qs hd he e1 e2]
            exact ⟨fun h => by rw [h], fun h => by cases h; rfl⟩
        | _ => cases m <;> exact he.elim
    | _ => cases n <;> exact hd.elim
theorem Pi.eqvs : ∀ (n m : Nat) (xs ys : List D) (ps qs : List PyData), (∀ x ∈ xs, Pi n x) → (∀ x ∈ ys, Pi m x) → toPys xs = some ps → toPys ys = some qs → (PyData.eqvAll ps qs = true ↔ xs = ys)
  | n, m, [], [], ps, qs, _, _, h1, h2 => by cases h1; cases h2; simp [PyData.eqvAll]
  | n, m, [], y :: ys, ps, qs, _, he, h1, h2 => by
    cases h1
    obtain ⟨qs', e2, _, _⟩ := Pi.pys m _ he
    rw [e2] at h2
    cases h2
    obtain ⟨p, e3, _, _⟩ := Pi.py m y (he y (List.mem_cons_self ..))
    obtain ⟨ps, e4, _, _⟩ := Pi.pys m ys fun y hy => he y (List.mem_cons_of_mem _ hy)
    simp only [toPys, e3, e4] at e2
    cases e2
    simp [PyData.eqvAll]
  | n, m, x :: xs, [], ps, qs, hd, _, h1, h2 => by
    cases h2
    obtain ⟨p, e3, _, _⟩ := Pi.py n x (hd x (List.mem_cons_self ..))
    obtain ⟨ps', e4, _, _⟩ := Pi.pys n xs fun y hy => hd y (List.mem_cons_of_mem _ hy)
    simp only [toPys, e3, e4] at h1
    cases h1
    simp [PyData.eqvAll]
  | n, m, x :: xs, y :: ys, ps, qs, hd, he, h1, h2 => by
    obtain ⟨p, e3, _, _⟩ := Pi.py n x (hd x (List.mem_cons_self ..))
    obtain ⟨ps', e4, _, _⟩ := Pi.pys n xs fun y hy => hd y (List.mem_cons_of_mem _ hy)
    obtain ⟨q, e5, _, _⟩ := Pi.py m y (he y (List.mem_cons_self ..))
    obtain ⟨qs', e6, _, _⟩ := Pi.pys m ys fun y hy => he y (List.mem_cons_of_mem _ hy)
    simp only [toPys, e3, e4] at h1
    simp only [toPys, e5, e6] at h2
    cases h1
    cases h2
    rw [PyData.eqvAll, Bool.and_eq_true, Pi.eqv n m x y p q (hd x (List.mem_cons_self ..)) (he y (List.mem_cons_self ..)) e3 e5, Pi.eqvs n m xs ys ps' qs' (fun y hy => hd y (List.mem_cons_of_mem _ hy)) (fun y hy => he y (List.mem_cons_of_mem _ hy)) e4 e6]
    simp
end
def At (S : Store) (x d : D) : Prop := x = d ∨ ∃ m xs, x = .loc m ∧ S[m]? = some (.lst xs) ∧ d = .lst xs
theorem At.rf {S : Store} {d : D} : At S d d := .inl rfl
theorem At.loc {S : Store} {m : Nat} {xs : List D} (h : S[m]? = some (.lst xs)) : At S (.loc m) (.lst xs) := .inr ⟨m, xs, rfl, h, rfl⟩
theorem At.py {S : Store} {x d : D} {n : Nat} (h : At S x d) (p : Pi n d) : toPyS S x = toPy d := by
  rcases h with rfl | ⟨m, xs, rfl, h, rfl⟩
  · cases x <;> first | rfl | (cases n <;> exact p.elim)
  · simp only [toPyS, asL, h]
    rfl
theorem eqB_data {S : Store} {x y d e : D} {n m : Nat} (hx : At S x d) (hy : At S y e) (h1 : Pi n d) (h2 : Pi m e) (hn : n ≤ 60 := by omega) (hm : m ≤ 60 := by omega) : eqB S x y = some (cB (d = e)) := by
  obtain ⟨p, e1, c1, d1⟩ := Pi.py n d h1
  obtain ⟨q, e2, c2, d2⟩ := Pi.py m e h2
  have key : (match toPyS S x, toPyS S y with
    | some p, some q => if SeqAt.shaped p = true ∧ SeqAt.shaped q = true then some (PyData.eqv p q) else none
    | _, _ => none) = some (cB (d = e)) := by
    rw [hx.py h1, hy.py h2, e1, e2]
    simp only
    have s1 : SeqAt.shaped p = true := by
      unfold SeqAt.shaped
      rw [c1, Bool.true_and]
      exact decide_eq_true (by omega)
    have s2 : SeqAt.shaped q = true := by
      unfold SeqAt.shaped
      rw [c2, Bool.true_and]
      exact decide_eq_true (by omega)
    rw [if_pos ⟨s1, s2⟩]
    congr 1
    rw [Bool.eq_iff_iff, cB_iff]
    exact Pi.eqv n m d e p q h1 h2 e1 e2
  unfold eqB
  split
  · rename_i a b
    obtain rfl : d = .str a := by
      rcases hx with h | ⟨_, _, h, _⟩
      · exact h.symm
      · cases h
    obtain rfl : e = .str b := by
      rcases hy with h | ⟨_, _, h, _⟩
      · exact h.symm
      · cases h
    rw [← cB_eq]
    exact congrArg some (cB_congr ⟨fun h => by rw [h], fun h => by cases h; rfl⟩)
  · rename_i a b
    obtain rfl : d = .int a := by
      rcases hx with h | ⟨_, _, h, _⟩
      · exact h.symm
      · cases h
    obtain rfl : e = .int b := by
      rcases hy with h | ⟨_, _, h, _⟩
      · exact h.symm
      · cases h
    rw [← cB_eq]
    exact congrArg some (cB_congr ⟨fun h => by rw [h], fun h => by cases h; rfl⟩)
  · exact key
section
variable {S : Store} {x y d e : D} {n m : Nat} {P : D → Prop} {PB : Bool → Prop}
theorem gw_eqD (n m : Nat) (hx : At S x d) (hy : At S y e) (h1 : Pi n d) (h2 : Pi m e) (k : P (.bl (cB (d = e)))) (hn : n ≤ 60 := by omega) (hm : m ≤ 60 := by omega) : GW (eqG S x y) P := ⟨_, by unfold eqG; rw [eqB_data hx hy h1 h2], k⟩
theorem gb_neD (n m : Nat) (hx : At S x d) (hy : At S y e) (h1 : Pi n d) (h2 : Pi m e) (k : PB (!cB (d = e))) (hn : n ≤ 60 := by omega) (hm : m ≤ 60 := by omega) : GW (asB (neG S x y)) PB := ⟨_, by unfold neG; rw [eqB_data hx hy h1 h2]; rfl, k⟩
theorem Pi.up : ∀ {n : Nat} {d : D}, Pi n d → Pi (n + 1) d
  | n, .non, _ => trivial
  | n, .int _, _ => trivial
  | 0, .str _, h => h
  | n + 1, .str _, h => h
  | n + 1, .tup xs, h => fun x hx => Pi.up (h x hx)
  | n + 1, .lst xs, h => fun x hx => Pi.up (h x hx)
  | 0, .tup _, h => h.elim
  | 0, .lst _, h => h.elim
  | 0, .bl _, h => h.elim
  | 0, .dct _ _, h => h.elim
  | 0, .obj _ _ _, h => h.elim
  | 0, .loc _, h => h.elim
  | 0, .raw _, h => h.elim
  | 0, .exn _ _ _ _, h => h.elim
  | _ + 1, .bl _, h => h.elim
  | _ + 1, .dct _ _, h => h.elim
  | _ + 1, .obj _ _ _, h => h.elim
  | _ + 1, .loc _, h => h.elim
  | _ + 1, .raw _, h => h.elim
  | _ + 1, .exn _ _ _ _, h => h.elim
theorem Pi.map {α : Type} {f : α → D} {xs : List α} (h : ∀ x ∈ xs, Pi n (f x)) : Pi (n + 1) (.lst (xs.map f)) := fun d hd => by
  obtain ⟨x, hx, rfl⟩ := List.mem_map.mp hd
  exact h x hx
theorem Pi.s {l : List Nat} (h : ∀ c ∈ l, c < 128) : Pi n (.str l) := by cases n <;> exact h
theorem Pi.i {j : Int} : Pi n (.int j) := by cases n <;> exact trivial
theorem Pi.nil : Pi (n + 1) (.lst []) := fun _ h => by cases h
theorem Pi.nilT : Pi (n + 1) (.tup []) := fun _ h => by cases h
theorem Pi.cons {xs : List D} (h : Pi n d) (k : Pi (n + 1) (.lst xs)) : Pi (n + 1) (.lst (d :: xs)) := fun x hx => by
  rcases List.mem_cons.mp hx with rfl | hx
  · exact h
  · exact k x hx
theorem Pi.consT {xs : List D} (h : Pi n d) (k : Pi (n + 1) (.tup xs)) : Pi (n + 1) (.tup (d :: xs)) := fun x hx => by
  rcases List.mem_cons.mp hx with rfl | hx
  · exact h
  · exact k x hx
end
section
variable {S : Store} {x y d : D} {es : List D} {n m : Nat} {P : D → Prop} {PB : Bool → Prop}
end
end SL
namespace NC
open PySem PySem.Spec L2 SL
noncomputable def m_law_strange (A : Ad) (φlaw_letters : Fn) : MS := (retM (op2M ixG (compM (srcV (appM 0 φlaw_letters nilM [])) (.nm 1) (cmpB ninG (vM 1) (vM 0)) (vM 1) [1]) (cM (.int 0))))
noncomputable def φlaw_strange (A : Ad) : Fn := defM 2 (m_law_strange A (φlaw_letters A))
end NC
namespace SL
open PySem PySem.Spec L2
open PyProof.Rows hiding St
def TestAs (X : Cx) (te : Expr) (any : Value → Option Bool) : Prop := ∀ (a : Addr) (oe : Obj) (pn : List (Addr × Obj)) (σ : L2.St) (H : Hp) (s : Shared) (cls : Value) (b : Bool), Inv (X.suite a ((a, oe) :: pn)) [] σ H s →
  s.heap.get? a = some oe → oe.cls = cls → any cls = some b → ∀ {Q : Bool → Shared → Prop} {E : Value → Shared → Prop}, (∀ h', (∀ c o, s.heap.get? c = some o → h'.get? c = some o) → Q b { s with heap := h' }) →
  wpAny (model X.prog X.w) (X.A.mark (some (.ref a))) (eval te X.env) (fun v s1 => wpAny (model X.prog X.w) (X.A.mark (some (.ref a))) (excMatches (.ref a) v) Q E s1) E s
theorem flz_keeps {base h h' : Heap} {l : List Env} {e : Addr} {Z : Obj → Prop} (x : HandSPX.FlyingZ base l e Z h) (k : ∀ b o, h.get? b = some o → h'.get? b = some o) : HandSPX.FlyingZ base l e Z h' := by
  obtain ⟨y1, y2, y3, oz, ws, T, oT, tz, z1, z2, z3, z4, z5, z6, z7, z8, z9⟩ := x
  exact ⟨fun b o q => k b o (y1 b o q), y2, y3.of_keeps fun b o q _ => ⟨o, k b o q, rfl⟩, oz, ws, T, oT, tz, k _ _ z1, z2, z3, z4, z5, z6, k _ _ z7, z8, z9⟩
theorem looks_cls {X : Cx} {h : Heap} {a : Addr} {oe : Obj} {cls : Value} (he : h.get? a = some oe) (hc : oe.cls = cls) : PySem.W.Looks (model X.prog X.w) h (typeOf (.ref a)) cls := fun A Q E s k q => wpAny_typeOf_ref (k _ _ he) (by rw [hc]; exact q)
theorem test_as3 {X : Cx} {x1 x2 x3 : Str} {c1 c2 c3 : Value} {p1 p2 p3 p : Pos} {k : Nat} (g1 : Gl X x1) (g2 : Gl X x2) (g3 : Gl X x3) (m1 : X.mg x1 = some c1) (m2 : X.mg x2 = some c2) (m3 : X.mg x3 = some c3) (d1 : (x1 == ("__debug__" : Str)) = false) (d2 : (x2 == ("__debug__" : Str)) = false) (d3 : (x3 == ("__debug__" : Str)) = false) :
    TestAs X (.Tuple [.Name x1 p1, .Name x2 p2, .Name x3 p3] k p) (fun cls => PySem.W.exmAny X.K cls [c1, c2, c3]) := by
  intro a oe pn σ H s cls b I he hcl hany Q E q
  have kk : ∀ c o, s.heap.get? c = some o → (s.heap.push { cls := .type "tuple", data := .seq [c1, c2, c3].toArray }).get? c = some o := fun _ _ z => Heap.get?_push_of_some _ z
  refine wpAny_Tuple (wpAny_items_cons (ld_glob (X := X.suite a ((a, oe) :: pn)) I g1 m1 ?_ d1))
  refine wpAny_items_cons (ld_glob (X := X.suite a ((a, oe) :: pn)) I g2 m2 ?_ d2)
  refine wpAny_items_cons (ld_glob (X := X.suite a ((a, oe) :: pn)) I g3 m3 ?_ d3)
  refine wpAny_items_nil ⟨by rw [sizeLine_eq]; simp, ?_⟩
  exact (PySem.W.exm_tup3 (I.kIn.keeps kk) ((looks_cls (X := X) he hcl).keeps kk) (Heap.get?_push_size s.heap rfl) hany).here (q _ kk)
section
variable {X : Cx} {te : Expr} {any : Value → Option Bool} {n : Str} {i : Nat} {body suite : List Stmt} {b₀ : Stmt} {pos pos' : Pos} {tb : WX → TS} {ts : Addr → Value → Option Addr → TS} {Wout : WX} {D : Ends} {pins : List (Addr × Obj)}
def endsT (i : Nat) (D : Ends) : Ends := { nx := fun σ' H' => D.nx (σ'.set i none) H', rt := D.rt, bk := fun σ' H' => D.bk (σ'.set i none) H', ct := fun σ' H' => D.ct (σ'.set i none) H' }
def wAsT (any : Value → Option Bool) (i : Nat) (ts : Addr → Value → Option Addr → TS) (Wout : WX) (D : Ends) : WX := fun cls d σ H =>
  ∃ b, any cls = some b ∧ (b = true → ∀ a, H a = none → ts a cls d (endsT i D) (σ.set i (some (.ref a))) H) ∧ (b = false → Wout cls d σ H)
theorem catchT (test : TestAs X te any) (hs : X.stack = X.env :: X.outer) (hf : X.env.frame = some X.env.locals) (hN : X.N.Nodup) (hi : X.N[i]? = some n) (hln : X.env.kindOf n = some .local) (tk : Takes X Wout) (ok : X.Ok) (hfr : X.A.frames = some (X.env :: X.outer))
    (hsu : ∀ (a : Addr) (oe : Obj) (cls : Value) (d : Option Addr) (pn : List (Addr × Obj)), Zc cls d oe → (∃ vs, oe.data = .fields vs) → PSs (X.suite a ((a, oe) :: pn)) (b₀ :: suite) (ts a cls d)) {xe : Value → Shared → Prop} :
    Takes (X.tr (X.pn ++ pins) fun e s₁ => wpAny (model X.prog X.w) X.A (noteFrame e X.env) (fun _ s₂ => wpAny (model X.prog X.w) X.A (setFlight e none) (fun _ s₃ =>
      wpAny (model X.prog X.w) X.A (handleBy e X.env [.ExceptHandler (some te) (some n) (b₀ :: suite) pos']) (SP X pins D) X.xe s₃) X.xe s₂) X.xe s₁) (wAsT any i ts Wout D) := by
  rintro u sE ⟨a, B, sI, pinsE, σE, HE, cls, d, rfl, IE, nbE, upE, skyE, naE, osE, agE, b, hb1, hyes, hno⟩
  have IX : Inv X pins σE HE sI := IE.ofTry ok
  have skyX : Sky B (X.env :: X.outer) a (Zc cls d) X.env.locals sE.heap := hs ▸ skyE
  have landE : ∀ {h : Heap}, B.StaysIn h → sE.heap.UpToSlots h → Inv X pins σE HE { sE with heap := h } := fun {h} st up => IX.landed nbE st (upE.trans up) osE agE
  have far : ∀ {h : Heap} {o : Obj} {vs : Array Value}, h.FunFrames B (X.env :: X.outer) → h.get? a = some o → o.data = .fields vs → a ≠ X.env.locals ∧ a ∉ X.fs := fun {h o vs} ff ha ho => by
    have out : a ∉ frs (X.env :: X.outer) := fun hm => by
      obtain ⟨_, o2, ho2, hno2⟩ := ff.mem hm
      rw [ha] at ho2
      cases ho2
      exact hno2 _ ho
    refine ⟨fun z => out (List.mem_filterMap.mpr ⟨X.env, List.mem_cons_self, z ▸ hf⟩), fun hm => ?_⟩
    obtain ⟨en, hen, q⟩ := List.mem_filterMap.mp hm
    exact out (List.mem_filterMap.mpr ⟨en, List.mem_cons_of_mem _ hen, q⟩)
  show wpAny (model X.prog X.w) X.A (noteFrame (.ref a) X.env) _ _ _
  refine Sky.land Zc.steady hfr hf skyX fun hA flA upA => ?_
  obtain ⟨oA, vA, atA, zA, dA⟩ := flA.there
  have farA := far flA.2.2.1 atA dA
  have IA := (landE flA.1 upA).suite atA dA naE farA.1 farA.2
  refine wpAny_handleBy_cons (codeAny_handlers_test ?_) (by intro q; cases q)
  refine test a oA (X.pn ++ pins) σE HE _ cls b IA atA zA.1 hb1 fun hB kB => ?_
  have flB := flz_keeps flA kB
  have upB : sE.heap.UpToSlots hB := upA.trans (Heap.UpToSlots.of_keeps kB)
  cases b with
  | true =>
    refine codeAny_handlers_suite_as ?_
    refine HandSPX.lands_againZ flB fun hC flC upC => ?_
    obtain ⟨oC, vC, atC, zC, dC⟩ := flC.there
    have IC := (landE flC.1 (upB.trans upC)).suite atC dC naE farA.1 farA.2
    refine store_ok (X := X.suite a ((a, oC) :: (X.pn ++ pins))) (v := .ref a) IC hN hi (.inl hln) rfl (fun sS IS => ?_) (.inr hln)
    have gone : ∀ {σ6 : L2.St} {H6 : Hp} {s6 : Shared} {Q : Shared → Prop}, Inv (X.suite a ((a, oC) :: (X.pn ++ pins))) [] σ6 H6 s6 → (∀ s7, Inv X pins (σ6.set i none) H6 s7 → Q s7) →
        wpAny (model X.prog X.w) X.A (do bindName X.env n .none; unbindBehindTheSuite X.env n pos') (fun _ s7 => Q s7) X.xe s6 := fun I6 q => gone_ok (I6.unsuite ok) hN hi hln q
    refine wpAny_mono ((hsu a oC cls d (X.pn ++ pins) zC ⟨_, dC⟩).run [] sS _ HE _ IS (hyes rfl a naE)) (fun f s6 hsp => ?_) (fun _ _ z => False.elim z)
    cases f with
    | ret u =>
      obtain ⟨v6, σ6, H6, I6, r6, q6⟩ := hsp
      exact gone I6 fun s7 I7 => ⟨_, _, _, I7, r6, q6⟩
    | next =>
      obtain ⟨σ6, H6, I6, q6⟩ := hsp
      exact gone I6 fun s7 I7 => ⟨_, _, I7, q6⟩
    | brk =>
      obtain ⟨σ6, H6, I6, q6⟩ := hsp
      exact gone I6 fun s7 I7 => ⟨_, _, I7, q6⟩
    | cont =>
      obtain ⟨σ6, H6, I6, q6⟩ := hsp
      exact gone I6 fun s7 I7 => ⟨_, _, I7, q6⟩
  | false =>
    show wpAny _ X.A (handleBy (.ref a) X.env []) _ _ _
    refine wpAny_handleBy_nil ?_
    obtain ⟨_, _, _, oB, vB, T, _, _, atB, _, dB, trB, _⟩ := id flB
    unfold PySem.passOn
    refine wpAny_bind (wpAny_field atB dB trB ?_)
    rw [if_neg (show ¬ ((Value.ref T == Value.none) = true) by simp)]
    have onward : wpAny (model X.prog X.w) X.A (setFlight (.ref a) X.env.frame) (fun _ sD => wpAny (model X.prog X.w) X.A (throw (.ref a) : Sem Flow) (SP X pins D) X.xe sD) X.xe { sE with heap := hB } := by
      rw [hf]
      refine HandSPX.setFlight_upZ flB fun hD heldD upD => wpAny_throw (tk _ _ ?_)
      refine ⟨a, B, sI, pins, σE, HE, cls, d, rfl, IX, nbE, (upE.trans upB).trans upD, .inr (.inr ?_), naE, osE, agE, hno rfl⟩
      rw [hs]
      exact heldD
    first
      | exact wpAny_bind (wpAny_pure (wpAny_bind onward))
      | exact wpAny_bind onward
theorem ps_asT (test : TestAs X te any) (hs : X.stack = X.env :: X.outer) (hf : X.env.frame = some X.env.locals) (hN : X.N.Nodup) (hi : X.N[i]? = some n) (hln : X.env.kindOf n = some .local) (tk : Takes X Wout)
    (hb : ∀ (W : WX) (pn : List (Addr × Obj)) (xe : Value → Shared → Prop), Takes (X.tr pn xe) W → PassesOwn (model X.prog X.w) X.A X.env xe → PSs (X.tr pn xe) body (tb W))
    (hsu : ∀ (a : Addr) (oe : Obj) (cls : Value) (d : Option Addr) (pn : List (Addr × Obj)), Zc cls d oe → (∃ vs, oe.data = .fields vs) → PSs (X.suite a ((a, oe) :: pn)) (b₀ :: suite) (ts a cls d)) :
    PS X (.Try body [.ExceptHandler (some te) (some n) (b₀ :: suite) pos'] [] [] pos) (fun D σ H => tb (wAsT any i ts Wout D) D σ H) := by
  refine ⟨fun pins s σ H D I h => ?_⟩
  have ok := I.ok
  have hfr : X.A.frames = some (X.env :: X.outer) := by rw [ok.frames, hs]
  refine wpAny_Try_except ?_
  refine wpAny_mono ((hb (wAsT any i ts Wout D) (X.pn ++ pins) _ (catchT (xe := X.xe) test hs hf hN hi hln tk ok hfr hsu) PassesOwn.looking).run [] s σ H D (I.toTry _) h) (fun f s1 hsp => ?_) (fun _ _ z => z)
  cases f with
  | ret u =>
    obtain ⟨v, σ1, H1, I1, r, q⟩ := hsp
    exact ⟨v, σ1, H1, I1.ofTry ok, r, q⟩
  | next =>
    obtain ⟨σ1, H1, I1, q⟩ := hsp
    exact wpAny_execs_nil ⟨σ1, H1, I1.ofTry ok, q⟩
  | brk =>
    obtain ⟨σ1, H1, I1, q⟩ := hsp
    exact ⟨σ1, H1, I1.ofTry ok, q⟩
  | cont =>
    obtain ⟨σ1, H1, I1, q⟩ := hsp
    exact ⟨σ1, H1, I1.ofTry ok, q⟩
end
section
variable {X : Cx} {W : WX} {pos : Pos}
end
end SL
namespace KL
open PySem PySem.Spec PyProof.Rows L2 LamX
section
variable {X : Cx}
def TTword (ct : Addr → Option Bool) (w : Str) : (XK → Hp → VK → Prop) → Hp → VK → Prop := fun tl H Q => ∀ Q' : VK, (∀ v H', (∀ p, H' p = none → Q (.ref p) (upd H' p (.tup [v, .str ""]))) → Q' v H') →
  tl (fun cls d H' => ∃ C dd fs v, cls = .ref C ∧ ct C = some true ∧ d = some dd ∧ H' dd = some (.xd fs) ∧ fs.lookup w = some v ∧ ∀ p, H' p = none → Q (.ref p) (upd H' p (.tup [.non, v]))) H Q'
theorem takes_len {Z : Cx} {W : WX} (tk : Takes Z W) : Takes Z (fun cls d σ' H' => σ'.length = Z.N.length → W cls d σ' H') := fun u s' ⟨a, B, sI, pz, σz, Hz, cls, d, e, I, nb, up, sky, na, os, ag, hw⟩ => tk u s' ⟨a, B, sI, pz, σz, Hz, cls, d, e, I, nb, up, sky, na, os, ag, hw I.len⟩
theorem word_gives {Ng : List Str} {x a e y w q : Str} {sg : Scope} {g : Addr} {cdg : Value} {te : Expr} {any : Value → Option Bool} {ct : Addr → Option Bool} {i j k1 k2 k3 k4 : Nat} {p1 p2 p3 p4 p5 p6 p7 p8 p9 pa pb pc pd pe pf ph : Pos}
    (hN : Ng.Nodup) (hi : Ng[i]? = some e) (hj : Ng[j]? = some y) (hij : i ≠ j) (hle : sg.names.lookup e = some .local) (hly : sg.names.lookup y = some .local)
    (test : ∀ s H, SL.TestAs (cxOf C8.CX0 X.prog X.w X.K X.mg X.base Ng x sg g cdg X.A X.stack s H C8.E0).nox te any) (hct : ∀ C, ct C = some true → any (.ref C) = some true) (hT : ∀ C, ct C = some true → XfC X.K C ∧ PySem.W.findIn X.K (.ref C) w = some none)
    (h0 : ∀ f : Addr, (L2.start Ng [V.ref f])[0]? = some (some (V.ref f))) (Sn : ∀ f : Addr, (L2.start Ng [V.ref f]).length = Ng.length)
    (de : (e == ("__debug__" : Str)) = false := by decide) (ce : (e == ("__classdict__" : Str)) = false := by decide) (dy : (y == ("__debug__" : Str)) = false := by decide) (cy : (y == ("__classdict__" : Str)) = false := by decide) :
    GivesTo X Ng x sg g cdg [.Try [.Assign [.Name y p1] (.Tuple [.Call (.Name a p2) [] [] p3, .Constant (.str "") k1 p4] k2 p5) p6] [.ExceptHandler (some te) (some e) [.Assign [.Name y p7] (.Tuple [.Constant .none k3 p8, .Attribute (.Name e p9) w pa] k4 pb) pc] pd] [] [] pe, .Return (some (.Name y pf)) ph] a q (TTword ct w) := by
  intro f c' s H Q tl act hc h
  refine ⟨_, pss_cons (SL.ps_asT (X := (cxOf C8.CX0 X.prog X.w X.K X.mg X.base Ng x sg g cdg X.A X.stack s H C8.E0).nox) (i := i)
    (tb := fun W D σ HZ => ∃ Ech : XK, (∀ cls d σ' H', Ech cls d H' → σ'.length = Ng.length → W cls d σ' H') ∧ σ[0]? = some (some (.ref f)) ∧ HZ c' = some (CodeO c' q) ∧ tl Ech HZ (fun v H1 => [v, V.str ""].length ≤ sizeLine ∧ ∀ p, H1 p = none → D.nx (σ.set j (some (.ref p))) (upd H1 p (.tup [v, .str ""]))))
    (ts := fun b cls d D σ HZ => ∃ C dd fs v, cls = .ref C ∧ ct C = some true ∧ d = some dd ∧ HZ dd = some (.xd fs) ∧ fs.lookup w = some v ∧ σ[i]? = some (some (.ref b)) ∧ ∀ p, HZ p = none → D.nx (σ.set j (some (.ref p))) (upd HZ p (.tup [.non, v])))
    (Wout := fun _ _ _ _ => False) (test s H) rfl rfl hN hi hle LamX.takes0 (fun W pn xe tk _ => ⟨fun pins s' σ H' D I h' => ?_⟩) (fun b oe cls d pn hz hf => ⟨fun pins s' σ H' D I h' => ?_⟩)) (pss_one (ps_ret (pe_var (i := j) hj (.inl hly) dy cy))), ?_⟩
  · obtain ⟨Ech, hW, h1, h2, h3⟩ := h'
    have hp := act _ pn xe Ech p2 p3 (takes_len tk) (fun cls d σ' H' z l => hW cls d σ' H' z l)
    exact (pss_one (ps_set (pos := p6) (pos' := p1) hN hj (.inl hly) (pe_tup (pa_cons hp (pa_cons pe_str pa_nil))) rfl (.inr hly))).run pins s' σ H' D I ⟨h1, h2, h3⟩
  · obtain ⟨C, dd, fs, v, rfl, hC, rfl, hd, hl, hs, hk⟩ := h'
    obtain ⟨T, hno⟩ := hT C hC
    have pv : PE (((cxOf C8.CX0 X.prog X.w X.K X.mg X.base Ng x sg g cdg X.A X.stack s H C8.E0).nox).suite b ((b, oe) :: pn)) (.Name e p9) (tVar i) := pe_var (i := i) hi (.inl hle) de ce
    have px := pe_xf (X := (cxOf C8.CX0 X.prog X.w X.K X.mg X.base Ng x sg g cdg X.A X.stack s H C8.E0).nox) (pos := pa) T hno hz hf pv
    have pst := ps_set (X := ((cxOf C8.CX0 X.prog X.w X.K X.mg X.base Ng x sg g cdg X.A X.stack s H C8.E0).nox).suite b ((b, oe) :: pn)) (i := j) (x := y) (pos := pc) (pos' := p7) hN hj (.inl hly) (pe_tup (x1 := k4) (pos := pb) (pa_cons (pe_non (j := k3) (pos := p8)) (pa_cons px pa_nil))) rfl (.inr hly)
    exact (pss_one pst).run pins s' σ H' D I
      ⟨_, hs, rfl, rfl, dd, fs, v, rfl, hd, hl, by show 2 ≤ sizeLine; rw [sizeLine_eq]; omega, hk⟩
  · have li : i < Ng.length := (List.getElem?_eq_some_iff.mp hi).1
    have lj : j < Ng.length := (List.getElem?_eq_some_iff.mp hj).1
    refine ⟨_, fun cls d σ' H' z l => ?_, h0 f, hc, h _ fun v H' hv => ⟨by show 2 ≤ sizeLine; rw [sizeLine_eq]; omega, fun p hp => ⟨.ref p, ?_, hv p hp⟩⟩⟩
    · obtain ⟨C, dd, fs, v, rfl, hC, rfl, hd, hl, hk⟩ := z
      refine ⟨true, hct C hC, fun _ b hb => ⟨C, dd, fs, v, rfl, hC, rfl, hd, hl, ?_, fun p hp => ⟨.ref p, ?_, hk p hp⟩⟩, fun z => nomatch z⟩
      · rw [List.getElem?_set_self (by omega)]
      · show (((σ'.set i (some (.ref b))).set j (some (.ref p))).set i none)[j]? = _
        rw [List.getElem?_set_ne hij, List.getElem?_set_self (by rw [List.length_set]; omega)]
    · show ((L2.start Ng [V.ref f]).set j (some (.ref p)))[j]? = _
      rw [List.getElem?_set_self (by have := Sn f; omega)]
end
end KL
namespace SL
open PySem PySem.Spec PyProof.Rows L2 LamX
section
variable {X : Cx} {W : WX}
end
abbrev bgW (a e y w : Str) (te : Expr) (k1 k2 k3 k4 : Nat) (p1 p2 p3 p4 p5 p6 p7 p8 p9 pa pb pc pd pe pf ph : Pos) : List Stmt := [.Try [.Assign [.Name y p1] (.Tuple [.Call (.Name a p2) [] [] p3, .Constant (.str "") k1 p4] k2 p5) p6] [.ExceptHandler (some te) (some e) [.Assign [.Name y p7] (.Tuple [.Constant .none k3 p8, .Attribute (.Name e p9) w pa] k4 pb) pc] pd] [] [] pe, .Return (some (.Name y pf)) ph]
theorem takes_lam {X : Cx} {A : Around} {outer : List Env} {s : Shared} {H : Hp} {E : XK} {scope : Scope} {f c' : Addr} : Takes (lamCx X A outer s H E scope f c') (fun cls d _ H => E cls d H) := takes_of rfl rfl rfl rfl
section
variable {X : Cx} {W : WX}
theorem start1 {Ng : List Str} (h : 1 ≤ Ng.length) (f : Addr) : (L2.start Ng [V.ref f]).length = Ng.length := by
  unfold L2.start
  simp
  omega
end
end SL
namespace KL
open PySem PySem.Spec PyProof.Rows L2 LamX
section
variable {X : Cx} {pins : List (Addr × Obj)} {σ : L2.St} {H HZ H8 H9 : Hp} {s s1 s8 s9 : Shared}
abbrev lamT (X : Cx) (params : Arguments) (body : Expr) (scope : Scope) : SL.LamT := ⟨X.env.qual ++ "<lambda>", params, body, scope⟩
theorem lam_make4 {c P : Addr} {params : Arguments} {body : Expr} {scope : Scope} {pos : Pos} {E : Value → Shared → Prop} {Q : Value → Shared → Prop} (I : Inv X pins σ H s) (TB : TabB X.base X.mg c P) (hcode : X.env.code = .ref c)
    (hT : TabS H P (X.env.qual ++ "<lambda>")) (hdef : defaultsOf params X.env = ([], [])) (hfree : ∀ y ∈ scope.names, y.2 = .free → ∃ c, X.env.cells.lookup y.1 = some c)
    (h : ∀ (f c' : Addr) (pm ctv : Value) (H1 : Hp) (s' : Shared), Inv X pins σ (upd H1 f (SL.FunO f X.env.cells (lamT X params body scope) pm c' ctv)) s' → Grown P (X.env.qual ++ "<lambda>") H H1 →
      H1 f = none → H1 c' = some (CodeO c' (X.env.qual ++ "<lambda>")) → (H c' = none ∨ ∃ pos ps, H P = some (.tbl ps) ∧ codeAmong pos ps.toList = some (.ref c')) → Q (.ref f) s') :
    wpAny (model X.prog X.w) X.A (eval (.Lambda params body scope pos) X.env) Q E s := by
  obtain ⟨ps, hP, ht, ha⟩ := hT
  refine PySem.W.kla_eval hdef ?_
  have bP : s.heap.BuiltinsAt X.mg P := TB.bm.keeps I.bk
  have hP' : s.heap.get? P = some { cls := .none, data := .fields ps } := I.hok P _ hP
  have newF : ∀ (h' : Heap) (c' : Addr) (ctv : Value) (H1 : Hp), ObjOk X.prog X.w (upd H1 h'.objs.size (SL.FunO h'.objs.size X.env.cells (lamT X params body scope) ((X.mg "__name__").getD .none) c' ctv)) (h'.push (PySem.W.kla_obj "<lambda>" (X.env.qual ++ "<lambda>") params body scope (cloFrom X.env.cells scope.names []) ((X.mg "__name__").getD .none) c' ctv)) h'.objs.size (SL.FunO h'.objs.size X.env.cells (lamT X params body scope) ((X.mg "__name__").getD .none) c' ctv) := fun h' c' ctv H1 =>
    ⟨Heap.get?_push_size _ rfl, ⟨_, Heap.get?_push_size _ rfl⟩, fun h1 h2 e st => st _ e⟩
  cases hc : codeAmong pos ps.toList with
  | none =>
    refine PySem.W.kla_makeFunction (mg := X.mg) (c := c) (P := P) (ps := ps) (closure_ok hfree) I.ok.glob (I.mod.glob.keeps I.bk) hcode (TB.code.keeps I.bk) hP' ht hc TB.gP bP fun c' ctv h' tk hx hge hlt hrec htb => ?_
    obtain ⟨c2, oc, vs, t, e2, hoc, hd, hv⟩ := hrec
    cases e2
    have nC : H c' = none := I.hok.fresh hge
    have I1 := inv_table (t' := tk) (more := #[rawInt pos.line, rawInt pos.col, .ref c']) (h' := h') I hP (fun b o hb e => hx b o hb e) htb hge ⟨oc, vs, t, hoc, hd, hv⟩
    have I2 := I1.laid (t' := tk) (h' := h'.push (PySem.W.kla_obj "<lambda>" (X.env.qual ++ "<lambda>") params body scope (cloFrom X.env.cells scope.names []) ((X.mg "__name__").getD .none) c' ctv)) (fun b o e => Heap.get?_push_of_some _ e) (Nat.le_refl _) (newF h' c' ctv _)
    have eL : (ps ++ #[rawInt pos.line, rawInt pos.col, .ref c']).toList = ps.toList ++ [rawInt pos.line, rawInt pos.col, .ref c'] := by simp
    refine h h'.objs.size c' ((X.mg "__name__").getD .none) ctv _ _ I2 (.more hP nC (by rw [eL]; exact PySem.TriplesOk_snoc _ _ _ _ ht) fun p' cv hcv => ?_) (I1.hok.fresh (Nat.le_refl _)) upd_same (.inl nC)
    rw [eL] at hcv
    exact among_app _ ht hcv
  | some cv =>
    obtain ⟨c', e, hco⟩ := ha pos cv hc
    subst e
    refine PySem.W.kla_makeFunctionHit (mg := X.mg) (c := c) (P := P) (ps := ps) (closure_ok hfree) I.ok.glob (I.mod.glob.keeps I.bk) hcode (TB.code.keeps I.bk) hP' ht hc bP fun ctv h' tk hx hsz => ?_
    have I2 := I.laid (t' := tk) (h' := h'.push (PySem.W.kla_obj "<lambda>" (X.env.qual ++ "<lambda>") params body scope (cloFrom X.env.cells scope.names []) ((X.mg "__name__").getD .none) c' ctv)) (fun b o e => Heap.get?_push_of_some _ (hx b o e)) hsz (newF h' c' ctv _)
    exact h h'.objs.size c' ((X.mg "__name__").getD .none) ctv H _ I2 .same (I.hok.fresh hsz) hco (.inr ⟨pos, ps, hP, hc⟩)
def Kept (X : Cx) (s s1 : Shared) (H1 : Hp) : Prop := ∀ (y : Str) (c : Addr) (v : Option Value), X.env.cells.lookup y = some c → s.heap.IsCell c v → s1.heap.IsCell c v ∧ H1 c = none
theorem Kept.refl (I : Inv X pins σ H s) : Kept X s s H := fun y c v e h => ⟨h, I.freeC y c e⟩
theorem Kept.un {fs ex : List Addr} (k : Kept X s s8 H8) (u : Un fs ex H8 H9 s8.heap s9.heap) (hx : ∀ y c, X.env.cells.lookup y = some c → c ∉ ex) : Kept X s s9 H9 := fun y c v e h => by
  obtain ⟨⟨o, ho, hd⟩, h2⟩ := k y c v e h
  obtain ⟨sl, q⟩ := u.any ho h2 (hx y c e)
  exact ⟨⟨_, q, hd⟩, u.free c o ho h2 (hx y c e)⟩
theorem lam_start3 {A : Around} {outer : List Env} {E : XK} {scope : Scope} {f c' : Addr} {h₁ : Heap} {tk : Nat} (I : Inv X pins σ H s) (L : LamS X.env.scope scope) (e0 : Env0 X.prog X.w X.K X.mg X.base A outer s1 HZ) (hd : A.handled = none)
    (un : Kept X s s1 HZ) (hns : h₁.Ns s1.heap.objs.size fun y => ([] : List (Str × Value)).reverse.lookup y) (kp : ∀ b o, s1.heap.get? b = some o → h₁.get? b = some o) :
    Inv (lamCx X A outer s1 HZ E scope f c') [] σ HZ { s1 with heap := h₁, toks := tk } := by
  have hfree := L.has I.ok
  have cm : ∀ {y c}, (cloFrom X.env.cells scope.names []).lookup y = some c → X.env.cells.lookup y = some c := fun {y c} e => by
    rcases cloFrom_mem (PySem.mem_of_lookup e) with hm | ⟨h1, h2⟩
    · cases hm
    · obtain ⟨c1, hc⟩ := hfree _ h1 rfl
      have hc : X.env.cells.lookup y = some c1 := hc
      have e2 : c = c1 := by
        rw [h2, hc] <;> rfl
      rw [e2]
      exact hc
  have look : ∀ {y}, scope.names.lookup y = some .free → ∃ c, (cloFrom X.env.cells scope.names []).lookup y = some c := fun {y} hl => by
    have hy : (y, NameKind.free) ∈ scope.names := PySem.mem_of_lookup hl
    exact mem_lookup (cloFrom_has (cells := X.env.cells) (acc := []) hy)
  have cellK : ∀ {y : Str} {c : Addr} {v : Option Value}, X.env.cells.lookup y = some c → s.heap.IsCell c v → h₁.IsCell c v := fun {y c v} e z => by
    obtain ⟨⟨o, ho, hd⟩, _⟩ := un y c v e z
    exact ⟨_, kp _ _ ho, hd⟩
  have noA : ∀ b : Addr, b ∉ (lamCx X A outer s1 HZ E scope f c').ex := fun b z => absurd (show b ∈ ([] : List Addr) from z) (by simp)
  refine ⟨⟨e0.mod, L.kind, rfl, rfl, Nat.le_refl _, fun y z c e1 e2 => I.ok.inj y z c (cm e1) (cm e2), fun y hy => ?_, fun y c z _ => ?_, fun _ => hd, Around.frames_deeper e0.frames, .inr ⟨rfl, rfl⟩, fun b z => absurd z (noA b), e0.bs, e0.bsz, fun b _ _ => noA b,
      fun b z => absurd z (noA b), e0.funs, e0.frf⟩,
    rfl, e0.bare, Un.kept kp, ⟨_, hns, fun i y v e1 e2 e3 => ?_⟩, fun y c e => ?_, e0.hok.fresh (Nat.le_refl _), fun y c e => ?_, fun q hq => absurd (show q ∈ ([] : List (Addr × Obj)) ++ [] from hq) (by simp), e0.hok.kept kp, I.len⟩
  · have hy : scope.names.lookup y = some .cell ∨ scope.names.lookup y = some .free := hy
    rcases hy with hy | hy
    · exact absurd rfl (L.own _ (PySem.mem_of_lookup hy)).2
    · exact look hy
  · have z : false = true := z
    cases z
  · have e3 : Vis scope y := e3
    rcases e3 with k | k | k
    · exact absurd rfl (L.own _ (PySem.mem_of_lookup k)).1
    · exact absurd rfl (L.own _ (PySem.mem_of_lookup k)).2
    · obtain ⟨m, hn, hl⟩ := I.loc
      have hvis : Vis X.env.scope y := (L.free _ (PySem.mem_of_lookup k) rfl).elim (fun k => .inr (.inl k)) (fun k => .inr (.inr k))
      obtain ⟨w', r, q⟩ := hl i y v e1 e2 hvis
      obtain ⟨c2, h2⟩ := look k
      refine ⟨w', r, .inr ⟨.inr k, c2, h2, ?_⟩⟩
      have c1 := cm h2
      rcases q with ⟨k', _⟩ | ⟨_, c3, e', z⟩
      · have k' : X.env.scope.names.lookup y = some .local := k'
        rcases L.free _ (PySem.mem_of_lookup k) rfl with k2 | k2 <;> rw [show X.env.scope.names.lookup y = _ from k2] at k' <;> cases k'
      · rw [c1] at e'
        cases e'
        exact cellK c1 z
  · obtain ⟨w', z⟩ := I.cell y c (cm e)
    exact ⟨w', cellK (cm e) z⟩
  · obtain ⟨v, z⟩ := I.cell y c (cm e)
    exact (un y c v (cm e) z).2
structure LamOk (X : Cx) (k : Nat) (l : SL.LamT) (t : XK → TE) : Prop where
  q : l.q = X.env.qual ++ "<lambda>"
  L : LamS X.env.scope l.scope
  bind : ∀ (q : Str) (cl : List (Str × Addr)) (pm cv ctv : Value), bindArgs (PySem.W.kla_fn "<lambda>" q l.params l.body l.scope cl pm cv ctv) ⟨[], []⟩ = pure []
  body : ∀ (A : Around) (outer : List Env) (s : Shared) (H : Hp) (E : XK) (f c' : Addr), Room k (A.deeper (lamEnv X l.scope s.heap.objs.size f c')) → PE (lamCx X A outer s H E l.scope f c') l.body (t E)
theorem pe_actG {CXg : CXT} {Eg : XK} {Ng : List Str} {qg : Str} {sg : Scope} {g f c' : Addr} {cdg pm ctv : Value} {l : SL.LamT} {k i : Nat} {a : Str} {pn : List (Addr × Obj)} {xe : Value → Shared → Prop} {W : WX} {E : XK} {t : XK → TE} {p1 p2 : Pos} {A1 : Around} {outer1 : List Env} {H1 : Hp}
    (I : Inv X pins σ H s) (O : LamOk X k l t) (kp0 : Kept X s s1 H1)
    (tk : Takes ((cxOf CXg X.prog X.w X.K X.mg X.base Ng qg sg g cdg A1 outer1 s1 H1 Eg).tr pn xe) W) (hW : ∀ cls d σ' H', E cls d H' → W cls d σ' H') (hr : Room (k + 1) (A1.deeper (envOfC qg sg s1.heap.objs.size g cdg)))
    (hN : Ng[i]? = some a) (hv : Vis sg a) (hd : (a == ("__debug__" : Str)) = false := by decide) (hcd : (a == ("__classdict__" : Str)) = false := by decide) :
    PE ((cxOf CXg X.prog X.w X.K X.mg X.base Ng qg sg g cdg A1 outer1 s1 H1 Eg).tr pn xe) (.Call (.Name a p1) [] [] p2)
      (fun σZ HZ Q => σZ[i]? = some (some (.ref f)) ∧ HZ c' = some (CodeO c' l.q) ∧ (HZ f = some (SL.FunO f X.env.cells l pm c' ctv) ∧ t E σ HZ Q)) := by
  refine ⟨fun pinsZ sZ σZ HZ Q IZ h => ?_⟩
  obtain ⟨hs, hc, hf, ht⟩ := h
  refine wpAny_Call_Name_kw (thn ((pe_var (pos := p1) (i := i) hN hv hd hcd).run pinsZ sZ σZ HZ (fun v H1 => v = .ref f ∧ H1 = HZ) IZ ⟨.ref f, hs, rfl, rfl⟩) fun u s2 ⟨v, H2, I1, r1, q1⟩ => ?_)
  obtain ⟨ev, eH⟩ := q1
  subst ev
  rw [eH] at I1
  obtain rfl : u = Value.ref f := r1
  have of1 : s2.heap.get? f = some (PySem.W.kla_obj "<lambda>" l.q l.params l.body l.scope (cloFrom X.env.cells l.scope.names []) pm c' ctv) := (I1.hok f _ hf).1
  refine PySem.W.callWith_F0 ⟨_, _, _, _, of1⟩ ?_
  have un0 : Un (frs outer1) [] H1 HZ s1.heap s2.heap := I1.base
  have un : Kept X s s2 HZ := kp0.un un0 fun _ _ _ => by simp
  obtain ⟨⟨oc, vs, tok, hoc, hdc, hvc⟩, _, _⟩ := I1.hok c' _ hc
  have L := O.L
  have rc : codeAny (model X.prog X.w) (A1.deeper (envOfC qg sg s1.heap.objs.size g cdg)) (.call (.ref f) ⟨[], []⟩) (CR (L2.CX X.prog X.w) (envOfC qg sg s1.heap.objs.size g cdg :: outer1) X.prog X.w HZ s2 Q E) s2 := by
    refine PySem.W.kla_callFunE hr.depth of1 rfl L.co L.gen rfl ⟨c', oc, vs, tok, rfl, hoc, hdc, hvc⟩ ?_
    rw [O.bind]
    refine wpAny_pure (wpAny_newFunctionEnv (fun y hy => (L.own y hy).2) (fun y hy => absurd hy (by simp)) (fun h₁ hns hsb => ⟨I1.nolimit.fresh _ hsb, ?_⟩) L.kind)
    rw [O.q]
    show codeAny _ _ (.expr l.body (lamEnv X l.scope s2.heap.objs.size f c')) _ _
    have kp : ∀ b o, s2.heap.get? b = some o → h₁.get? b = some o := fun b o e => hsb.extBut b o (Nat.ne_of_lt (Heap.lt_size e)) (Heap.get?_push_of_some _ e)
    have J : Inv (lamCx X (A1.deeper (envOfC qg sg s1.heap.objs.size g cdg)) (envOfC qg sg s1.heap.objs.size g cdg :: outer1) s2 HZ E l.scope f c') [] σ HZ { s2 with heap := h₁, toks := s2.toks + ([] : List (Str × Value)).length } :=
      lam_start3 I L I1.env0 hr.hd un hns kp
    refine PySem.W.kla_codeExpr (wpAny_mono ((O.body _ _ s2 HZ E f c' (hr.deeper _)).run [] _ _ HZ Q J ht) (fun v s' hq => ?_) fun e s' hq => hq)
    obtain ⟨w', H', J', rv, q⟩ := hq
    exact ⟨w', H', J'.os, J'.bare, J'.base, J'.hok, rv, q⟩
  have hx : Passes (L2.CX X.prog X.w) ((cxOf CXg X.prog X.w X.K X.mg X.base Ng qg sg g cdg A1 outer1 s1 H1 Eg).tr pn xe) E := passes_call tk hW
  refine wpAny_call (codeAny_mono rc fun r s' hq => ?_)
  cases r with
  | error e => exact hx pinsZ σZ HZ s2 e s' I1 hq
  | ok fl =>
    cases fl with
    | ret u => exact I1.after hq
    | next => exact False.elim hq
    | brk => exact False.elim hq
    | cont => exact False.elim hq
end
section
variable {X : Cx} {pins : List (Addr × Obj)} {σ : L2.St} {H H9 : Hp} {s s9 : Shared}
theorem pe_callAt {Z : Cx} {x : Str} {g : Addr} {e : Expr} {es : List Expr} {ta : TA} {R : L2.St → List V → Hp → VK → Prop} {p pos : Pos} (hg : Gl Z x) (hm : Z.mg x = some (.ref g)) (hk : PySem.W.keepIn Z.K (.ref g) = true) (ha : PA Z (e :: es) ta)
    (hc : ∀ (pins : List (Addr × Obj)) (s : Shared) (σ : L2.St) (H : Hp) (us : List Value) (vs : List V) (Q : VK), Inv Z pins σ H s → Vals vs us → R σ vs H Q → codeAny (model Z.prog Z.w) Z.A (.call (.ref g) ⟨us, []⟩) (CR C8.CX0 Z.stack Z.prog Z.w H s Q C8.E0) s)
    (hdb : (x == ("__debug__" : Str)) = false := by decide) (he : starEach (e :: es) Z.env = (false, eval e Z.env) :: starEach es Z.env := by rfl) (hpl : (backTo pos (starEach es Z.env)).any (·.1) = false := by rfl) :
    PE Z (.Call (.Name x p) (e :: es) [] pos) (fun σ H Q => ta σ H fun vs H1 => R σ vs H1 Q) := by
  refine ⟨fun pins s σ H Q I h => ?_⟩
  refine wpAny_Call_Name_kw (ld_glob I hg hm ?_ hdb)
  refine PySem.W.callWith_K (h₀ := Z.base) I.ok.mod.kin hk (thn (ha.run pos pins s σ H _ I h) fun us s1 ⟨vs, H1, I1, r, q⟩ => ⟨I1.kIn, ?_⟩) he hpl
  refine wpAny_call (codeAny_mono (hc pins s1 σ H1 us vs Q I1 r q) fun r s2 hq => ?_)
  match r, hq with
  | .error e, hq => exact (show False from hq).elim
  | .ok (.ret u), hq => exact I1.after hq
  | .ok .next, hq => exact hq.elim
  | .ok .brk, hq => exact hq.elim
  | .ok .cont, hq => exact hq.elim
theorem pe_callw {Nr Nw : List Str} {xr xw ar aw w : Str} {sr sw : Scope} {gr gw f c' : Addr} {cdr pm ctv : Value} {l : SL.LamT} {t : XK → TE} {k i : Nat} {pg : Arguments} {bg : List Stmt} {fd : FuncData} {A1 : Around} {st1 : List Env} {ct : Addr → Option Bool} {p p1 pos : Pos}
    (I : Inv X pins σ H s) (O : LamOk X k l t) (kp0 : Kept X s s9 H9)
    (F : FunD X.K xw xw pg bg sw [] [] gw fd) (hm : X.mg xw = some (.ref gw)) (hb : L2.Binds X.K fd [aw] []) (Sw : FnScope Nw [aw] sw) (hNw : Nw[0]? = some aw) (hva : Vis sw aw)
    (hG : ∀ cdv, GivesTo (cxOf C8.CX0 X.prog X.w X.K X.mg X.base Nr xr sr gr cdr A1 st1 s9 H9 C8.E0) Nw xw sw gw cdv bg aw l.q (TTword ct w))
    (hr : Room (k + 2) (A1.deeper (envOfC xr sr s9.heap.objs.size gr cdr))) (hN : Nr[i]? = some ar) (hvr : Vis sr ar)
    (hg : Gl (cxOf C8.CX0 X.prog X.w X.K X.mg X.base Nr xr sr gr cdr A1 st1 s9 H9 C8.E0) xw)
    (d1 : (xw == ("__debug__" : Str)) = false := by decide) (d2 : (ar == ("__debug__" : Str)) = false := by decide) (d3 : (ar == ("__classdict__" : Str)) = false := by decide) (d4 : (aw == ("__debug__" : Str)) = false := by decide) (d5 : (aw == ("__classdict__" : Str)) = false := by decide) :
    PE (cxOf C8.CX0 X.prog X.w X.K X.mg X.base Nr xr sr gr cdr A1 st1 s9 H9 C8.E0) (.Call (.Name xw p) [.Name ar p1] [] pos)
      (fun σr Hr Q => σr[i]? = some (some (.ref f)) ∧ Hr f = some (SL.FunO f X.env.cells l pm c' ctv) ∧ Hr c' = some (CodeO c' l.q) ∧ TTword ct w (fun E H' Q' => t E σ H' Q') Hr Q) := by
  obtain ⟨oc, od, dV, kV, doc, pm', an, cdv, ct', osl, rfl, lk, hcg, _, _⟩ := F.ex
  refine SL.PE.weak (pe_callAt (R := fun _ vs Hr Q => vs = [.ref f] ∧ Hr f = some (SL.FunO f X.env.cells l pm c' ctv) ∧ Hr c' = some (CodeO c' l.q) ∧ TTword ct w (fun E H' Q' => t E σ H' Q') Hr Q) hg hm F.kp (pa_cons (pe_var hN hvr d2 d3) pa_nil) (fun pinsr sR σr Hr us vs Q Ir rv h => ?_) d1) fun σr Hr Q h => ?_
  · obtain ⟨rfl, hf, hc, hT⟩ := h
    have hus : us = [Value.ref f] := by
      cases rv with
      | cons r r2 =>
        cases r2
        rw [show _ = Value.ref f from r]
    subst hus
    have kpr : Kept X s sR Hr := kp0.un (show Un (frs st1) [] H9 Hr s9.heap sR.heap from Ir.base) fun _ _ _ => by simp
    refine run_ofS (N := Nw) (ps := [aw]) (us := [.ref f]) (vs := [.ref f]) lk hcg Sw hr Ir.env0 (hb sR [.ref f] Ir.kIn rfl) (.cons rfl .nil) rfl fun room => ?_
    obtain ⟨u, hu, q⟩ := hG cdv f c' sR Hr Q (fun E HZ Q' => HZ f = some (SL.FunO f X.env.cells l pm c' ctv) ∧ t E σ HZ Q') (fun W pn xe E p1 p2 tk hW => pe_actG (i := 0) I O kpr tk hW room hNw hva d4 d5) hc (fun Q' h => ⟨hf, hT Q' h⟩)
    exact ⟨u, hu.nox, q⟩
  · obtain ⟨h1, h2⟩ := h
    exact ⟨.ref f, h1, rfl, h2⟩
def RRef (X : Cx) (k : Nat) (σ : L2.St) (ct : Addr → Option Bool) (w wd : Str) (Nr : List Str) (vs : List V) (H3 : Hp) (Q : VK) : Prop :=
  ∃ (f c' : Addr) (pm ctv : Value) (l : SL.LamT) (t : XK → TE), vs = [.ref f, .str wd] ∧ LamOk X k l t ∧ H3 f = some (SL.FunO f X.env.cells l pm c' ctv) ∧ H3 c' = some (CodeO c' l.q) ∧
    TTword ct w (fun E H' Q' => t E σ H' Q') H3 fun v1 H4 => tTup (tCons (tC .non) (tCons (tVar 1) L2.tNil)) (L2.start Nr [V.ref f, V.str wd]) H4 fun y H5 => SL.rEqA X.K v1 y H5 Q
abbrev bgR (xw ar du : Str) (k1 k2 : Nat) (p1 p2 p3 p4 p5 p6 p7 p8 : Pos) : List Stmt := [.Return (some (.Compare (.Call (.Name xw p1) [.Name ar p2] [] p3) [.Eq] [.Tuple [.Constant .none k1 p4, .Name du p5] k2 p6] p7)) p8]
end
end KL
namespace KL
open PySem PySem.Spec L2 LamX
open PyProof.Rows hiding St
section
variable {X : Cx}
end
end KL
namespace SL
open PySem PySem.Spec L2 LamX
open PyProof.Rows hiding St
open Classical in
/-- a lambda is made: an object of the store -/
noncomputable def lamM (P : Addr) (q : Str) (κ : List (Str × Addr)) (j : Nat) (l : LamT) : ME := fun _ S => if ∃ i : Nat, S[i]? = some (.tab P q) then .ok (.loc S.length) (S ++ [.fn κ j l]) else .stuck
open Classical in
/-- x(a, w): the lambda that a is comes to an own exception; its word beside w -/
noncomputable def refM (vs : List Nat) (κ : List (Str × Addr)) (Ls : List (LamT × ME)) (ct : Addr → Option Bool) (w : Str) (wl : List Nat) (mo : ME) : ME := fun δ S => (mo δ S).bind fun d S1 => match d with
  | .loc n => match S1[n]? with
    | some (.fn κ' j l) => match Ls[j]? with
      | some (l', me) => if κ' = κ ∧ l' = l then (match me (wipeD δ vs) S1 with
        | .exc x S2 => match ct x.C with
          | some true => match lookS x.ns x.ds w with
            | some d => RO (eqG S2 (.tup [.non, d]) (.tup [.non, .str wl])) S2
            | none => .stuck
          | _ => .stuck
        | _ => .stuck) else .stuck
      | none => .stuck
    | _ => .stuck
  | _ => .stuck
section
variable {X : Cx} {W : WX}
theorem pd_lamA {c P : Addr} {params : Arguments} {body : Expr} {scope : Scope} {lpos : Pos} {q : Str} (j : Nat) (TB : TabB X.base X.mg c P) (hcode : X.env.code = .ref c) (hq : X.env.qual ++ "<lambda>" = q) (L : LamS X.env.scope scope) (hdef : defaultsOf params X.env = ([], []) := by rfl) :
    PE X (.Lambda params body scope lpos) (tE W (lamM P q X.env.cells j ⟨q, params, body, scope⟩)) := by
  subst hq
  refine ⟨fun pins s σ H Q I h => ?_⟩
  obtain ⟨δ, S, ρ, Ie, h⟩ := h
  unfold lamM at h
  split at h
  · rename_i hj
    obtain ⟨i, hj⟩ := hj
    have hl : i < ρ.length := by rw [Ie.st.len]; exact (List.getElem?_eq_some_iff.mp hj).1
    obtain ⟨hPa, ps0, hP0, _, hP3⟩ := Ie.st.cells i _ _ (List.getElem?_eq_getElem hl) hj
    rw [hPa] at hP0
    refine KL.lam_make4 I TB hcode (tab_of Ie.st hj) hdef (L.has I.ok) fun f c' pm ctv H1 s' IL gr hf hc hcc => ?_
    obtain ⟨st1, nx1⟩ := Ie.st.grown hj gr
    have hfc : c' ≠ f := fun z => by rw [z, hf] at hc; cases hc
    have hcρ : c' ∉ ρ := by
      rcases hcc with z | ⟨pos, ps, e1, e2⟩
      · exact fun m => Ie.st.trk m z
      · rw [e1] at hP0
        cases hP0
        obtain ⟨c2, e3, _, e4⟩ := hP3 pos _ e2
        cases e3
        exact e4
    have nx2 := nx1.trans (Nx.push (ρ := ρ) (o := FunO f X.env.cells (KL.lamT X params body scope) pm c' ctv) hf)
    have st2 := st1.push (c := .fn X.env.cells j (KL.lamT X params body scope)) hf ⟨pm, c', ctv, upd_same, by rw [upd_ne hfc]; exact hc, fun z => by
      rcases List.mem_append.mp z with z | z
      · exact hcρ z
      · exact hfc (List.mem_singleton.mp z)⟩
    exact ⟨.ref f, _, IL, rfl, RunG.okN h nx2 st2 ⟨f, by rw [← Ie.st.len]; simp, rfl⟩⟩
  · exact False.elim h
theorem ref_sem {vs : List Nat} {Ls : List (LamT × ME)} {ct : Addr → Option Bool} {w : Str} {wl : List Nat} {k : Nat} {Nr : List Str} {mo : ME} {σ σ2 : L2.St} {H2 : Hp} {Q : VK} (hLs : ∀ (j : Nat) (l : LamT) (me : ME), Ls[j]? = some (l, me) → KL.LamOk X k l fun E => tE (fun cls d _ H => E cls d H) me)
    (hst : ∀ f : Addr, (L2.start Nr [V.ref f, V.str ⟨wl.toArray⟩])[1]? = some (some (V.str ⟨wl.toArray⟩))) (hw : wipe σ2 vs = wipe σ vs) (h : tE W (refM vs X.env.cells Ls ct w wl mo) σ2 H2 Q) :
    tE W mo σ2 H2 fun v H3 => KL.RRef X k σ ct w ⟨wl.toArray⟩ Nr [v, .str ⟨wl.toArray⟩] H3 Q := by
  obtain ⟨δ, S, ρ, I, h⟩ := h
  unfold refM at h
  refine bindG I h fun d v S1 H3 ρ3 n3 I3 r3 h3 => ?_
  split at h3
  · rename_i n
    obtain ⟨f, ef, rfl⟩ := r3
    split at h3
    · rename_i κ' j l ecell
      obtain ⟨pm, c', ctv, hf, hc, hn⟩ := I3.st.cells n f _ ef ecell
      split at h3
      · rename_i l' me eL
        split at h3
        · rename_i hk
          obtain ⟨rfl, rfl⟩ := hk
          refine ⟨f, c', pm, ctv, l', _, rfl, hLs j l' me eL, hf, hc, fun Q' good => ?_⟩
          have env : EnvS H3 ρ3 (wipeD δ vs) σ := by
            have e := EnvS.wipe I3.env vs
            rw [hw] at e
            refine ⟨by rw [e.1, wipe_length], fun i d ei => ?_⟩
            obtain ⟨v, e1, e2⟩ := e.2 i d ei
            exact ⟨v, (wipe_some e1).1, e2⟩
          refine ⟨wipeD δ vs, S1, ρ3, ⟨I3.st, env⟩, ?_⟩
          cases em : me (wipeD δ vs) S1 with
          | ok d S2 => rw [em] at h3; exact False.elim h3
          | stuck => rw [em] at h3; exact False.elim h3
          | exc x S2 =>
            rw [em] at h3
            intro cc dd H4 ρ4 n4 st4 rx
            obtain ⟨rfl, d, us, rfl, hd, nd, hl, rv⟩ := rx
            simp only at h3
            split at h3
            · rename_i hC
              split at h3
              · rename_i dv ed
                obtain ⟨u, eu, ru⟩ := lookS_rep rv ed
                refine ⟨x.C, d, _, u, rfl, hC, rfl, hd, by rw [lookup_zip]; exact eu, fun p hp => ?_⟩
                refine ⟨_, hst f, by show 2 ≤ sizeLine; rw [sizeLine_eq]; omega, fun p2 hp2 => ?_⟩
                have na : Nx H4 ρ4 (upd H4 p (.tup [.non, u])) ρ4 := Nx.alloc hp
                have nb : Nx (upd H4 p (.tup [.non, u])) ρ4 (upd (upd H4 p (.tup [.non, u])) p2 (.tup [.non, .str ⟨wl.toArray⟩])) ρ4 := Nx.alloc hp2
                have stb := (st4.alloc (o := .tup [.non, u]) hp).alloc (o := .tup [.non, .str ⟨wl.toArray⟩]) hp2
                have hpp : p ≠ p2 := fun z => by rw [z, upd_same] at hp2; cases hp2
                obtain ⟨z, ez, hz⟩ := h3.ro
                refine snd_eq _ ρ4 S2 (.tup [.non, dv]) (.tup [.non, .str wl]) z _ _ Q stb ⟨p, [.non, u], rfl, ?_, fun z => st4.trk z hp, Reps.cons rfl (Reps.one (Rep.mono (na.trans nb) _ _ ru))⟩ ⟨p2, [.non, .str ⟨wl.toArray⟩], rfl, .inl upd_same, fun z => (st4.alloc (o := .tup [.non, u]) hp).trk z hp2, Reps.cons rfl (Reps.one rfl)⟩ ez fun w' H' n' st' r' => ?_
                · exact .inl (by rw [upd_ne hpp, upd_same])
                · exact hz w' H' ρ4 (n4.trans ((na.trans nb).trans n')) st' r'
              · exact False.elim h3
            · exact False.elim h3
        · exact False.elim h3
      · exact False.elim h3
    · exact False.elim h3
  · exact False.elim h3
end
end SL
namespace SL
open PySem PySem.Spec L2
open PyProof.Rows hiding St
section
variable {P : Program} {w : World} {K : PySem.W.Frag} {mg : Str → Option Value} {base : Heap} {k : Nat} {at_ : Str × Option Str} {fd : FuncData} {x qual s0 : Str} {params : Arguments} {body : List Stmt} {scope : Scope} {kws : List (Str × V)} {N : List Str} {m : MS}
theorem ctBT_ok {cs : List Value} {l : List (Addr × Bool)} (h : ctBT K cs l = true) : ∀ C, ctOf l C = some true → PySem.W.exmAny K (.ref C) cs = some true := fun C e => of_decide_eq_true (List.all_eq_true.mp h (C, true) (mem_of_look e))
end
end SL
namespace SL
open PySem PySem.Spec L2
end SL
namespace SL
open PySem PySem.Spec L2
open PyProof.Rows hiding St
def spLawK (K : PySem.W.Frag) (Ts : List (Addr × Str)) (n : Nat) (m : List (Str × Addr) → MS) : Sp := fun vs H Q E => ∀ κ, spLaw K Ts n (m κ) vs H Q E
section
variable {P : Program} {w : World} {K : PySem.W.Frag} {mg : Str → Option Value} {base : Heap} {k : Nat} {at_ : Str × Option Str} {fd : FuncData} {x qual s0 : Str} {params : Arguments} {body : List Stmt} {scope : Scope} {kws : List (Str × V)} {N : List Str} {mK : List (Str × Addr) → MS}
theorem law_okK (F : FunD K x qual params body scope [] kws (He.fAd K at_) fd) (S : FnScope N [s0] scope) {st : Stmt} {rest : List Stmt} {n : Nat} {Ts : List (Addr × Str)} (hbody : body = st :: rest) (hN : N.length = n + 2)
    (hb1 : ∀ (cdv : Value) (A : Around) (outer : List Env) (s : Shared) (H : Hp) (E : XK), Room k (A.deeper (envOfC qual scope s.heap.objs.size (He.fAd K at_) cdv)) →
      PS (cxOf (L2.CX P w) P w K mg base N qual scope (He.fAd K at_) cdv A outer s H E) st (tAsg (tCallS (spStart K) E00 (tCons (tVar 0) L2.tNil)) (gName 1)))
    (hb : ∀ (cdv : Value) (A : Around) (outer : List Env) (s : Shared) (H : Hp) (E : XK), cdv = .ref (He.cT K at_).1 → Room k (A.deeper (envOfC qual scope s.heap.objs.size (He.fAd K at_) cdv)) →
      PSs (cxOf (L2.CX P w) P w K mg base N qual scope (He.fAd K at_) cdv A outer s H E) rest (tS (fun c dd _ H' => E c dd H') (mK (envOfC qual scope s.heap.objs.size (He.fAd K at_) cdv).cells))) : FnOk P w K mg base (L2.CX P w) (k + 1) (He.fAd K at_) fd [s0] (spLawK K Ts n mK) := by
  subst hbody
  refine FunD.okT F S (fun vs H Q E h => ?_) (fun cdv A outer s H vs Q E hcd hr h => ⟨_, pss_cons (hb1 cdv A outer s H E hr) (hb cdv A outer s H E hcd hr), ?_⟩)
  · obtain ⟨a, ns, rfl, _⟩ := h []
    rfl
  · obtain ⟨a, ns, rfl, hs, hl, ⟨S', hm⟩, hnd, hT, q⟩ := h (envOfC qual scope s.heap.objs.size (He.fAd K at_) cdv).cells
    have hst : L2.start N [V.ref a] = some (.ref a) :: List.replicate (n + 1) none := by
      unfold L2.start
      rw [hN]
      rfl
    rw [hst]
    refine ⟨_, rfl, a, ns, rfl, hs, hl, fun p H' nx keep st => ?_⟩
    have hpn : H p = none := nx.new p (by simp) (by simp)
    have isT : ∀ t ∈ Ts, ∃ ps, H t.1 = some (.tbl ps) := fun t ht => by
      obtain ⟨ps, h1, _⟩ := hT t ht
      exact ⟨ps, h1⟩
    refine ⟨none :: some (.loc 0) :: List.replicate n none, drawS ns 0 0 (seedOf ns) 0 :: tabsS Ts, p :: Ts.map (·.1), ⟨⟨?_, ?_, ?_⟩, ?_⟩, ?_⟩
    · simp [tabsS]
    · refine List.nodup_cons.mpr ⟨fun z => ?_, hnd⟩
      obtain ⟨t, ht, e⟩ := List.mem_map.mp z
      obtain ⟨ps, e2⟩ := isT t ht
      rw [e, hpn] at e2
      cases e2
    · intro i b c e1 e2
      cases i with
      | zero =>
        cases e1
        cases e2
        have hc := st.cells 0 p _ rfl rfl
        obtain ⟨vs, h1, h2⟩ := hc
        refine ⟨vs, h1, ?_⟩
        exact Reps.more (t := Ts.map (·.1)) (fun b hb => by
          obtain ⟨t, ht, rfl⟩ := List.mem_map.mp hb
          obtain ⟨ps, e⟩ := isT t ht
          exact ⟨ps, keep _ _ e⟩) _ _ h2
      | succ i =>
        simp only [List.getElem?_cons_succ, tabsS, List.getElem?_map] at e1 e2
        cases et : Ts[i]? with
        | none => rw [et] at e1; cases e1
        | some t =>
          rw [et] at e1 e2
          cases e1
          cases e2
          have ht : t ∈ Ts := List.mem_of_getElem? et
          obtain ⟨ps, h1, h2, h3⟩ := hT t ht
          refine ⟨rfl, ps, keep _ _ h1, h2, fun pos cv hc => ?_⟩
          obtain ⟨c, e1, e2⟩ := h3 pos cv hc
          refine ⟨c, e1, keep _ _ e2, fun z => ?_⟩
          rcases List.mem_cons.mp z with z | z
          · rw [z, hpn] at e2
            cases e2
          · obtain ⟨t', ht', e⟩ := List.mem_map.mp z
            obtain ⟨ps', e3⟩ := isT t' ht'
            rw [e, e2] at e3
            exact LamX.codeO_ne _ (Option.some.inj e3)
    · refine ⟨by simp [List.replicate_succ], ?_⟩
      intro i d e
      match i with
      | 0 => cases e
      | 1 =>
        cases e
        exact ⟨.ref p, by simp [List.replicate_succ], p, rfl, rfl⟩
      | i + 2 =>
        have e' : (List.replicate n (none : Option SL.D))[i]? = some (some d) := e
        rw [List.getElem?_replicate] at e'
        split at e' <;> cases e'
    · rw [hm]
      intro v H2 ρ2 n2 st2 r
      cases r
      exact q H2
end
def stAt (l : List Stmt) (i : Nat) : Stmt := l.getD i (.Pass default)
def valS (s : Stmt) : Expr := match s with
  | .Assign _ e _ => e
  | .Expr e _ => e
  | .Return (some e) _ => e
  | _ => .Constant .none 0 default
def lamOf (q : Str) (e : Expr) : LamT := match e with
  | .Lambda p b s _ => ⟨q, p, b, s⟩
  | _ => ⟨q, default, .Constant .none 0 default, default⟩
section
open LamX
variable {X : Cx} {W : WX}
def LsOk (X : Cx) (k : Nat) (Ls : List (LamT × ME)) : Prop := ∀ (j : Nat) (l : LamT) (me : ME), Ls[j]? = some (l, me) → KL.LamOk X k l fun E => tE (fun cls d _ H => E cls d H) me
theorem LsOk.nil {k : Nat} : LsOk X k [] := fun j l me h => by simp at h
theorem LsOk.cons {k : Nat} {l : LamT} {me : ME} {Ls : List (LamT × ME)} (h : KL.LamOk X k l fun E => tE (fun cls d _ H => E cls d H) me) (hs : LsOk X k Ls) : LsOk X k ((l, me) :: Ls) := fun j l' me' e => match j with
  | 0 => by cases e; exact h
  | j + 1 => hs j l' me' e
end
section
variable {δ : DEnv} {S : Store} {Q : D → Store → Prop} {X : Ex → Store → Prop} {mi : DEnv → Store → Res Src} {mo : ME}
theorem wp_lam {P : Addr} {q : Str} {κ : List (Str × Addr)} {j : Nat} {l : LamT} (hj : ∃ i : Nat, S[i]? = some (.tab P q)) (k : Q (.loc S.length) (S ++ [.fn κ j l])) : wp (lamM P q κ j l δ S) Q X := by
  unfold lamM
  rw [if_pos hj]
  exact k
theorem wp_ref {vs : List Nat} {κ : List (Str × Addr)} {Ls : List (LamT × ME)} {ct : Addr → Option Bool} {w : Str} {wl : List Nat} {n j : Nat} {l : LamT} {me : ME} (h : wp (mo δ S) (fun d S1 => d = .loc n ∧ S1[n]? = some (.fn κ j l) ∧ Ls[j]? = some (l, me) ∧
    wp (me (wipeD δ vs) S1) (fun _ _ => False) (fun x S2 => ct x.C = some true ∧ ∃ d, lookS x.ns x.ds w = some d ∧ GW (eqG S2 (.tup [.non, d]) (.tup [.non, .str wl])) fun z => Q z S2)) X) : wp (refM vs κ Ls ct w wl mo δ S) Q X := by
  unfold refM
  refine wp_bind (wp_q h fun d S1 h => ?_)
  obtain ⟨rfl, h1, h2, h3⟩ := h
  simp only [h1, h2, and_self, if_true]
  cases e : me (wipeD δ vs) S1 with
  | ok d S2 => rw [e] at h3; exact h3.elim
  | stuck => rw [e] at h3; exact h3.elim
  | exc x S2 =>
    rw [e] at h3
    obtain ⟨a, d, b, c⟩ := h3
    simp only [a, b]
    exact wp_RO c
end
section
variable {δ : DEnv} {S : Store} {Q : D → Store → Prop} {X : Ex → Store → Prop} {κ : List (Str × Addr)} {l0 l : LamT} {ls : List LamT} {P : Addr} {q : Str} {i v : Nat}
end
section
open LamX
variable {X : Cx} {W : WX}
end
end SL
namespace KL
open PySem PySem.Spec PyProof.Rows L2 LamX
section
variable {X : Cx}
theorem pe_refused1 {Nr Nw : List Str} {xr xw ar du aw w wd : Str} {sr sw : Scope} {gr gw : Addr} {pr pg : Arguments} {bg : List Stmt} {fr fd : FuncData} {kk k1 k2 kc : Nat} {ct : Addr → Option Bool} {ea : Expr} {ta : TE} {p pos p1 p2 p3 p4 p5 p6 p7 p8 pc : Pos}
    (Fr : FunD X.K xr xr pr (bgR xw ar du k1 k2 p1 p2 p3 p4 p5 p6 p7 p8) sr [] [] gr fr) (hmr : X.mg xr = some (.ref gr)) (hbr : L2.Binds X.K fr [ar, du] []) (Sr : FnScope Nr [ar, du] sr)
    (F : FunD X.K xw xw pg bg sw [] [] gw fd) (hm : X.mg xw = some (.ref gw)) (hb : L2.Binds X.K fd [aw] []) (Sw : FnScope Nw [aw] sw) (hNw : Nw[0]? = some aw) (hva : Vis sw aw)
    (hG : ∀ (cdr cdv : Value) (A1 : Around) (st1 : List Env) (s9 : Shared) (H9 : Hp) (q : Str), GivesTo (cxOf C8.CX0 X.prog X.w X.K X.mg X.base Nr xr sr gr cdr A1 st1 s9 H9 C8.E0) Nw xw sw gw cdv bg aw q (TTword ct w))
    (hr : Room (kk + 3) X.A) (hN0 : Nr[0]? = some ar) (hN1 : Nr[1]? = some du) (hv0 : Vis sr ar) (hv1 : Vis sr du) (hst : ∀ f : Addr, (L2.start Nr [V.ref f, V.str wd])[0]? = some (some (V.ref f)))
    (hgw : sr.names.lookup xw = some .globalImplicit) (hg : Gl X xr) (hea : PE X ea ta)
    (hst2 : starEach [ea, .Constant (.str wd) kc pc] X.env = (false, eval ea X.env) :: starEach [.Constant (.str wd) kc pc] X.env := by rfl)
    (d1 : (xw == ("__debug__" : Str)) = false := by decide) (d2 : (ar == ("__debug__" : Str)) = false := by decide) (d3 : (ar == ("__classdict__" : Str)) = false := by decide) (d4 : (aw == ("__debug__" : Str)) = false := by decide) (d5 : (aw == ("__classdict__" : Str)) = false := by decide) (d6 : (du == ("__debug__" : Str)) = false := by decide) (d7 : (du == ("__classdict__" : Str)) = false := by decide) (d8 : (xr == ("__debug__" : Str)) = false := by decide) :
    PE X (.Call (.Name xr p) [ea, .Constant (.str wd) kc pc] [] pos) (fun σ2 H2 Q => ta σ2 H2 fun v H3 => RRef X kk σ2 ct w wd Nr [v, .str wd] H3 Q) := by
  obtain ⟨oc, od, dV, kV, doc, pm', an, cdv, ct', osl, rfl, lk, hcg, _, _⟩ := Fr.ex
  refine SL.PE.weak (pe_callAt (R := fun σ vs Hr Q => RRef X kk σ ct w wd Nr vs Hr Q) hg hmr Fr.kp (pa_cons hea (pa_cons pe_str pa_nil) hst2) (fun pinsr sR σr Hr us vs Q Ir rv h => ?_) d8 hst2) fun σ2 H2 Q h => ?_
  · obtain ⟨f, c', pm, ctv, l, t, rfl, O, hf, hc, hT⟩ := h
    have kpr : Kept X sR sR Hr := Kept.refl Ir
    refine run_ofS (N := Nr) (ps := [ar, du]) (us := us) (vs := [.ref f, .str wd]) lk hcg Sr hr Ir.env0 (by have z := hbr sR us Ir.kIn (by cases rv with | cons r r2 => cases r2 with | cons r r3 => cases r3; rfl); rwa [List.append_nil] at z) rv rfl fun room => ?_
    have hcall := pe_callw (f := f) (c' := c') (pm := pm) (ctv := ctv) (p := p1) (p1 := p2) (pos := p3) Ir O kpr F hm hb Sw hNw hva (fun cdv' => hG _ cdv' _ _ _ _ l.q) room hN0 hv0 (show Gl (cxOf C8.CX0 X.prog X.w X.K X.mg X.base Nr xr sr gr cdv X.A X.stack sR Hr C8.E0) xw from hgw) d1 d2 d3 d4 d5
    have htup := pe_tup (x1 := k2) (pos := p6) (pa_cons (pe_non (X := cxOf C8.CX0 X.prog X.w X.K X.mg X.base Nr xr sr gr cdv X.A X.stack sR Hr C8.E0) (j := k1) (pos := p4)) (pa_cons (pe_var (i := 1) (pos := p5) hN1 hv1 d6 d7) pa_nil))
    have hcmp := pe_cmpR (pos := p7) (SL.op_eqA room.units) hcall htup (by first | exact nomark _ | rfl)
    exact ⟨_, pss_one (ps_ret (pos := p8) hcmp), hst f, hf, hc, hT⟩
  · exact h
end
end KL
namespace SL
open PySem PySem.Spec L2 LamX
open PyProof.Rows hiding St
def testS (s : Stmt) : Expr := match s with
  | .If e _ _ _ => e
  | .While e _ _ _ => e
  | .For _ e _ _ _ => e
  | s => valS s
def subE (e : Expr) (i : Nat) : Expr := match e with
  | .BoolOp _ es _ => es.getD i (.Constant .none 0 default)
  | .UnaryOp _ e _ => e
  | .BinOp a _ b _ => if i = 0 then a else b
  | .IfExp a b c _ => if i = 0 then a else if i = 1 then b else c
  | .Compare a _ es _ => if i = 0 then a else es.getD (i - 1) (.Constant .none 0 default)
  | .Call f es _ _ => if i = 0 then f else es.getD (i - 1) (.Constant .none 0 default)
  | .List es _ => es.getD i (.Constant .none 0 default)
  | .Tuple es _ _ => es.getD i (.Constant .none 0 default)
  | .Subscript a b _ => if i = 0 then a else b
  | .Attribute a _ _ => a
  | e => e
section
variable {X : Cx} {W : WX}
theorem pd_refused1 {Nr Nw : List Str} {xr xw ar du aw e y w : Str} {te : Expr} {any : Value → Option Bool} {wl : List Nat} {wd : Str} {sr sw : Scope} {gr gw : Addr} {pr pg : Arguments} {fr fd : FuncData} {kk i j : Nat} {ct : Addr → Option Bool} {ea : Expr} {mo : ME} {Ls : List (LamT × ME)}
    {r1 r2 rc k1 k2 k3 k4 : Nat} {pos q0 q1 q2 q3 q4 q5 q6 q7 q8 qc p1 p2 p3 p4 p5 p6 p7 p8 p9 pa pb pc pd pe pf ph : Pos}
    (Fr : FunD X.K xr xr pr (KL.bgR xw ar du r1 r2 q1 q2 q3 q4 q5 q6 q7 q8) sr [] [] gr fr) (hmr : X.mg xr = some (.ref gr)) (hbr : L2.Binds X.K fr [ar, du] []) (Sr : FnScope Nr [ar, du] sr)
    (F : FunD X.K xw xw pg (bgW aw e y w te k1 k2 k3 k4 p1 p2 p3 p4 p5 p6 p7 p8 p9 pa pb pc pd pe pf ph) sw [] [] gw fd) (hm : X.mg xw = some (.ref gw)) (hb : L2.Binds X.K fd [aw] []) (Sw : FnScope Nw [aw] sw)
    (test : ∀ (cdv : Value) (A2 : Around) (st2 : List Env) (s : Shared) (H : Hp), TestAs (cxOf C8.CX0 X.prog X.w X.K X.mg X.base Nw xw sw gw cdv A2 st2 s H C8.E0).nox te any) (hct : ∀ C, ct C = some true → any (.ref C) = some true) (hT : ∀ C, ct C = some true → XfC X.K C ∧ PySem.W.findIn X.K (.ref C) w = some none)
    (hr : Room (kk + 3) X.A) (hLs : LsOk X kk Ls) (hea : PE X ea (tE W mo)) (hwd : wd = ⟨wl.toArray⟩)
    (hN0 : Nr[0]? = some ar := by rfl) (hN1 : Nr[1]? = some du := by rfl) (hv0 : Vis sr ar := by exact .inl rfl) (hv1 : Vis sr du := by exact .inl rfl) (l2 : Nr.length = 2 := by rfl) (hgw : sr.names.lookup xw = some .globalImplicit := by rfl) (hg : Gl X xr := by rfl)
    (hst2 : starEach [ea, .Constant (.str wd) rc qc] X.env = (false, eval ea X.env) :: starEach [.Constant (.str wd) rc qc] X.env := by rfl)
    (hi : Nw[i]? = some e := by rfl) (hj : Nw[j]? = some y := by rfl) (hij : i ≠ j := by decide) (hle : sw.names.lookup e = some .local := by rfl) (hly : sw.names.lookup y = some .local := by rfl) (hva : Vis sw aw := by exact .inl rfl) (hNw : Nw[0]? = some aw := by rfl) (hN : Nw.Nodup := by decide +kernel)
    (d1 : (xw == ("__debug__" : Str)) = false := by decide) (d2 : (ar == ("__debug__" : Str)) = false := by decide) (d3 : (ar == ("__classdict__" : Str)) = false := by decide) (d4 : (aw == ("__debug__" : Str)) = false := by decide) (d5 : (aw == ("__classdict__" : Str)) = false := by decide) (d6 : (du == ("__debug__" : Str)) = false := by decide) (d7 : (du == ("__classdict__" : Str)) = false := by decide) (d8 : (xr == ("__debug__" : Str)) = false := by decide)
    (de : (e == ("__debug__" : Str)) = false := by decide) (ce : (e == ("__classdict__" : Str)) = false := by decide) (dy : (y == ("__debug__" : Str)) = false := by decide) (cy : (y == ("__classdict__" : Str)) = false := by decide) :
    PE X (.Call (.Name xr q0) [ea, .Constant (.str wd) rc qc] [] pos) (tE W (refM [] X.env.cells Ls ct w wl mo)) := by
  subst hwd
  have l1 : 1 ≤ Nw.length := by
    have := (List.getElem?_eq_some_iff.mp hNw).1
    omega
  obtain ⟨n1, n2, rfl⟩ : ∃ n1 n2, Nr = [n1, n2] := match Nr, l2 with | [a, b], _ => ⟨a, b, rfl⟩
  exact PE.weak (KL.pe_refused1 (Nr := [n1, n2]) (k1 := r1) (k2 := r2) Fr hmr hbr Sr F hm hb Sw hNw hva (fun cdr cdv A1 st1 s9 H9 q => KL.word_gives (X := cxOf C8.CX0 X.prog X.w X.K X.mg X.base [n1, n2] xr sr gr cdr A1 st1 s9 H9 C8.E0) hN hi hj hij hle hly (fun s H => test cdv _ _ s H) hct hT (fun f => by
      unfold L2.start
      obtain ⟨z, hz⟩ : ∃ z, Nw.length = z + 1 := ⟨Nw.length - 1, by omega⟩
      simp [hz]) (start1 l1) de ce dy cy) hr hN0 hN1 hv0 hv1 (fun f => rfl) hgw hg hea hst2 d1 d2 d3 d4 d5 d6 d7 d8) fun σ2 H2 Q h => ref_sem hLs (fun f => rfl) rfl h
end
section
variable {δ : DEnv} {S : Store} {Q : D → Store → Prop} {X : Ex → Store → Prop}
theorem wp_ref1 {κ : List (Str × Addr)} {ct : Addr → Option Bool} {w : Str} {wl : List Nat} {l : LamT} {me : ME} {P : Addr} {q : Str} (hj : ∃ i : Nat, S[i]? = some (.tab P q))
    (h : wp (me δ (S ++ [.fn κ 0 l])) (fun _ _ => False) (fun x S2 => ct x.C = some true ∧ ∃ d, lookS x.ns x.ds w = some d ∧ GW (eqG S2 (.tup [.non, d]) (.tup [.non, .str wl])) fun z => Q z S2)) : wp (refM [] κ [(l, me)] ct w wl (lamM P q κ 0 l) δ S) Q X :=
  wp_ref (n := S.length) (j := 0) (l := l) (me := me) (wp_lam hj ⟨rfl, by simp, rfl, h⟩)
end
end SL
namespace K03
open PySem PySem.Spec L2 SL NC
noncomputable def m_chain (A : Ad) (φlook_walls : Fn) (φlook_bars : Fn) (φis_side : Fn) (φstraight_of : Fn) (φchains_from : Fn) : MS := (seqM (exprM (appM 1 φlook_walls (consM (vM 0) nilM) []))
  (seqM (exprM (appM 2 φlook_bars (consM (vM 0) (consM (vM 1) nilM)) []))
  (seqM (ifSM (orB (notB (trM (appM 2 φis_side (consM (vM 0) (consM (vM 2) nilM)) []))) (notB (trM (appM 2 φis_side (consM (vM 0) (consM (vM 3) nilM)) [])))) (raiseM (mkxM A.BadSide 0 ["word"] gx_BadSide nilM)) nxM)
  (retM (get1M (appM 2 φchains_from (consM (appM 2 φstraight_of (consM (vM 0) (consM (vM 1) nilM)) []) (consM (vM 2) nilM)) []) (vM 3))))))
noncomputable def φchain (A : Ad) : Fn := defM 4 (m_chain A (φlook_walls A) (φlook_bars A) (φis_side A) (φstraight_of A) (φchains_from A))
noncomputable def m_law_straight (A : Ad) (φlaw_other : Fn) : MS := (seqM (asgM 3 (appM 1 φlaw_other (consM (vM 2) nilM) []))
  (retM (orM (op2M inG (op2M addG (vM 1) (vM 3)) (vM 0)) (op2M inG (op2M addG (vM 3) (vM 1)) (vM 0)))))
noncomputable def φlaw_straight (A : Ad) : Fn := defM 4 (m_law_straight A (φlaw_other A))
noncomputable def m_law_far (A : Ad) (φlaw_straight : Fn) : MS := (seqM (asgM 4 (op2M addG (callG list3G (consM (vM 0) nilM)) (compM (srcV (vM 0)) (.nm 9) yesB (mtS upperG (vM 9) nilM) [9])))
  (seqM (asgT (.tp [(.nm 5), (.nm 6)]) (callG tupG (consM (callG lstG (consM (vM 2) nilM)) (consM (cM (.int 0)) nilM))))
  (seqM (asgM 7 (callG lstG (consM (vM 2) nilM)))
  (seqM (whileM (cmpB neG (vM 5) (callG lstG nilM)) (seqM (ifSM (cmpB inG (vM 3) (vM 5)) (retM (vM 6)) nxM)
  (seqM (asgM 8 (compM (srcV (vM 4)) (.nm 10) (cmpB ninG (vM 10) (vM 7)) (vM 10) [10]))
  (seqM (asgM 5 (compM (srcV (vM 8)) (.nm 10) (trM (callG anyG (consM (compM (srcV (vM 5)) (.nm 11) yesB (appM 3 φlaw_straight (consM (vM 1) (consM (vM 11) (consM (vM 10) nilM))) []) [11]) nilM))) (vM 10) [10]))
  (seqM (asgM 7 (op2M addG (vM 7) (vM 5)))
  (asgM 6 (op2M addG (vM 6) (cM (.int 1)))))))))
  (retM (cM .non))))))
noncomputable def φlaw_far (A : Ad) : Fn := defM 12 (m_law_far A (φlaw_straight A))
noncomputable def m_law (A : Ad) (κ : List (Str × Addr)) (l0 : LamT) (l1 : LamT) (φlaw_draw : Fn) (φlaw_shuts : Fn) (φlaw_pairs : Fn) (φlaw_of : Fn) (φchain : Fn) (φlaw_far : Fn) (φlaw_straight : Fn) (φlaw_strange : Fn) : MS := (seqM (asgM 2 (appM 2 φlaw_shuts (consM (vM 1) (consM (op2M addG (cM (.int 1)) (appM 2 φlaw_draw (consM (vM 1) (consM (cM (.int 9)) nilM)) [])) nilM)) []))
  (seqM (asgM 3 (lstLM nilM))
  (seqM (forM (src1 (ifM (cmpB gtG (callG lenG (consM (vM 2) nilM)) (cM (.int 1))) (appM 2 φlaw_draw (consM (vM 1) (consM (cM (.int 16)) nilM)) []) (cM (.int 0)))) (.nm 4) (seqM (asgM 5 (appM 2 φlaw_of (consM (vM 1) (consM (appM 1 φlaw_pairs (consM (vM 2) nilM) []) nilM)) []))
  (ifSM (cmpB ninG (vM 5) (vM 3)) (exprM (lmM appendG (vM 3) (consM (vM 5) nilM))) nxM)))
  (seqM (forM (src1 (cM (.int 6))) (.nm 6) (seqM (asgM 7 (appM 2 φlaw_of (consM (vM 1) (consM (callG lstG (consM (appM 2 φlaw_of (consM (vM 1) (consM (vM 2) nilM)) []) (consM (mtS upperG (appM 2 φlaw_of (consM (vM 1) (consM (vM 2) nilM)) []) nilM) nilM))) nilM)) []))
  (seqM (asgM 8 (appM 2 φlaw_of (consM (vM 1) (consM (callG lstG (consM (appM 2 φlaw_of (consM (vM 1) (consM (vM 2) nilM)) []) (consM (mtS upperG (appM 2 φlaw_of (consM (vM 1) (consM (vM 2) nilM)) []) nilM) nilM))) nilM)) []))
  (seqM (asgM 9 (appM 4 φchain (consM (vM 2) (consM (callG list3G (consM (vM 3) nilM)) (consM (vM 7) (consM (vM 8) nilM)))) []))
  (seqM (asgM 10 (appM 4 φlaw_far (consM (vM 2) (consM (vM 3) (consM (vM 7) (consM (vM 8) nilM)))) []))
  (seqM (ifSM (cmpB isG (vM 10) (cM .non)) (seqM (ifSM (cmpB isntG (vM 9) (cM .non)) (retM (cM (.bl false))) nxM)
  ctM) nxM)
  (seqM (ifSM (orB (notB (trM (callG isiA (consM (vM 9) (consM (cM (.raw (.ty "list"))) nilM))))) (orB (cmpB neG (callG lenG (consM (vM 9) nilM)) (op2M addG (vM 10) (cM (.int 1)))) (orB (cmpB neG (op2M ixG (vM 9) (cM (.int 0))) (vM 7)) (cmpB neG (op2M ixG (vM 9) (op1M negG (cM (.int 1)))) (vM 8))))) (retM (cM (.bl false))) nxM)
  (ifSM (notB (trM (callG allG (consM (compM (src1 (vM 10)) (.nm 4) yesB (appM 3 φlaw_straight (consM (vM 3) (consM (op2M ixG (vM 9) (vM 4)) (consM (op2M ixG (vM 9) (op2M addG (vM 4) (cM (.int 1)))) nilM))) []) [4]) nilM)))) (retM (cM (.bl false))) nxM))))))))
  (seqM (asgM 11 (appM 2 φlaw_of (consM (vM 1) (consM (callG lstG (consM (cM (.str [])) (consM (cM (.str [97, 98])) (consM (cM (.str [49])) (consM (cM (.str [32])) (consM (cM (.str [64])) (consM (appM 1 φlaw_strange (consM (vM 2) nilM) []) nilM))))))) nilM)) []))
  (seqM (asgM 12 (mtS upperG (op2M ixG (vM 2) (cM (.int 0))) nilM))
  (retM (andM (refM [] κ [(l0, (appM 4 φchain (consM (vM 2) (consM (vM 3) (consM (vM 11) (consM (vM 12) nilM)))) []))] (ctOf [(A.BadSide, true)]) "word" [98, 97, 100, 115, 105, 100, 101] (lamM A.t_law "law.<locals>.<lambda>" κ 0 l0)) (refM [] κ [(l1, (appN 0 4 4 φchain (fun ds es => ord [1, 0, 3, 2] (ds ++ es)) nilM (consM (vM 3) (consM (vM 2) (consM (vM 11) (consM (vM 12) nilM))))))] (ctOf [(A.BadSide, true)]) "word" [98, 97, 100, 115, 105, 100, 101] (lamM A.t_law "law.<locals>.<lambda>" κ 0 l1))))))))))
noncomputable def mlaw (A : Ad) (κ : List (Str × Addr)) (l0 : LamT) (l1 : LamT) : MS := m_law A κ l0 l1 (φlaw_draw A) (φlaw_shuts A) (φlaw_pairs A) (φlaw_of A) (φchain A) (φlaw_far A) (φlaw_straight A) (φlaw_strange A)
end K03
namespace SL
open PySem PySem.Spec L2
open PyProof.Rows hiding St
structure OxC (K : PySem.W.Frag) (C : Addr) (i : Nat := 0) : Prop where
  cls : ∃ nm qn N bs bm sn sub ab col dd c0 c1 c2 c3 c5, K.lookup C = some (excClassObj nm qn C N bs bm true sn sub ab col dd c0 c1 c2 c3 c5 (oexW i)) ∧ PySem.W.excTail (oexT i) bm = true
  sa : PySem.W.findIn K (.ref C) "__setattr__" = some (some (.builtin "object.__setattr__"))
  exC : PySem.W.subIn K (.ref C) (.type "BaseException") = some true
  tyC : PySem.W.typeIn K (.ref C) = some (.type "type")
  kC : PySem.W.keepIn K (.ref C) = true
section
open Builtin Builtin.ObjectAttr PySem.HandSPX
variable {prog : Program} {w : World} {A : Around} {E : Value → Shared → Prop} {R : Result → Shared → Prop} {hp : Heap} {g : Array GenState} {d : Drawn} {t : Nat} {os : OsState}
end
section
variable {X : Cx} {pins : List (Addr × Obj)} {σ : St} {H : Hp} {s : Shared} {a C dx : Addr} {i : Nat} {f : Str} {y : V} {u : Value} {fs : List (Str × V)} {Q : Unit → Shared → Prop} {E : Value → Shared → Prop} {A : Around}
end
section
variable {X : Cx} {o e : Expr} {es : List Expr} {to te : TE} {ta : TA} {f x : Str} {B : String} {i : Nat} {p p' p1 p2 pos : Pos}
end
section
variable {P : Program} {w : World} {K : PySem.W.Frag} {mg : Str → Option Value} {base : Heap} {k n i : Nat} {f : Addr} {fd : FuncData} {x qual : Str} {params : Arguments} {body : List Stmt} {scope : Scope} {dvs : List V} {kws : List (Str × V)} {N ps fs : List Str} {g : List V → List V} {t : TS}
end
section
variable {K : PySem.W.Frag} {fs0 : List Str} {g0 : List V → List V} {fl f1 f2 : Str} {vs : List V} {H : Hp} {Q : VK} {E : XK} {c : Str} {s1 s2 s3 : Str} {i : Nat}
end
section
variable {X : Cx} {W : WX} {k n i : Nat} {fI C : Addr} {fd : FuncData} {ps fs : List Str} {g : List V → List V} {gd : List D → List D} {x : Str} {p pos : Pos} {e : Expr} {es : List Expr} {ms : MA} {mx : DEnv → Store → Res Ex}
structure OexIX (K : PySem.W.Frag) (C fI : Addr) (fd : FuncData) (ps fs : List Str) (i : Nat := 0) : Prop where
  T : OxC K C i
  iC : PySem.W.findIn K (.ref C) "__init__" = some (some (.ref fI))
  tI : PySem.W.typeIn K (.ref fI) = some (.type "function")
  hb : Binds K fd ps []
  hf : ∀ f ∈ fs, PySem.W.findIn K (.ref C) f = some none
end
section
variable {K : PySem.W.Frag} {C f : Addr}
end
end SL
namespace K03
open PySem PySem.Spec L2 SL NC
open PyProof.Rows hiding St
abbrev TabsB (K : PySem.W.Frag) (mg : Str → Option Value) (base : Heap) : Prop := ∀ p ∈ tfL, LamX.TabB base mg (He.cT K p).1 (He.cT K p).2
structure Fds where
  (d_law d_law_start d_law_draw d_law_shuts d_law_pairs d_law_of d_chain d_law_far d_law_straight d_law_strange d_law_refused d_law_word d_law_letters d_look_walls d_look_bars d_is_side d_straight_of d_chains_from d_law_other d_are_walls d_is_bar d_sides_of d_other d_HallError_init d_BadWalls_init d_BadBar_init d_BadSide_init : FuncData)
abbrev adK (K : PySem.W.Frag) : Ad := ⟨He.ga K "HallError", 0, 0, He.ga K "BadWalls", He.ga K "BadBar", He.ga K "BadSide", 0, 0, 0, 0, 0, 0, 0, 0, 0, 0, 0, 0, 0, 0, 0, 0, 0, 0, 0, 0, 0, 0, 0, 0, 0, 0, 0, 0, 0, 0, 0, 0, 0, 0, 0, 0, 0, (He.cT K ("law", none)).2, 0, 0, 0⟩
structure Fx (K : PySem.W.Frag) (mg : Str → Option Value) (E : Fds) : Prop where
  F_law : FunD K "law" "law" (defArgs (top 33)) (defBody (top 33)) (defScope (top 33)) [] [] (He.fAd K ("law", none)) E.d_law
  F_law_start : FunD K "_law_start" "_law_start" (defArgs (top 21)) (defBody (top 21)) (defScope (top 21)) [] [] (He.fAd K ("_law_start", none)) E.d_law_start
  F_law_draw : FunD K "_law_draw" "_law_draw" (defArgs (top 22)) (defBody (top 22)) (defScope (top 22)) [] [] (He.fAd K ("_law_draw", none)) E.d_law_draw
  F_law_shuts : FunD K "_law_shuts" "_law_shuts" (defArgs (top 25)) (defBody (top 25)) (defScope (top 25)) [] [] (He.fAd K ("_law_shuts", none)) E.d_law_shuts
  F_law_pairs : FunD K "_law_pairs" "_law_pairs" (defArgs (top 27)) (defBody (top 27)) (defScope (top 27)) [] [] (He.fAd K ("_law_pairs", none)) E.d_law_pairs
  F_law_of : FunD K "_law_of" "_law_of" (defArgs (top 23)) (defBody (top 23)) (defScope (top 23)) [] [] (He.fAd K ("_law_of", none)) E.d_law_of
  F_chain : FunD K "chain" "chain" (defArgs (top 19)) (defBody (top 19)) (defScope (top 19)) [] [] (He.fAd K ("chain", none)) E.d_chain
  F_law_far : FunD K "_law_far" "_law_far" (defArgs (top 32)) (defBody (top 32)) (defScope (top 32)) [] [] (He.fAd K ("_law_far", none)) E.d_law_far
  F_law_straight : FunD K "_law_straight" "_law_straight" (defArgs (top 31)) (defBody (top 31)) (defScope (top 31)) [] [] (He.fAd K ("_law_straight", none)) E.d_law_straight
  F_law_strange : FunD K "_law_strange" "_law_strange" (defArgs (top 30)) (defBody (top 30)) (defScope (top 30)) [] [] (He.fAd K ("_law_strange", none)) E.d_law_strange
  F_law_refused : FunD K "_law_refused" "_law_refused" (defArgs (top 29)) (defBody (top 29)) (defScope (top 29)) [] [] (He.fAd K ("_law_refused", none)) E.d_law_refused
  F_law_word : FunD K "_law_word" "_law_word" (defArgs (top 28)) (defBody (top 28)) (defScope (top 28)) [] [] (He.fAd K ("_law_word", none)) E.d_law_word
  F_law_letters : FunD K "_law_letters" "_law_letters" (defArgs (top 24)) (defBody (top 24)) (defScope (top 24)) [] [] (He.fAd K ("_law_letters", none)) E.d_law_letters
  F_look_walls : FunD K "look_walls" "look_walls" (defArgs (top 12)) (defBody (top 12)) (defScope (top 12)) [] [] (He.fAd K ("look_walls", none)) E.d_look_walls
  F_look_bars : FunD K "look_bars" "look_bars" (defArgs (top 15)) (defBody (top 15)) (defScope (top 15)) [] [] (He.fAd K ("look_bars", none)) E.d_look_bars
  F_is_side : FunD K "is_side" "is_side" (defArgs (top 13)) (defBody (top 13)) (defScope (top 13)) [] [] (He.fAd K ("is_side", none)) E.d_is_side
  F_straight_of : FunD K "straight_of" "straight_of" (defArgs (top 17)) (defBody (top 17)) (defScope (top 17)) [] [] (He.fAd K ("straight_of", none)) E.d_straight_of
  F_chains_from : FunD K "chains_from" "chains_from" (defArgs (top 18)) (defBody (top 18)) (defScope (top 18)) [] [] (He.fAd K ("chains_from", none)) E.d_chains_from
  F_law_other : FunD K "_law_other" "_law_other" (defArgs (top 26)) (defBody (top 26)) (defScope (top 26)) [] [] (He.fAd K ("_law_other", none)) E.d_law_other
  F_are_walls : FunD K "are_walls" "are_walls" (defArgs (top 11)) (defBody (top 11)) (defScope (top 11)) [] [] (He.fAd K ("are_walls", none)) E.d_are_walls
  F_is_bar : FunD K "is_bar" "is_bar" (defArgs (top 14)) (defBody (top 14)) (defScope (top 14)) [] [] (He.fAd K ("is_bar", none)) E.d_is_bar
  F_sides_of : FunD K "sides_of" "sides_of" (defArgs (top 16)) (defBody (top 16)) (defScope (top 16)) [] [] (He.fAd K ("sides_of", none)) E.d_sides_of
  F_other : FunD K "other" "other" (defArgs (top 10)) (defBody (top 10)) (defScope (top 10)) [] [] (He.fAd K ("other", none)) E.d_other
  F_HallError_init : FunD K "__init__" "HallError.__init__" (defArgs (clsDef (top 1) 0)) (defBody (clsDef (top 1) 0)) (defScope (clsDef (top 1) 0)) [] [] (He.fAd K ("HallError", some "__init__")) E.d_HallError_init
  F_BadWalls_init : FunD K "__init__" "BadWalls.__init__" (defArgs (clsDef (top 4) 0)) (defBody (clsDef (top 4) 0)) (defScope (clsDef (top 4) 0)) [] [] (He.fAd K ("BadWalls", some "__init__")) E.d_BadWalls_init
  F_BadBar_init : FunD K "__init__" "BadBar.__init__" (defArgs (clsDef (top 5) 0)) (defBody (clsDef (top 5) 0)) (defScope (clsDef (top 5) 0)) [] [] (He.fAd K ("BadBar", some "__init__")) E.d_BadBar_init
  F_BadSide_init : FunD K "__init__" "BadSide.__init__" (defArgs (clsDef (top 6) 0)) (defBody (clsDef (top 6) 0)) (defScope (clsDef (top 6) 0)) [] [] (He.fAd K ("BadSide", some "__init__")) E.d_BadSide_init
  m_law_start : mg "_law_start" = some (.ref (He.fAd K ("_law_start", none)))
  m_law_draw : mg "_law_draw" = some (.ref (He.fAd K ("_law_draw", none)))
  m_law_shuts : mg "_law_shuts" = some (.ref (He.fAd K ("_law_shuts", none)))
  n_range : mg "range" = none
  n_len : mg "len" = none
  m_law_pairs : mg "_law_pairs" = some (.ref (He.fAd K ("_law_pairs", none)))
  m_law_of : mg "_law_of" = some (.ref (He.fAd K ("_law_of", none)))
  n_list : mg "list" = none
  m_chain : mg "chain" = some (.ref (He.fAd K ("chain", none)))
  m_law_far : mg "_law_far" = some (.ref (He.fAd K ("_law_far", none)))
  n_isinstance : mg "isinstance" = none
  m_law_straight : mg "_law_straight" = some (.ref (He.fAd K ("_law_straight", none)))
  n_all : mg "all" = none
  m_law_strange : mg "_law_strange" = some (.ref (He.fAd K ("_law_strange", none)))
  w_law_law_word : ctBT K [.ref (He.ga K "HallError"), .ref (He.ga K "Missing"), .ref (He.ga K "NothingLeft")] [(He.ga K "BadSide", true)] = true
  u_law_law_word : xfAll K [(He.ga K "BadSide", true)] ["word"] = true
  m_law_word : mg "_law_word" = some (.ref (He.fAd K ("_law_word", none)))
  m_law_refused : mg "_law_refused" = some (.ref (He.fAd K ("_law_refused", none)))
  g_HallError : mg "HallError" = some (.ref (He.ga K "HallError"))
  g_Missing : mg "Missing" = some (.ref (He.ga K "Missing"))
  g_NothingLeft : mg "NothingLeft" = some (.ref (He.ga K "NothingLeft"))
  m_law_letters : mg "_law_letters" = some (.ref (He.fAd K ("_law_letters", none)))
  m_look_walls : mg "look_walls" = some (.ref (He.fAd K ("look_walls", none)))
  m_look_bars : mg "look_bars" = some (.ref (He.fAd K ("look_bars", none)))
  m_is_side : mg "is_side" = some (.ref (He.fAd K ("is_side", none)))
  o_BadSide : OexI K (He.ga K "BadSide") (He.fAd K ("BadSide", some "__init__")) E.d_BadSide_init ["self"] ["word"]
  g_BadSide : mg "BadSide" = some (.ref (He.ga K "BadSide"))
  m_straight_of : mg "straight_of" = some (.ref (He.fAd K ("straight_of", none)))
  m_chains_from : mg "chains_from" = some (.ref (He.fAd K ("chains_from", none)))
  n_any : mg "any" = none
  m_law_other : mg "_law_other" = some (.ref (He.fAd K ("_law_other", none)))
  m_are_walls : mg "are_walls" = some (.ref (He.fAd K ("are_walls", none)))
  o_BadWalls : OexI K (He.ga K "BadWalls") (He.fAd K ("BadWalls", some "__init__")) E.d_BadWalls_init ["self"] ["word"]
  g_BadWalls : mg "BadWalls" = some (.ref (He.ga K "BadWalls"))
  n_enumerate : mg "enumerate" = none
  m_is_bar : mg "is_bar" = some (.ref (He.fAd K ("is_bar", none)))
  o_BadBar : OexI K (He.ga K "BadBar") (He.fAd K ("BadBar", some "__init__")) E.d_BadBar_init ["self", "at"] ["at", "word"]
  g_BadBar : mg "BadBar" = some (.ref (He.ga K "BadBar"))
  m_sides_of : mg "sides_of" = some (.ref (He.fAd K ("sides_of", none)))
  n_sorted : mg "sorted" = none
  m_other : mg "other" = some (.ref (He.fAd K ("other", none)))
  i_WIDEST : ∃ t, mg "WIDEST" = some (.int 12 t)
  s_SMALL : ∃ t, mg "SMALL" = some (.str "abcdefghijklmnopqrstuvwxyz" t)
  n_zip : mg "zip" = none
  n_ValueError : mg "ValueError" = none
  v_VE : PySem.W.findCls K (.type "ValueError") (.type "type") "__init__" = some (.val (.builtin "ValueError.__init__"))
  r_HallError : ClX.CRead K (He.ga K "HallError") (.type "type") ∧ ClX.CVal K (He.ga K "HallError") (.type "type") "__init__" (.ref (He.fAd K ("HallError", some "__init__"))) (.ref (He.fAd K ("HallError", some "__init__")))
  m_law : mg "law" = some (.ref (He.fAd K ("law", none)))
theorem sc_law : FnScope ["_law_script", "_law_d", "_law_shuts_it", "_law_bars_it", "_law_k", "_law_bar", "_law_turn", "_law_one_it", "_law_two_it", "_law_told", "_law_far_here", "_law_odd", "_law_good"] ["_law_script"] (defScope (top 33)) := ⟨rfl, rfl, rfl, by decide +kernel, rfl, by decide +kernel, by decide +kernel⟩
theorem sc_law_start : FnScope ["_law_script", "_law_seed", "_law_cell"] ["_law_script"] (defScope (top 21)) := ⟨rfl, rfl, rfl, by decide +kernel, rfl, by decide +kernel, by decide +kernel⟩
theorem sc_law_draw : FnScope ["_law_d", "_law_many", "_law_cell", "_law_digit", "_law_mix"] ["_law_d", "_law_many"] (defScope (top 22)) := ⟨rfl, rfl, rfl, by decide +kernel, rfl, by decide +kernel, by decide +kernel⟩
theorem sc_law_shuts : FnScope ["_law_d", "_law_most", "_law_found", "_law_skip", "_law_sign"] ["_law_d", "_law_most"] (defScope (top 25)) := ⟨rfl, rfl, rfl, by decide +kernel, rfl, by decide +kernel, by decide +kernel⟩
theorem sc_law_pairs : FnScope ["_law_shuts_it", "_law_found", "_law_one_it", "_law_two_it", "_law_first", "_law_second"] ["_law_shuts_it"] (defScope (top 27)) := ⟨rfl, rfl, rfl, by decide +kernel, rfl, by decide +kernel, by decide +kernel⟩
theorem sc_law_of : FnScope ["_law_d", "_law_some"] ["_law_d", "_law_some"] (defScope (top 23)) := ⟨rfl, rfl, rfl, by decide +kernel, rfl, by decide +kernel, by decide +kernel⟩
theorem sc_chain : FnScope ["walls", "bars", "one", "two"] ["walls", "bars", "one", "two"] (defScope (top 19)) := ⟨rfl, rfl, rfl, by decide +kernel, rfl, by decide +kernel, by decide +kernel⟩
theorem sc_law_far : FnScope ["_law_shuts_it", "_law_bars_it", "_law_one_it", "_law_two_it", "_law_sides", "_law_near_it", "_law_many", "_law_known", "_law_later", "_law_shut", "_law_side", "_law_here"] ["_law_shuts_it", "_law_bars_it", "_law_one_it", "_law_two_it"] (defScope (top 32)) := ⟨rfl, rfl, rfl, by decide +kernel, rfl, by decide +kernel, by decide +kernel⟩
theorem sc_law_straight : FnScope ["_law_bars_it", "_law_one_it", "_law_two_it", "_law_back"] ["_law_bars_it", "_law_one_it", "_law_two_it"] (defScope (top 31)) := ⟨rfl, rfl, rfl, by decide +kernel, rfl, by decide +kernel, by decide +kernel⟩
theorem sc_law_strange : FnScope ["_law_shuts_it", "_law_sign"] ["_law_shuts_it"] (defScope (top 30)) := ⟨rfl, rfl, rfl, by decide +kernel, rfl, by decide +kernel, by decide +kernel⟩
theorem sc_law_refused : FnScope ["_law_ask", "_law_due"] ["_law_ask", "_law_due"] (defScope (top 29)) := ⟨rfl, rfl, rfl, by decide +kernel, rfl, by decide +kernel, by decide +kernel⟩
theorem sc_law_word : FnScope ["_law_ask", "_law_found", "e"] ["_law_ask"] (defScope (top 28)) := ⟨rfl, rfl, rfl, by decide +kernel, rfl, by decide +kernel, by decide +kernel⟩
theorem sc_law_letters : FnScope [] [] (defScope (top 24)) := ⟨rfl, rfl, rfl, by decide +kernel, rfl, by decide +kernel, by decide +kernel⟩
theorem sc_look_walls : FnScope ["walls"] ["walls"] (defScope (top 12)) := ⟨rfl, rfl, rfl, by decide +kernel, rfl, by decide +kernel, by decide +kernel⟩
theorem sc_look_bars : FnScope ["walls", "bars", "at", "bar"] ["walls", "bars"] (defScope (top 15)) := ⟨rfl, rfl, rfl, by decide +kernel, rfl, by decide +kernel, by decide +kernel⟩
theorem sc_is_side : FnScope ["walls", "side"] ["walls", "side"] (defScope (top 13)) := ⟨rfl, rfl, rfl, by decide +kernel, rfl, by decide +kernel, by decide +kernel⟩
theorem sc_straight_of : FnScope ["walls", "bars", "found", "bar", "side"] ["walls", "bars"] (defScope (top 17)) := ⟨rfl, rfl, rfl, by decide +kernel, rfl, by decide +kernel, by decide +kernel⟩
theorem sc_chains_from : FnScope ["straight", "side", "chains", "waiting", "here", "later"] ["straight", "side"] (defScope (top 18)) := ⟨rfl, rfl, rfl, by decide +kernel, rfl, by decide +kernel, by decide +kernel⟩
theorem sc_law_other : FnScope ["_law_side"] ["_law_side"] (defScope (top 26)) := ⟨rfl, rfl, rfl, by decide +kernel, rfl, by decide +kernel, by decide +kernel⟩
theorem sc_are_walls : FnScope ["walls", "sign", "one", "two"] ["walls"] (defScope (top 11)) := ⟨rfl, rfl, rfl, by decide +kernel, rfl, by decide +kernel, by decide +kernel⟩
theorem sc_is_bar : FnScope ["walls", "bar", "side"] ["walls", "bar"] (defScope (top 14)) := ⟨rfl, rfl, rfl, by decide +kernel, rfl, by decide +kernel, by decide +kernel⟩
theorem sc_sides_of : FnScope ["walls", "wall", "side"] ["walls"] (defScope (top 16)) := ⟨rfl, rfl, rfl, by decide +kernel, rfl, by decide +kernel, by decide +kernel⟩
theorem sc_other : FnScope ["side"] ["side"] (defScope (top 10)) := ⟨rfl, rfl, rfl, by decide +kernel, rfl, by decide +kernel, by decide +kernel⟩
theorem sc_HallError_init : FnScope ["self", "word"] ["self", "word"] (defScope (clsDef (top 1) 0)) := ⟨rfl, rfl, rfl, by decide +kernel, rfl, by decide +kernel, by decide +kernel⟩
theorem sc_BadWalls_init : FnScope ["self"] ["self"] (defScope (clsDef (top 4) 0)) := ⟨rfl, rfl, rfl, by decide +kernel, rfl, by decide +kernel, by decide +kernel⟩
theorem sc_BadBar_init : FnScope ["self", "at"] ["self", "at"] (defScope (clsDef (top 5) 0)) := ⟨rfl, rfl, rfl, by decide +kernel, rfl, by decide +kernel, by decide +kernel⟩
theorem sc_BadSide_init : FnScope ["self"] ["self"] (defScope (clsDef (top 6) 0)) := ⟨rfl, rfl, rfl, by decide +kernel, rfl, by decide +kernel, by decide +kernel⟩
section
variable {P : Program} {w : World} {K : PySem.W.Frag} {mg : Str → Option Value} {base : Heap} {E : Fds} {k : Nat}
theorem bb_law_start {fd : FuncData} {kws : List (Str × V)} {f : Addr} (F : FunD K "_law_start" "_law_start" (defArgs (top 21)) (defBody (top 21)) (defScope (top 21)) [] kws f fd) : Binds K fd ["_law_script"] [] := F.bindsN fun _ _ _ _ _ _ us hl => match us, hl with | [_], _ => rfl
theorem b_law_start (x : Fx K mg E) : Binds K E.d_law_start ["_law_script"] [] := bb_law_start x.F_law_start
theorem bb_law_draw {fd : FuncData} {kws : List (Str × V)} {f : Addr} (F : FunD K "_law_draw" "_law_draw" (defArgs (top 22)) (defBody (top 22)) (defScope (top 22)) [] kws f fd) : Binds K fd ["_law_d", "_law_many"] [] := F.bindsN fun _ _ _ _ _ _ us hl => match us, hl with | [_, _], _ => rfl
theorem b_law_draw (x : Fx K mg E) : Binds K E.d_law_draw ["_law_d", "_law_many"] [] := bb_law_draw x.F_law_draw
theorem bb_law_shuts {fd : FuncData} {kws : List (Str × V)} {f : Addr} (F : FunD K "_law_shuts" "_law_shuts" (defArgs (top 25)) (defBody (top 25)) (defScope (top 25)) [] kws f fd) : Binds K fd ["_law_d", "_law_most"] [] := F.bindsN fun _ _ _ _ _ _ us hl => match us, hl with | [_, _], _ => rfl
theorem b_law_shuts (x : Fx K mg E) : Binds K E.d_law_shuts ["_law_d", "_law_most"] [] := bb_law_shuts x.F_law_shuts
theorem bb_law_pairs {fd : FuncData} {kws : List (Str × V)} {f : Addr} (F : FunD K "_law_pairs" "_law_pairs" (defArgs (top 27)) (defBody (top 27)) (defScope (top 27)) [] kws f fd) : Binds K fd ["_law_shuts_it"] [] := F.bindsN fun _ _ _ _ _ _ us hl => match us, hl with | [_], _ => rfl
theorem b_law_pairs (x : Fx K mg E) : Binds K E.d_law_pairs ["_law_shuts_it"] [] := bb_law_pairs x.F_law_pairs
theorem bb_law_of {fd : FuncData} {kws : List (Str × V)} {f : Addr} (F : FunD K "_law_of" "_law_of" (defArgs (top 23)) (defBody (top 23)) (defScope (top 23)) [] kws f fd) : Binds K fd ["_law_d", "_law_some"] [] := F.bindsN fun _ _ _ _ _ _ us hl => match us, hl with | [_, _], _ => rfl
theorem b_law_of (x : Fx K mg E) : Binds K E.d_law_of ["_law_d", "_law_some"] [] := bb_law_of x.F_law_of
theorem bb_chain {fd : FuncData} {kws : List (Str × V)} {f : Addr} (F : FunD K "chain" "chain" (defArgs (top 19)) (defBody (top 19)) (defScope (top 19)) [] kws f fd) : Binds K fd ["walls", "bars", "one", "two"] [] := F.bindsN fun _ _ _ _ _ _ us hl => match us, hl with | [_, _, _, _], _ => rfl
theorem b_chain (x : Fx K mg E) : Binds K E.d_chain ["walls", "bars", "one", "two"] [] := bb_chain x.F_chain
theorem bb_law_far {fd : FuncData} {kws : List (Str × V)} {f : Addr} (F : FunD K "_law_far" "_law_far" (defArgs (top 32)) (defBody (top 32)) (defScope (top 32)) [] kws f fd) : Binds K fd ["_law_shuts_it", "_law_bars_it", "_law_one_it", "_law_two_it"] [] := F.bindsN fun _ _ _ _ _ _ us hl => match us, hl with | [_, _, _, _], _ => rfl
theorem b_law_far (x : Fx K mg E) : Binds K E.d_law_far ["_law_shuts_it", "_law_bars_it", "_law_one_it", "_law_two_it"] [] := bb_law_far x.F_law_far
theorem bb_law_straight {fd : FuncData} {kws : List (Str × V)} {f : Addr} (F : FunD K "_law_straight" "_law_straight" (defArgs (top 31)) (defBody (top 31)) (defScope (top 31)) [] kws f fd) : Binds K fd ["_law_bars_it", "_law_one_it", "_law_two_it"] [] := F.bindsN fun _ _ _ _ _ _ us hl => match us, hl with | [_, _, _], _ => rfl
theorem b_law_straight (x : Fx K mg E) : Binds K E.d_law_straight ["_law_bars_it", "_law_one_it", "_law_two_it"] [] := bb_law_straight x.F_law_straight
theorem bb_law_strange {fd : FuncData} {kws : List (Str × V)} {f : Addr} (F : FunD K "_law_strange" "_law_strange" (defArgs (top 30)) (defBody (top 30)) (defScope (top 30)) [] kws f fd) : Binds K fd ["_law_shuts_it"] [] := F.bindsN fun _ _ _ _ _ _ us hl => match us, hl with | [_], _ => rfl
theorem b_law_strange (x : Fx K mg E) : Binds K E.d_law_strange ["_law_shuts_it"] [] := bb_law_strange x.F_law_strange
theorem bb_law_refused {fd : FuncData} {kws : List (Str × V)} {f : Addr} (F : FunD K "_law_refused" "_law_refused" (defArgs (top 29)) (defBody (top 29)) (defScope (top 29)) [] kws f fd) : Binds K fd ["_law_ask", "_law_due"] [] := F.bindsN fun _ _ _ _ _ _ us hl => match us, hl with | [_, _], _ => rfl
theorem b_law_refused (x : Fx K mg E) : Binds K E.d_law_refused ["_law_ask", "_law_due"] [] := bb_law_refused x.F_law_refused
theorem bb_law_word {fd : FuncData} {kws : List (Str × V)} {f : Addr} (F : FunD K "_law_word" "_law_word" (defArgs (top 28)) (defBody (top 28)) (defScope (top 28)) [] kws f fd) : Binds K fd ["_law_ask"] [] := F.bindsN fun _ _ _ _ _ _ us hl => match us, hl with | [_], _ => rfl
theorem b_law_word (x : Fx K mg E) : Binds K E.d_law_word ["_law_ask"] [] := bb_law_word x.F_law_word
theorem bb_law_letters {fd : FuncData} {kws : List (Str × V)} {f : Addr} (F : FunD K "_law_letters" "_law_letters" (defArgs (top 24)) (defBody (top 24)) (defScope (top 24)) [] kws f fd) : Binds K fd [] [] := F.bindsN fun _ _ _ _ _ _ us hl => match us, hl with | [], _ => rfl
theorem b_law_letters (x : Fx K mg E) : Binds K E.d_law_letters [] [] := bb_law_letters x.F_law_letters
theorem bb_look_walls {fd : FuncData} {kws : List (Str × V)} {f : Addr} (F : FunD K "look_walls" "look_walls" (defArgs (top 12)) (defBody (top 12)) (defScope (top 12)) [] kws f fd) : Binds K fd ["walls"] [] := F.bindsN fun _ _ _ _ _ _ us hl => match us, hl with | [_], _ => rfl
theorem b_look_walls (x : Fx K mg E) : Binds K E.d_look_walls ["walls"] [] := bb_look_walls x.F_look_walls
theorem bb_look_bars {fd : FuncData} {kws : List (Str × V)} {f : Addr} (F : FunD K "look_bars" "look_bars" (defArgs (top 15)) (defBody (top 15)) (defScope (top 15)) [] kws f fd) : Binds K fd ["walls", "bars"] [] := F.bindsN fun _ _ _ _ _ _ us hl => match us, hl with | [_, _], _ => rfl
theorem b_look_bars (x : Fx K mg E) : Binds K E.d_look_bars ["walls", "bars"] [] := bb_look_bars x.F_look_bars
theorem bb_is_side {fd : FuncData} {kws : List (Str × V)} {f : Addr} (F : FunD K "is_side" "is_side" (defArgs (top 13)) (defBody (top 13)) (defScope (top 13)) [] kws f fd) : Binds K fd ["walls", "side"] [] := F.bindsN fun _ _ _ _ _ _ us hl => match us, hl with | [_, _], _ => rfl
theorem b_is_side (x : Fx K mg E) : Binds K E.d_is_side ["walls", "side"] [] := bb_is_side x.F_is_side
theorem bb_straight_of {fd : FuncData} {kws : List (Str × V)} {f : Addr} (F : FunD K "straight_of" "straight_of" (defArgs (top 17)) (defBody (top 17)) (defScope (top 17)) [] kws f fd) : Binds K fd ["walls", "bars"] [] := F.bindsN fun _ _ _ _ _ _ us hl => match us, hl with | [_, _], _ => rfl
theorem b_straight_of (x : Fx K mg E) : Binds K E.d_straight_of ["walls", "bars"] [] := bb_straight_of x.F_straight_of
theorem bb_chains_from {fd : FuncData} {kws : List (Str × V)} {f : Addr} (F : FunD K "chains_from" "chains_from" (defArgs (top 18)) (defBody (top 18)) (defScope (top 18)) [] kws f fd) : Binds K fd ["straight", "side"] [] := F.bindsN fun _ _ _ _ _ _ us hl => match us, hl with | [_, _], _ => rfl
theorem b_chains_from (x : Fx K mg E) : Binds K E.d_chains_from ["straight", "side"] [] := bb_chains_from x.F_chains_from
theorem bb_law_other {fd : FuncData} {kws : List (Str × V)} {f : Addr} (F : FunD K "_law_other" "_law_other" (defArgs (top 26)) (defBody (top 26)) (defScope (top 26)) [] kws f fd) : Binds K fd ["_law_side"] [] := F.bindsN fun _ _ _ _ _ _ us hl => match us, hl with | [_], _ => rfl
theorem b_law_other (x : Fx K mg E) : Binds K E.d_law_other ["_law_side"] [] := bb_law_other x.F_law_other
theorem bb_are_walls {fd : FuncData} {kws : List (Str × V)} {f : Addr} (F : FunD K "are_walls" "are_walls" (defArgs (top 11)) (defBody (top 11)) (defScope (top 11)) [] kws f fd) : Binds K fd ["walls"] [] := F.bindsN fun _ _ _ _ _ _ us hl => match us, hl with | [_], _ => rfl
theorem b_are_walls (x : Fx K mg E) : Binds K E.d_are_walls ["walls"] [] := bb_are_walls x.F_are_walls
theorem bb_is_bar {fd : FuncData} {kws : List (Str × V)} {f : Addr} (F : FunD K "is_bar" "is_bar" (defArgs (top 14)) (defBody (top 14)) (defScope (top 14)) [] kws f fd) : Binds K fd ["walls", "bar"] [] := F.bindsN fun _ _ _ _ _ _ us hl => match us, hl with | [_, _], _ => rfl
theorem b_is_bar (x : Fx K mg E) : Binds K E.d_is_bar ["walls", "bar"] [] := bb_is_bar x.F_is_bar
theorem bb_sides_of {fd : FuncData} {kws : List (Str × V)} {f : Addr} (F : FunD K "sides_of" "sides_of" (defArgs (top 16)) (defBody (top 16)) (defScope (top 16)) [] kws f fd) : Binds K fd ["walls"] [] := F.bindsN fun _ _ _ _ _ _ us hl => match us, hl with | [_], _ => rfl
theorem b_sides_of (x : Fx K mg E) : Binds K E.d_sides_of ["walls"] [] := bb_sides_of x.F_sides_of
theorem bb_other {fd : FuncData} {kws : List (Str × V)} {f : Addr} (F : FunD K "other" "other" (defArgs (top 10)) (defBody (top 10)) (defScope (top 10)) [] kws f fd) : Binds K fd ["side"] [] := F.bindsN fun _ _ _ _ _ _ us hl => match us, hl with | [_], _ => rfl
theorem b_other (x : Fx K mg E) : Binds K E.d_other ["side"] [] := bb_other x.F_other
theorem bb_HallError_init {fd : FuncData} {kws : List (Str × V)} {f : Addr} (F : FunD K "__init__" "HallError.__init__" (defArgs (clsDef (top 1) 0)) (defBody (clsDef (top 1) 0)) (defScope (clsDef (top 1) 0)) [] kws f fd) : Binds K fd ["self", "word"] [] := F.bindsN fun _ _ _ _ _ _ us hl => match us, hl with | [_, _], _ => rfl
theorem b_HallError_init (x : Fx K mg E) : Binds K E.d_HallError_init ["self", "word"] [] := bb_HallError_init x.F_HallError_init
theorem bb_BadWalls_init {fd : FuncData} {kws : List (Str × V)} {f : Addr} (F : FunD K "__init__" "BadWalls.__init__" (defArgs (clsDef (top 4) 0)) (defBody (clsDef (top 4) 0)) (defScope (clsDef (top 4) 0)) [] kws f fd) : Binds K fd ["self"] [] := F.bindsN fun _ _ _ _ _ _ us hl => match us, hl with | [_], _ => rfl
theorem bb_BadBar_init {fd : FuncData} {kws : List (Str × V)} {f : Addr} (F : FunD K "__init__" "BadBar.__init__" (defArgs (clsDef (top 5) 0)) (defBody (clsDef (top 5) 0)) (defScope (clsDef (top 5) 0)) [] kws f fd) : Binds K fd ["self", "at"] [] := F.bindsN fun _ _ _ _ _ _ us hl => match us, hl with | [_, _], _ => rfl
theorem bb_BadSide_init {fd : FuncData} {kws : List (Str × V)} {f : Addr} (F : FunD K "__init__" "BadSide.__init__" (defArgs (clsDef (top 6) 0)) (defBody (clsDef (top 6) 0)) (defScope (clsDef (top 6) 0)) [] kws f fd) : Binds K fd ["self"] [] := F.bindsN fun _ _ _ _ _ _ us hl => match us, hl with | [_], _ => rfl
theorem kbo_chain_0_bars_walls_two_one (x : Fx K mg E) : KBn K E.d_chain ["walls", "bars", "one", "two"] 0 ["bars", "walls", "two", "one"] (fun us ws => ord [1, 0, 3, 2] (us ++ ws)) (fun vs zs => ord [1, 0, 3, 2] (vs ++ zs)) :=
  kbindsP x.F_chain (fun r1 r2 => vals_ord (vals_app r1 r2) [1, 0, 3, 2]) fun _ _ _ _ _ _ us ws l1 l2 => match us, ws, l1, l2 with
    | [], [_, _, _, _], _, _ => rfl
abbrev gv_HallError : List V → List V := fun ws => ws
theorem grx_HallError : GRX gx_HallError gv_HallError := ⟨fun r => r⟩
theorem i_HallError_init (x : Fx K mg E) (hk : 1 ≤ k) : FnOk P w K mg base (L2.CX P w) k (He.fAd K ("HallError", some "__init__")) E.d_HallError_init ["self", "word"] (spI K 1 ["word"] gv_HallError) := by
  obtain ⟨k, rfl⟩ : ∃ j, k = j + 1 := ⟨k - 1, by omega⟩
  exact init_of x.F_HallError_init sc_HallError_init rfl (fun cdv A outer s H E hr => pss_cons (ps_expr (pe_veinit (by rfl) x.n_ValueError x.v_VE (pa_cons (pe_var (i := 0) rfl (Or.inl rfl)) (pa_cons (pe_var (i := 1) rfl (Or.inl rfl)) pa_nil)))) (pss_one (ps_ost (pe_var (i := 0) rfl (Or.inl rfl)) (pe_var (i := 1) rfl (Or.inl rfl))))) (fun vs H Q E h => shapeR h)
abbrev gv_BadWalls : List V → List V := fun _ => gv_HallError [V.str "badwalls"]
theorem grx_BadWalls : GRX gx_BadWalls gv_BadWalls := ⟨fun r => grx_HallError.rel (Reps.one (show V.str "badwalls" = V.str ⟨[98, 97, 100, 119, 97, 108, 108, 115].toArray⟩ from congrArg V.str (by decide +kernel)))⟩
theorem i_BadWalls_init (x : Fx K mg E) (hk : 2 ≤ k) : FnOk P w K mg base (L2.CX P w) k (He.fAd K ("BadWalls", some "__init__")) E.d_BadWalls_init ["self"] (spI K 0 ["word"] gv_BadWalls) := by
  obtain ⟨k, rfl⟩ : ∃ j, k = j + 1 := ⟨k - 1, by omega⟩
  exact init_of x.F_BadWalls_init sc_BadWalls_init rfl (fun cdv A outer s H E hr => pss_one (ps_expr (pe_clsfn (i_HallError_init x (by omega)) hr x.g_HallError x.r_HallError.1 x.r_HallError.2 x.F_HallError_init.kp (b_HallError_init x) passNo (pa_cons (pe_var (i := 0) rfl (Or.inl rfl)) (pa_cons pe_str pa_nil))))) (fun vs H Q E h => shape0 h)
abbrev gv_BadBar : List V → List V := fun ws => ws ++ gv_HallError [V.str "badbar"]
theorem grx_BadBar : GRX gx_BadBar gv_BadBar := ⟨fun r => r.append (grx_HallError.rel (Reps.one (show V.str "badbar" = V.str ⟨[98, 97, 100, 98, 97, 114].toArray⟩ from congrArg V.str (by decide +kernel))))⟩
theorem i_BadBar_init (x : Fx K mg E) (hk : 2 ≤ k) : FnOk P w K mg base (L2.CX P w) k (He.fAd K ("BadBar", some "__init__")) E.d_BadBar_init ["self", "at"] (spI K 1 ["at", "word"] gv_BadBar) := by
  obtain ⟨k, rfl⟩ : ∃ j, k = j + 1 := ⟨k - 1, by omega⟩
  exact init_of x.F_BadBar_init sc_BadBar_init rfl (fun cdv A outer s H E hr => pss_cons (ps_expr (pe_clsfn (i_HallError_init x (by omega)) hr x.g_HallError x.r_HallError.1 x.r_HallError.2 x.F_HallError_init.kp (b_HallError_init x) passNo (pa_cons (pe_var (i := 0) rfl (Or.inl rfl)) (pa_cons pe_str pa_nil)))) (pss_one (ps_ost (pe_var (i := 0) rfl (Or.inl rfl)) (pe_var (i := 1) rfl (Or.inl rfl))))) (fun vs H Q E h => shape1 h (by decide))
abbrev gv_BadSide : List V → List V := fun _ => gv_HallError [V.str "badside"]
theorem grx_BadSide : GRX gx_BadSide gv_BadSide := ⟨fun r => grx_HallError.rel (Reps.one (show V.str "badside" = V.str ⟨[98, 97, 100, 115, 105, 100, 101].toArray⟩ from congrArg V.str (by decide +kernel)))⟩
theorem i_BadSide_init (x : Fx K mg E) (hk : 2 ≤ k) : FnOk P w K mg base (L2.CX P w) k (He.fAd K ("BadSide", some "__init__")) E.d_BadSide_init ["self"] (spI K 0 ["word"] gv_BadSide) := by
  obtain ⟨k, rfl⟩ : ∃ j, k = j + 1 := ⟨k - 1, by omega⟩
  exact init_of x.F_BadSide_init sc_BadSide_init rfl (fun cdv A outer s H E hr => pss_one (ps_expr (pe_clsfn (i_HallError_init x (by omega)) hr x.g_HallError x.r_HallError.1 x.r_HallError.2 x.F_HallError_init.kp (b_HallError_init x) passNo (pa_cons (pe_var (i := 0) rfl (Or.inl rfl)) (pa_cons pe_str pa_nil))))) (fun vs H Q E h => shape0 h)
abbrev lt_0 : LamT := lamOf "law.<locals>.<lambda>" (subE (subE (testS (stAt (defBody (top 33)) 7)) 0) 1)
abbrev lt_1 : LamT := lamOf "law.<locals>.<lambda>" (subE (subE (testS (stAt (defBody (top 33)) 7)) 1) 1)
theorem d_law {φlaw_draw : Fn} {φlaw_shuts : Fn} {φlaw_pairs : Fn} {φlaw_of : Fn} {φchain : Fn} {φlaw_far : Fn} {φlaw_straight : Fn} {φlaw_strange : Fn} (x : Fx K mg E) (xT : TabsB K mg base) (hk : 3 ≤ k) (GS : FnOk P w K mg base (L2.CX P w) (k + 1) (He.fAd K ("_law_start", none)) E.d_law_start ["_law_script"] (spStart K)) (Glaw_draw : FnD P w K mg base (k + 1) (He.fAd K ("_law_draw", none)) E.d_law_draw ["_law_d", "_law_many"] φlaw_draw) (Glaw_shuts : FnD P w K mg base (k + 1) (He.fAd K ("_law_shuts", none)) E.d_law_shuts ["_law_d", "_law_most"] φlaw_shuts) (Glaw_pairs : FnD P w K mg base (k + 1) (He.fAd K ("_law_pairs", none)) E.d_law_pairs ["_law_shuts_it"] φlaw_pairs) (Glaw_of : FnD P w K mg base (k + 1) (He.fAd K ("_law_of", none)) E.d_law_of ["_law_d", "_law_some"] φlaw_of) (Gchain : FnD P w K mg base (k + 1) (He.fAd K ("chain", none)) E.d_chain ["walls", "bars", "one", "two"] φchain) (Glaw_far : FnD P w K mg base (k + 1) (He.fAd K ("_law_far", none)) E.d_law_far ["_law_shuts_it", "_law_bars_it", "_law_one_it", "_law_two_it"] φlaw_far) (Glaw_straight : FnD P w K mg base (k + 1) (He.fAd K ("_law_straight", none)) E.d_law_straight ["_law_bars_it", "_law_one_it", "_law_two_it"] φlaw_straight) (Glaw_strange : FnD P w K mg base (k + 1) (He.fAd K ("_law_strange", none)) E.d_law_strange ["_law_shuts_it"] φlaw_strange) : FnOk P w K mg base (L2.CX P w) (k + 5) (He.fAd K ("law", none)) E.d_law ["_law_script"] (spLawK K [((He.cT K ("law", none)).2, "law.<locals>.<lambda>")] 11 (fun κ => m_law (adK K) κ lt_0 lt_1 φlaw_draw φlaw_shuts φlaw_pairs φlaw_of φchain φlaw_far φlaw_straight φlaw_strange)) := by
  exact law_okK x.F_law sc_law rfl rfl (fun cdv A outer s H E hr0 => have hr : Room (k + 1) _ := hr0.mono (by omega); ps_set (i := 1) sc_law.nd rfl (Or.inl rfl) (pe_callS GS hr rfl x.m_law_start x.F_law_start.kp (b_law_start x) passNo (pa_cons (pe_var (i := 0) rfl (Or.inl rfl)) pa_nil))) fun cdv A outer s H E hcd hr0 =>
    have hr : Room (k + 1) _ := hr0.mono (by omega)
    have hrw : Room (k + 3) _ := hr0.mono (by omega)
    have hra : Room (k + 4) _ := hr0
    have tk := takes_fn (P := P) (w := w) (K := K) (mg := mg) (base := base) (N := ["_law_script", "_law_d", "_law_shuts_it", "_law_bars_it", "_law_k", "_law_bar", "_law_turn", "_law_one_it", "_law_two_it", "_law_told", "_law_far_here", "_law_odd", "_law_good"]) (qual := "law") (scope := defScope (top 33)) (f := He.fAd K ("law", none)) (cd := cdv) (A := A) (outer := outer) (s := s) (H := H) (E := E)
    (pss_dcons (ps_dset (i := 2) sc_law.nd rfl (Or.inr rfl) (pd_call Glaw_shuts hr x.m_law_shuts x.F_law_shuts.kp (b_law_shuts x) (tk_of tk) (pd_cons (pd_var 1) (pd_cons (pd_op op_addA snd_add pd_int (pd_call Glaw_draw hr x.m_law_draw x.F_law_draw.kp (b_law_draw x) (tk_of tk) (pd_cons (pd_var 1) (pd_cons pd_int pd_nil)))) pd_nil))))
  (pss_dcons (ps_dset (i := 3) sc_law.nd rfl (Or.inr rfl) (pd_lstL pd_nil))
  (pss_dcons (ps_dfor (passes_of rfl) rfl (pi_drange1 x.n_range (pd_ifExp (pd_cmpT op_gtA snd_gt (pd_callB call_lenA snd_len x.n_len (pd_cons (pd_var 2) pd_nil)) pd_int) (pd_call Glaw_draw hr x.m_law_draw x.F_law_draw.kp (b_law_draw x) (tk_of tk) (pd_cons (pd_var 1) (pd_cons pd_int pd_nil))) pd_int)) (pg_dname sc_law.nd (i := 4) rfl (Or.inl rfl)) (pss_dcons (ps_dset (i := 5) sc_law.nd rfl (Or.inl rfl) (pd_call Glaw_of hr x.m_law_of x.F_law_of.kp (b_law_of x) (tk_of tk) (pd_cons (pd_var 1) (pd_cons (pd_call Glaw_pairs hr x.m_law_pairs x.F_law_pairs.kp (b_law_pairs x) (tk_of tk) (pd_cons (pd_var 2) pd_nil)) pd_nil))))
  (pss_done (ps_dif (pd_cmpT (op_ninA hr.units) snd_nin (pd_var 5) (pd_var 3)) (pss_done (ps_dexpr (pd_lm PySem.F.slot_list_append PySem.F.type_list_append mt_append snd_append (pd_var 3) (pd_cons (pd_var 5) pd_nil)))) pss_dnil))))
  (pss_dcons (ps_dfor (passes_of rfl) rfl (pi_drange1 x.n_range pd_int) (pg_dname sc_law.nd (i := 6) rfl (Or.inl rfl)) (pss_dcons (ps_dset (i := 7) sc_law.nd rfl (Or.inl rfl) (pd_call Glaw_of hr x.m_law_of x.F_law_of.kp (b_law_of x) (tk_of tk) (pd_cons (pd_var 1) (pd_cons (pd_lst (pd_cons (pd_call Glaw_of hr x.m_law_of x.F_law_of.kp (b_law_of x) (tk_of tk) (pd_cons (pd_var 1) (pd_cons (pd_var 2) pd_nil))) (pd_cons (pd_strm0 PySem.F.slot_str_upper PySem.F.type_str_upper mt_upper snd_upper (pd_call Glaw_of hr x.m_law_of x.F_law_of.kp (b_law_of x) (tk_of tk) (pd_cons (pd_var 1) (pd_cons (pd_var 2) pd_nil)))) pd_nil))) pd_nil))))
  (pss_dcons (ps_dset (i := 8) sc_law.nd rfl (Or.inl rfl) (pd_call Glaw_of hr x.m_law_of x.F_law_of.kp (b_law_of x) (tk_of tk) (pd_cons (pd_var 1) (pd_cons (pd_lst (pd_cons (pd_call Glaw_of hr x.m_law_of x.F_law_of.kp (b_law_of x) (tk_of tk) (pd_cons (pd_var 1) (pd_cons (pd_var 2) pd_nil))) (pd_cons (pd_strm0 PySem.F.slot_str_upper PySem.F.type_str_upper mt_upper snd_upper (pd_call Glaw_of hr x.m_law_of x.F_law_of.kp (b_law_of x) (tk_of tk) (pd_cons (pd_var 1) (pd_cons (pd_var 2) pd_nil)))) pd_nil))) pd_nil))))
  (pss_dcons (ps_dset (i := 9) sc_law.nd rfl (Or.inr rfl) (pd_call Gchain hr x.m_chain x.F_chain.kp (b_chain x) (tk_of tk) (pd_cons (pd_var 2) (pd_cons (pd_callTy (call_list3 rfl) snd_list3 x.n_list (pd_cons (pd_var 3) pd_nil)) (pd_cons (pd_var 7) (pd_cons (pd_var 8) pd_nil))))))
  (pss_dcons (ps_dset (i := 10) sc_law.nd rfl (Or.inl rfl) (pd_call Glaw_far hr x.m_law_far x.F_law_far.kp (b_law_far x) (tk_of tk) (pd_cons (pd_var 2) (pd_cons (pd_var 3) (pd_cons (pd_var 7) (pd_cons (pd_var 8) pd_nil))))))
  (pss_dcons (ps_dif (pd_cmpT op_isA snd_is (pd_var 10) pd_non) (pss_dcons (ps_dif (pd_cmpT op_isntA snd_isnt (pd_var 9) pd_non) (pss_done (ps_dret pd_bl)) pss_dnil)
  (pss_done ps_dcont)) pss_dnil)
  (pss_dcons (ps_dif (pd_bopT (pw_dor (pd_notT (pd_truth (pd_callB call_isiA snd_isi x.n_isinstance (pd_cons (pd_var 9) (pd_cons (pd_ty x.n_list) pd_nil))))) (pw_dor (pd_cmpT (op_neA hr.units) snd_ne (pd_callB call_lenA snd_len x.n_len (pd_cons (pd_var 9) pd_nil)) (pd_op op_addA snd_add (pd_var 10) pd_int)) (pw_dor (pd_cmpT (op_neA hr.units) snd_ne (pd_ix hr.units (pd_var 9) pd_int) (pd_var 7)) (pw_dor1 (pd_cmpT (op_neA hr.units) snd_ne (pd_ix hr.units (pd_var 9) (pd_un un_neg snd_neg pd_int)) (pd_var 8))))))) (pss_done (ps_dret pd_bl)) pss_dnil)
  (pss_done (ps_dif (pd_notT (pd_truth (pd_callB (cr_all rfl) snd_all x.n_all (pd_cons (pd_lc [("_law_k", 4)] rfl sc_law.nd (pi_drange1 x.n_range (pd_var 10)) (blk_of (N := ["_law_script", "_law_d", "_law_shuts_it", "_law_bars_it", "_law_k", "_law_bar", "_law_turn", "_law_one_it", "_law_two_it", "_law_told", "_law_far_here", "_law_odd", "_law_good"]) (sc := defScope (top 33)) (by decide +kernel) rfl rfl) (by decide) (fun _ _ _ _ _ => (pg_dname sc_law.nd (i := 4) rfl (Or.inl rfl))) (fun _ _ _ _ _ => pts_dnil) (fun _ _ _ _ _ => (pd_call Glaw_straight hr x.m_law_straight x.F_law_straight.kp (b_law_straight x) tk_no (pd_cons (pd_var 3) (pd_cons (pd_ix hr.units (pd_var 9) (pd_var 4)) (pd_cons (pd_ix hr.units (pd_var 9) (pd_op op_addA snd_add (pd_var 4) pd_int)) pd_nil)))))) pd_nil)))) (pss_done (ps_dret pd_bl)) pss_dnil)))))))))
  (pss_dcons (ps_dset (i := 11) sc_law.nd rfl (Or.inr rfl) (pd_call Glaw_of hr x.m_law_of x.F_law_of.kp (b_law_of x) (tk_of tk) (pd_cons (pd_var 1) (pd_cons (pd_lst (pd_cons (pd_str []) (pd_cons (pd_str [97, 98]) (pd_cons (pd_str [49]) (pd_cons (pd_str [32]) (pd_cons (pd_str [64]) (pd_cons (pd_call Glaw_strange hr x.m_law_strange x.F_law_strange.kp (b_law_strange x) (tk_of tk) (pd_cons (pd_var 2) pd_nil)) pd_nil))))))) pd_nil))))
  (pss_dcons (ps_dset (i := 12) sc_law.nd rfl (Or.inr rfl) (pd_strm0 PySem.F.slot_str_upper PySem.F.type_str_upper mt_upper snd_upper (pd_ix hr.units (pd_var 2) pd_int)))
  (pss_done (ps_dret (pd_and (pd_refused1 (te := .Tuple [.Name "HallError" _, .Name "Missing" _, .Name "NothingLeft" _] _ _) (any := fun cls => PySem.W.exmAny K cls [.ref (He.ga K "HallError"), .ref (He.ga K "Missing"), .ref (He.ga K "NothingLeft")]) (i := 2) (j := 1) x.F_law_refused x.m_law_refused (b_law_refused x) sc_law_refused x.F_law_word x.m_law_word (b_law_word x) sc_law_word (fun _ _ _ _ _ => by exact test_as3 (by rfl) (by rfl) (by rfl) x.g_HallError x.g_Missing x.g_NothingLeft (by decide) (by decide) (by decide)) (ctBT_ok x.w_law_law_word) (fun C hC => ⟨(xfAll_ok x.u_law_law_word C hC).1, (xfAll_ok x.u_law_law_word C hC).2 _ (by simp)⟩) hra
      (LsOk.cons ⟨by rfl, LamX.lamS_by (show LamX.lamSB (defScope (top 33)) _ = true by decide +kernel), fun _ _ _ _ _ => by rfl, fun A outer s H E f c2 hr => (pd_call Gchain hr x.m_chain x.F_chain.kp (b_chain x) (tk_of takes_lam) (pd_cons (pd_var 2) (pd_cons (pd_var 3) (pd_cons (pd_var 11) (pd_cons (pd_var 12) pd_nil)))))⟩ LsOk.nil) (pd_lamA 0 (xT ("law", none) (by simp [tfL])) hcd (by rfl) (LamX.lamS_by (show LamX.lamSB (defScope (top 33)) _ = true by decide +kernel))) rfl) (pd_one (pd_refused1 (te := .Tuple [.Name "HallError" _, .Name "Missing" _, .Name "NothingLeft" _] _ _) (any := fun cls => PySem.W.exmAny K cls [.ref (He.ga K "HallError"), .ref (He.ga K "Missing"), .ref (He.ga K "NothingLeft")]) (i := 2) (j := 1) x.F_law_refused x.m_law_refused (b_law_refused x) sc_law_refused x.F_law_word x.m_law_word (b_law_word x) sc_law_word (fun _ _ _ _ _ => by exact test_as3 (by rfl) (by rfl) (by rfl) x.g_HallError x.g_Missing x.g_NothingLeft (by decide) (by decide) (by decide)) (ctBT_ok x.w_law_law_word) (fun C hC => ⟨(xfAll_ok x.u_law_law_word C hC).1, (xfAll_ok x.u_law_law_word C hC).2 _ (by simp)⟩) hra
      (LsOk.cons ⟨by rfl, LamX.lamS_by (show LamX.lamSB (defScope (top 33)) _ = true by decide +kernel), fun _ _ _ _ _ => by rfl, fun A outer s H E f c2 hr => (pd_callN0 Gchain hr x.m_chain x.F_chain.kp (kbo_chain_0_bars_walls_two_one x) (gr_ord [1, 0, 3, 2]) (tk_of takes_lam) (pk_dcons (pd_var 3) (pk_dcons (pd_var 2) (pk_dcons (pd_var 11) (pk_dcons (pd_var 12) pk_dnil)))))⟩ LsOk.nil) (pd_lamA 0 (xT ("law", none) (by simp [tfL])) hcd (by rfl) (LamX.lamS_by (show LamX.lamSB (defScope (top 33)) _ = true by decide +kernel))) rfl)))))))))))
theorem d_law_draw  (x : Fx K mg E) (xT : TabsB K mg base) (hk : 3 ≤ k) : FnD P w K mg base (k + 2) (He.fAd K ("_law_draw", none)) E.d_law_draw ["_law_d", "_law_many"] (defM 5 (m_law_draw (adK K) )) := by
  exact FnD.mk x.F_law_draw sc_law_draw fun cdv A outer s H E hr =>
    have tk := takes_fn (P := P) (w := w) (K := K) (mg := mg) (base := base) (N := ["_law_d", "_law_many", "_law_cell", "_law_digit", "_law_mix"]) (qual := "_law_draw") (scope := defScope (top 22)) (f := He.fAd K ("_law_draw", none)) (cd := cdv) (A := A) (outer := outer) (s := s) (H := H) (E := E)
    (pss_dcons (ps_dif (pd_bopT (pw_dand (pd_cmpT op_ltA snd_lt (pd_ix hr.units (pd_var 0) pd_int) (pd_var 1)) (pw_dand1 (pd_cmpT op_ltA snd_lt (pd_ix hr.units (pd_var 0) pd_int) (pd_callB call_lenA snd_len x.n_len (pd_cons (pd_ix hr.units (pd_var 0) pd_int) pd_nil)))))) (pss_dcons (ps_dset (i := 2) sc_law_draw.nd rfl (Or.inl rfl) (pd_ix hr.units (pd_ix hr.units (pd_var 0) pd_int) (pd_ix hr.units (pd_var 0) pd_int)))
  (pss_dcons (ps_dseti (pd_var 0) pd_int (pd_op op_addA snd_add (pd_ix hr.units (pd_var 0) pd_int) pd_int))
  (pss_dcons (ps_dseti (pd_var 0) pd_int (pd_ifExp (pd_cmpT op_geA snd_ge (pd_var 2) (pd_op op_pow snd_pow pd_int pd_int)) (pd_var 2) pd_int))
  (pss_done (ps_dseti (pd_var 0) pd_int (pd_op op_mod snd_mod (pd_op op_addA snd_add (pd_op op_addA snd_add (pd_op op_mulA snd_mul (pd_ix hr.units (pd_var 0) pd_int) pd_int) (pd_op op_mod snd_mod (pd_var 2) pd_int)) pd_int) pd_int)))))) pss_dnil)
  (pss_dcons (ps_dif (pd_cmpT op_geA snd_ge (pd_ix hr.units (pd_var 0) pd_int) (pd_var 1)) (pss_dcons (ps_dset (i := 3) sc_law_draw.nd rfl (Or.inl rfl) (pd_op op_mod snd_mod (pd_ix hr.units (pd_var 0) pd_int) (pd_var 1)))
  (pss_dcons (ps_dseti (pd_var 0) pd_int (pd_op op_fdivW snd_fdiv (pd_ix hr.units (pd_var 0) pd_int) (pd_var 1)))
  (pss_done (ps_dret (pd_var 3))))) pss_dnil)
  (pss_dcons (ps_dseti (pd_var 0) pd_int (pd_op op_addA snd_add (pd_ix hr.units (pd_var 0) pd_int) pd_int))
  (pss_dcons (ps_dset (i := 4) sc_law_draw.nd rfl (Or.inl rfl) (pd_op op_addA snd_add (pd_op op_addA snd_add (pd_op op_mulA snd_mul (pd_ix hr.units (pd_var 0) pd_int) pd_int) (pd_op op_mulA snd_mul (pd_ix hr.units (pd_var 0) pd_int) pd_int)) pd_int))
  (pss_dcons (ps_dset (i := 4) sc_law_draw.nd rfl (Or.inl rfl) (pd_op op_addA snd_add (pd_op op_mulA snd_mul (pd_var 4) (pd_op op_addA snd_add (pd_op op_mod snd_mod (pd_var 4) pd_int) pd_int)) (pd_op op_mulA snd_mul (pd_ix hr.units (pd_var 0) pd_int) pd_int)))
  (pss_dcons (ps_dseti (pd_var 0) pd_int (pd_op op_mod snd_mod (pd_var 4) pd_int))
  (pss_done (ps_dret (pd_op op_mod snd_mod (pd_op op_addA snd_add (pd_op op_fdivW snd_fdiv (pd_ix hr.units (pd_var 0) pd_int) pd_int) (pd_op op_mulA snd_mul (pd_op op_mod snd_mod (pd_ix hr.units (pd_var 0) pd_int) pd_int) pd_int)) (pd_var 1))))))))))
theorem d_law_shuts {φlaw_draw : Fn} {φlaw_letters : Fn} (x : Fx K mg E) (xT : TabsB K mg base) (hk : 3 ≤ k) (Glaw_draw : FnD P w K mg base (k + 1) (He.fAd K ("_law_draw", none)) E.d_law_draw ["_law_d", "_law_many"] φlaw_draw) (Glaw_letters : FnD P w K mg base (k + 1) (He.fAd K ("_law_letters", none)) E.d_law_letters [] φlaw_letters) : FnD P w K mg base (k + 2) (He.fAd K ("_law_shuts", none)) E.d_law_shuts ["_law_d", "_law_most"] (defM 5 (m_law_shuts (adK K) φlaw_draw φlaw_letters)) := by
  exact FnD.mk x.F_law_shuts sc_law_shuts fun cdv A outer s H E hr =>
    have tk := takes_fn (P := P) (w := w) (K := K) (mg := mg) (base := base) (N := ["_law_d", "_law_most", "_law_found", "_law_skip", "_law_sign"]) (qual := "_law_shuts") (scope := defScope (top 25)) (f := He.fAd K ("_law_shuts", none)) (cd := cdv) (A := A) (outer := outer) (s := s) (H := H) (E := E)
    (pss_dcons (ps_dset (i := 2) sc_law_shuts.nd rfl (Or.inl rfl) (pd_str []))
  (pss_dcons (ps_dset (i := 3) sc_law_shuts.nd rfl (Or.inl rfl) (pd_ix hr.units (pd_lst (pd_cons pd_int (pd_cons pd_int (pd_cons pd_int pd_nil)))) (pd_call Glaw_draw hr x.m_law_draw x.F_law_draw.kp (b_law_draw x) (tk_of tk) (pd_cons (pd_var 0) (pd_cons pd_int pd_nil)))))
  (pss_dcons (ps_dfor (passes_of rfl) rfl (pi_dvals (pd_sl (pd_call0 Glaw_letters hr x.m_law_letters x.F_law_letters.kp (b_law_letters x) (tk_of tk)) (po_dso (pd_call Glaw_draw hr x.m_law_draw x.F_law_draw.kp (b_law_draw x) (tk_of tk) (pd_cons (pd_var 0) (pd_cons pd_int pd_nil)))) po_dno)) (pg_dname sc_law_shuts.nd (i := 4) rfl (Or.inl rfl)) (pss_done (ps_dif (pd_bopT (pw_dand (pd_cmpT op_ltA snd_lt (pd_callB call_lenA snd_len x.n_len (pd_cons (pd_var 2) pd_nil)) (pd_var 1)) (pw_dand1 (pd_bopT (pw_dor (pd_cmpT (op_eqA hr.units) snd_eq (pd_var 3) pd_int) (pw_dor1 (pd_cmpT (op_eqA hr.units) snd_eq (pd_call Glaw_draw hr x.m_law_draw x.F_law_draw.kp (b_law_draw x) (tk_of tk) (pd_cons (pd_var 0) (pd_cons (pd_var 3) pd_nil))) pd_int))))))) (pss_done (ps_dset (i := 2) sc_law_shuts.nd rfl (Or.inl rfl) (pd_op op_addA snd_add (pd_var 2) (pd_var 4)))) pss_dnil)))
  (pss_done (ps_dret (pd_ifExp (pd_cmpT (op_neA hr.units) snd_ne (pd_var 2) (pd_str [])) (pd_var 2) (pd_str [107])))))))
theorem d_law_pairs  (x : Fx K mg E) (xT : TabsB K mg base) (hk : 3 ≤ k) : FnD P w K mg base (k + 2) (He.fAd K ("_law_pairs", none)) E.d_law_pairs ["_law_shuts_it"] (defM 6 (m_law_pairs (adK K) )) := by
  exact FnD.mk x.F_law_pairs sc_law_pairs fun cdv A outer s H E hr =>
    have tk := takes_fn (P := P) (w := w) (K := K) (mg := mg) (base := base) (N := ["_law_shuts_it", "_law_found", "_law_one_it", "_law_two_it", "_law_first", "_law_second"]) (qual := "_law_pairs") (scope := defScope (top 27)) (f := He.fAd K ("_law_pairs", none)) (cd := cdv) (A := A) (outer := outer) (s := s) (H := H) (E := E)
    (pss_dcons (ps_dset (i := 1) sc_law_pairs.nd rfl (Or.inl rfl) (pd_lstL pd_nil))
  (pss_dcons (ps_dfor (passes_of rfl) rfl (pi_drange1 x.n_range (pd_callB call_lenA snd_len x.n_len (pd_cons (pd_var 0) pd_nil))) (pg_dname sc_law_pairs.nd (i := 2) rfl (Or.inl rfl)) (pss_done (ps_dfor (passes_of rfl) rfl (pi_drange2 x.n_range (pd_op op_addA snd_add (pd_var 2) pd_int) (pd_callB call_lenA snd_len x.n_len (pd_cons (pd_var 0) pd_nil))) (pg_dname sc_law_pairs.nd (i := 3) rfl (Or.inl rfl)) (pss_done (ps_dfor (passes_of rfl) rfl (pi_dvals (pd_tup (pd_cons (pd_ix hr.units (pd_var 0) (pd_var 2)) (pd_cons (pd_strm0 PySem.F.slot_str_upper PySem.F.type_str_upper mt_upper snd_upper (pd_ix hr.units (pd_var 0) (pd_var 2))) pd_nil)))) (pg_dname sc_law_pairs.nd (i := 4) rfl (Or.inr rfl)) (pss_done (ps_dexpr (pd_lm PySem.F.slot_list_extend PySem.F.type_list_extend mt_extend snd_extend (pd_var 1) (pd_cons (pd_lc [("_law_second", 5)] rfl sc_law_pairs.nd (pi_dvals (pd_tup (pd_cons (pd_ix hr.units (pd_var 0) (pd_var 3)) (pd_cons (pd_strm0 PySem.F.slot_str_upper PySem.F.type_str_upper mt_upper snd_upper (pd_ix hr.units (pd_var 0) (pd_var 3))) pd_nil)))) (blk_of (N := ["_law_shuts_it", "_law_found", "_law_one_it", "_law_two_it", "_law_first", "_law_second"]) (sc := defScope (top 27)) (by decide +kernel) rfl rfl) (by decide) (fun _ _ _ _ _ => (pg_dname sc_law_pairs.nd (i := 5) rfl (Or.inl rfl))) (fun _ _ _ _ _ => pts_dnil) (fun _ _ _ _ _ => (pd_op op_addA snd_add (pd_var 4) (pd_var 5)))) pd_nil)))))))))
  (pss_done (ps_dret (pd_var 1)))))
theorem d_law_of {φlaw_draw : Fn} (x : Fx K mg E) (xT : TabsB K mg base) (hk : 3 ≤ k) (Glaw_draw : FnD P w K mg base (k + 1) (He.fAd K ("_law_draw", none)) E.d_law_draw ["_law_d", "_law_many"] φlaw_draw) : FnD P w K mg base (k + 2) (He.fAd K ("_law_of", none)) E.d_law_of ["_law_d", "_law_some"] (defM 2 (m_law_of (adK K) φlaw_draw)) := by
  exact FnD.mk x.F_law_of sc_law_of fun cdv A outer s H E hr =>
    have tk := takes_fn (P := P) (w := w) (K := K) (mg := mg) (base := base) (N := ["_law_d", "_law_some"]) (qual := "_law_of") (scope := defScope (top 23)) (f := He.fAd K ("_law_of", none)) (cd := cdv) (A := A) (outer := outer) (s := s) (H := H) (E := E)
    (pss_done (ps_dret (pd_ix hr.units (pd_var 1) (pd_call Glaw_draw hr x.m_law_draw x.F_law_draw.kp (b_law_draw x) (tk_of tk) (pd_cons (pd_var 0) (pd_cons (pd_callB call_lenA snd_len x.n_len (pd_cons (pd_var 1) pd_nil)) pd_nil))))))
theorem d_chain {φlook_walls : Fn} {φlook_bars : Fn} {φis_side : Fn} {φstraight_of : Fn} {φchains_from : Fn} (x : Fx K mg E) (xT : TabsB K mg base) (hk : 3 ≤ k) (Glook_walls : FnD P w K mg base (k + 1) (He.fAd K ("look_walls", none)) E.d_look_walls ["walls"] φlook_walls) (Glook_bars : FnD P w K mg base (k + 1) (He.fAd K ("look_bars", none)) E.d_look_bars ["walls", "bars"] φlook_bars) (Gis_side : FnD P w K mg base (k + 1) (He.fAd K ("is_side", none)) E.d_is_side ["walls", "side"] φis_side) (Gstraight_of : FnD P w K mg base (k + 1) (He.fAd K ("straight_of", none)) E.d_straight_of ["walls", "bars"] φstraight_of) (Gchains_from : FnD P w K mg base (k + 1) (He.fAd K ("chains_from", none)) E.d_chains_from ["straight", "side"] φchains_from) : FnD P w K mg base (k + 2) (He.fAd K ("chain", none)) E.d_chain ["walls", "bars", "one", "two"] (defM 4 (m_chain (adK K) φlook_walls φlook_bars φis_side φstraight_of φchains_from)) := by
  exact FnD.mk x.F_chain sc_chain fun cdv A outer s H E hr =>
    have tk := takes_fn (P := P) (w := w) (K := K) (mg := mg) (base := base) (N := ["walls", "bars", "one", "two"]) (qual := "chain") (scope := defScope (top 19)) (f := He.fAd K ("chain", none)) (cd := cdv) (A := A) (outer := outer) (s := s) (H := H) (E := E)
    (pss_dcons (ps_dexpr (pd_call Glook_walls hr x.m_look_walls x.F_look_walls.kp (b_look_walls x) (tk_of tk) (pd_cons (pd_var 0) pd_nil)))
  (pss_dcons (ps_dexpr (pd_call Glook_bars hr x.m_look_bars x.F_look_bars.kp (b_look_bars x) (tk_of tk) (pd_cons (pd_var 0) (pd_cons (pd_var 1) pd_nil))))
  (pss_dcons (ps_dif (pd_bopT (pw_dor (pd_notT (pd_truth (pd_call Gis_side hr x.m_is_side x.F_is_side.kp (b_is_side x) (tk_of tk) (pd_cons (pd_var 0) (pd_cons (pd_var 2) pd_nil))))) (pw_dor1 (pd_notT (pd_truth (pd_call Gis_side hr x.m_is_side x.F_is_side.kp (b_is_side x) (tk_of tk) (pd_cons (pd_var 0) (pd_cons (pd_var 3) pd_nil)))))))) (pss_done (ps_draise rfl tk (pmd_mk0 (x.o_BadSide) grx_BadSide (i_BadSide_init x (by omega)) hr x.g_BadSide))) pss_dnil)
  (pss_done (ps_dret (pd_get1 (units1 hr.units) (pd_call Gchains_from hr x.m_chains_from x.F_chains_from.kp (b_chains_from x) (tk_of tk) (pd_cons (pd_call Gstraight_of hr x.m_straight_of x.F_straight_of.kp (b_straight_of x) (tk_of tk) (pd_cons (pd_var 0) (pd_cons (pd_var 1) pd_nil))) (pd_cons (pd_var 2) pd_nil))) (pd_var 3)))))))
theorem d_law_far {φlaw_straight : Fn} (x : Fx K mg E) (xT : TabsB K mg base) (hk : 3 ≤ k) (Glaw_straight : FnD P w K mg base (k + 1) (He.fAd K ("_law_straight", none)) E.d_law_straight ["_law_bars_it", "_law_one_it", "_law_two_it"] φlaw_straight) : FnD P w K mg base (k + 2) (He.fAd K ("_law_far", none)) E.d_law_far ["_law_shuts_it", "_law_bars_it", "_law_one_it", "_law_two_it"] (defM 12 (m_law_far (adK K) φlaw_straight)) := by
  exact FnD.mk x.F_law_far sc_law_far fun cdv A outer s H E hr =>
    have tk := takes_fn (P := P) (w := w) (K := K) (mg := mg) (base := base) (N := ["_law_shuts_it", "_law_bars_it", "_law_one_it", "_law_two_it", "_law_sides", "_law_near_it", "_law_many", "_law_known", "_law_later", "_law_shut", "_law_side", "_law_here"]) (qual := "_law_far") (scope := defScope (top 32)) (f := He.fAd K ("_law_far", none)) (cd := cdv) (A := A) (outer := outer) (s := s) (H := H) (E := E)
    (pss_dcons (ps_dset (i := 4) sc_law_far.nd rfl (Or.inl rfl) (pd_op op_addA snd_add (pd_callTy (call_list3 rfl) snd_list3 x.n_list (pd_cons (pd_var 0) pd_nil)) (pd_lc [("_law_shut", 9)] rfl sc_law_far.nd (pi_dvals (pd_var 0)) (blk_of (N := ["_law_shuts_it", "_law_bars_it", "_law_one_it", "_law_two_it", "_law_sides", "_law_near_it", "_law_many", "_law_known", "_law_later", "_law_shut", "_law_side", "_law_here"]) (sc := defScope (top 32)) (by decide +kernel) rfl rfl) (by decide) (fun _ _ _ _ _ => (pg_dname sc_law_far.nd (i := 9) rfl (Or.inl rfl))) (fun _ _ _ _ _ => pts_dnil) (fun _ _ _ _ _ => (pd_strm0 PySem.F.slot_str_upper PySem.F.type_str_upper mt_upper snd_upper (pd_var 9))))))
  (pss_dcons (ps_dasg (pd_tup (pd_cons (pd_lst (pd_cons (pd_var 2) pd_nil)) (pd_cons pd_int pd_nil))) (pg_dtup rfl (pgs_dcons (pg_dname sc_law_far.nd (i := 5) rfl (Or.inr rfl)) (pgs_dcons (pg_dname sc_law_far.nd (i := 6) rfl (Or.inl rfl)) pgs_dnil))))
  (pss_dcons (ps_dset (i := 7) sc_law_far.nd rfl (Or.inr rfl) (pd_lst (pd_cons (pd_var 2) pd_nil)))
  (pss_dcons (ps_dwhile (passes_of rfl) (pd_cmpT (op_neA hr.units) snd_ne (pd_var 5) (pd_lst pd_nil)) (pss_dcons (ps_dif (pd_cmpT (op_inA hr.units) snd_in (pd_var 3) (pd_var 5)) (pss_done (ps_dret (pd_var 6))) pss_dnil)
  (pss_dcons (ps_dsetLc [("_law_side", 10)] (i := 8) rfl sc_law_far.nd rfl rfl rfl (pi_dvals (pd_var 4)) (blk_of (N := ["_law_shuts_it", "_law_bars_it", "_law_one_it", "_law_two_it", "_law_sides", "_law_near_it", "_law_many", "_law_known", "_law_later", "_law_shut", "_law_side", "_law_here"]) (sc := defScope (top 32)) (by decide +kernel) rfl rfl) (by decide) (fun _ _ _ _ _ => (pg_dname sc_law_far.nd (i := 10) rfl (Or.inl rfl))) (fun _ _ _ _ _ => (pts_done (pd_cmpT (op_ninA hr.units) snd_nin (pd_var 10) (pd_var 7)))) (fun _ _ _ _ _ => (pd_var 10)))
  (pss_dcons (ps_dset (i := 5) sc_law_far.nd rfl (Or.inr rfl) (pd_lc [("_law_side", 10)] rfl sc_law_far.nd (pi_dvals (pd_var 8)) (blk_of (N := ["_law_shuts_it", "_law_bars_it", "_law_one_it", "_law_two_it", "_law_sides", "_law_near_it", "_law_many", "_law_known", "_law_later", "_law_shut", "_law_side", "_law_here"]) (sc := defScope (top 32)) (by decide +kernel) rfl rfl) (by decide) (fun _ _ _ _ _ => (pg_dname sc_law_far.nd (i := 10) rfl (Or.inr rfl))) (fun _ _ _ _ _ => (pts_done (pd_truth (pd_callB (cr_any rfl) snd_any x.n_any (pd_cons (pd_lc [("_law_here", 11)] rfl sc_law_far.nd (pi_dvals (pd_var 5)) (blk_in (N := ["_law_shuts_it", "_law_bars_it", "_law_one_it", "_law_two_it", "_law_sides", "_law_near_it", "_law_many", "_law_known", "_law_later", "_law_shut", "_law_side", "_law_here"]) (by decide +kernel) rfl) (by decide) (fun _ _ _ _ _ => (pg_dname sc_law_far.nd (i := 11) rfl (Or.inl rfl))) (fun _ _ _ _ _ => pts_dnil) (fun _ _ _ _ _ => (pd_call Glaw_straight hr x.m_law_straight x.F_law_straight.kp (b_law_straight x) tk_no (pd_cons (pd_var 1) (pd_cons (pd_var 11) (pd_cons (pd_var 10) pd_nil)))))) pd_nil))))) (fun _ _ _ _ _ => (pd_var 10))))
  (pss_dcons (ps_dset (i := 7) sc_law_far.nd rfl (Or.inr rfl) (pd_op op_addA snd_add (pd_var 7) (pd_var 5)))
  (pss_done (ps_dset (i := 6) sc_law_far.nd rfl (Or.inl rfl) (pd_op op_addA snd_add (pd_var 6) pd_int))))))))
  (pss_done (ps_dret pd_non))))))
theorem d_law_straight {φlaw_other : Fn} (x : Fx K mg E) (xT : TabsB K mg base) (hk : 3 ≤ k) (Glaw_other : FnD P w K mg base (k + 1) (He.fAd K ("_law_other", none)) E.d_law_other ["_law_side"] φlaw_other) : FnD P w K mg base (k + 2) (He.fAd K ("_law_straight", none)) E.d_law_straight ["_law_bars_it", "_law_one_it", "_law_two_it"] (defM 4 (m_law_straight (adK K) φlaw_other)) := by
  exact FnD.mk x.F_law_straight sc_law_straight fun cdv A outer s H E hr =>
    have tk := takes_fn (P := P) (w := w) (K := K) (mg := mg) (base := base) (N := ["_law_bars_it", "_law_one_it", "_law_two_it", "_law_back"]) (qual := "_law_straight") (scope := defScope (top 31)) (f := He.fAd K ("_law_straight", none)) (cd := cdv) (A := A) (outer := outer) (s := s) (H := H) (E := E)
    (pss_dcons (ps_dset (i := 3) sc_law_straight.nd rfl (Or.inl rfl) (pd_call Glaw_other hr x.m_law_other x.F_law_other.kp (b_law_other x) (tk_of tk) (pd_cons (pd_var 2) pd_nil)))
  (pss_done (ps_dret (pd_or (pd_cmp (op_inA hr.units) snd_in (pd_op op_addA snd_add (pd_var 1) (pd_var 3)) (pd_var 0)) (pd_one (pd_cmp (op_inA hr.units) snd_in (pd_op op_addA snd_add (pd_var 3) (pd_var 1)) (pd_var 0)))))))
theorem d_law_strange {φlaw_letters : Fn} (x : Fx K mg E) (xT : TabsB K mg base) (hk : 3 ≤ k) (Glaw_letters : FnD P w K mg base (k + 1) (He.fAd K ("_law_letters", none)) E.d_law_letters [] φlaw_letters) : FnD P w K mg base (k + 2) (He.fAd K ("_law_strange", none)) E.d_law_strange ["_law_shuts_it"] (defM 2 (m_law_strange (adK K) φlaw_letters)) := by
  exact FnD.mk x.F_law_strange sc_law_strange fun cdv A outer s H E hr =>
    have tk := takes_fn (P := P) (w := w) (K := K) (mg := mg) (base := base) (N := ["_law_shuts_it", "_law_sign"]) (qual := "_law_strange") (scope := defScope (top 30)) (f := He.fAd K ("_law_strange", none)) (cd := cdv) (A := A) (outer := outer) (s := s) (H := H) (E := E)
    (pss_done (ps_dret (pd_ix hr.units (pd_lc [("_law_sign", 1)] rfl sc_law_strange.nd (pi_dvals (pd_call0 Glaw_letters hr x.m_law_letters x.F_law_letters.kp (b_law_letters x) (tk_of tk))) (blk_of (N := ["_law_shuts_it", "_law_sign"]) (sc := defScope (top 30)) (by decide +kernel) rfl rfl) (by decide) (fun _ _ _ _ _ => (pg_dname sc_law_strange.nd (i := 1) rfl (Or.inl rfl))) (fun _ _ _ _ _ => (pts_done (pd_cmpT (op_ninA hr.units) snd_nin (pd_var 1) (pd_var 0)))) (fun _ _ _ _ _ => (pd_var 1))) pd_int)))
theorem d_law_letters  (x : Fx K mg E) (xT : TabsB K mg base) (hk : 3 ≤ k) : FnD P w K mg base (k + 2) (He.fAd K ("_law_letters", none)) E.d_law_letters [] (defM 0 (m_law_letters (adK K) )) := by
  exact FnD.mk x.F_law_letters sc_law_letters fun cdv A outer s H E hr =>
    have tk := takes_fn (P := P) (w := w) (K := K) (mg := mg) (base := base) (N := []) (qual := "_law_letters") (scope := defScope (top 24)) (f := He.fAd K ("_law_letters", none)) (cd := cdv) (A := A) (outer := outer) (s := s) (H := H) (E := E)
    (pss_done (ps_dret (pd_str [97, 98, 99, 100, 101, 102, 103, 104, 105, 106, 107, 108, 109, 110, 111, 112, 113, 114, 115, 116, 117, 118, 119, 120, 121, 122])))
theorem d_look_walls {φare_walls : Fn} (x : Fx K mg E) (xT : TabsB K mg base) (hk : 3 ≤ k) (Gare_walls : FnD P w K mg base (k + 1) (He.fAd K ("are_walls", none)) E.d_are_walls ["walls"] φare_walls) : FnD P w K mg base (k + 2) (He.fAd K ("look_walls", none)) E.d_look_walls ["walls"] (defM 1 (m_look_walls (adK K) φare_walls)) := by
  exact FnD.mk x.F_look_walls sc_look_walls fun cdv A outer s H E hr =>
    have tk := takes_fn (P := P) (w := w) (K := K) (mg := mg) (base := base) (N := ["walls"]) (qual := "look_walls") (scope := defScope (top 12)) (f := He.fAd K ("look_walls", none)) (cd := cdv) (A := A) (outer := outer) (s := s) (H := H) (E := E)
    (pss_done (ps_dif (pd_notT (pd_truth (pd_call Gare_walls hr x.m_are_walls x.F_are_walls.kp (b_are_walls x) (tk_of tk) (pd_cons (pd_var 0) pd_nil)))) (pss_done (ps_draise rfl tk (pmd_mk0 (x.o_BadWalls) grx_BadWalls (i_BadWalls_init x (by omega)) hr x.g_BadWalls))) pss_dnil))
theorem d_look_bars {φis_bar : Fn} (x : Fx K mg E) (xT : TabsB K mg base) (hk : 3 ≤ k) (Gis_bar : FnD P w K mg base (k + 1) (He.fAd K ("is_bar", none)) E.d_is_bar ["walls", "bar"] φis_bar) : FnD P w K mg base (k + 2) (He.fAd K ("look_bars", none)) E.d_look_bars ["walls", "bars"] (defM 4 (m_look_bars (adK K) φis_bar)) := by
  exact FnD.mk x.F_look_bars sc_look_bars fun cdv A outer s H E hr =>
    have tk := takes_fn (P := P) (w := w) (K := K) (mg := mg) (base := base) (N := ["walls", "bars", "at", "bar"]) (qual := "look_bars") (scope := defScope (top 15)) (f := He.fAd K ("look_bars", none)) (cd := cdv) (A := A) (outer := outer) (s := s) (H := H) (E := E)
    (pss_done (ps_dfor (passes_of rfl) rfl (pi_denum x.n_enumerate (pd_var 1)) (pg_dtup rfl (pgs_dcons (pg_dname sc_look_bars.nd (i := 2) rfl (Or.inl rfl)) (pgs_dcons (pg_dname sc_look_bars.nd (i := 3) rfl (Or.inl rfl)) pgs_dnil))) (pss_done (ps_dif (pd_bopT (pw_dor (pd_notT (pd_truth (pd_call Gis_bar hr x.m_is_bar x.F_is_bar.kp (b_is_bar x) (tk_of tk) (pd_cons (pd_var 0) (pd_cons (pd_var 3) pd_nil))))) (pw_dor1 (pd_cmpT (op_inA hr.units) snd_in (pd_var 3) (pd_sl (pd_var 1) po_dno (po_dso (pd_var 2))))))) (pss_done (ps_draise rfl tk (pmd_mk (x.o_BadBar) grx_BadBar (i_BadBar_init x (by omega)) hr x.g_BadBar (pd_cons (pd_var 2) pd_nil)))) pss_dnil))))
theorem d_is_side  (x : Fx K mg E) (xT : TabsB K mg base) (hk : 3 ≤ k) : FnD P w K mg base (k + 2) (He.fAd K ("is_side", none)) E.d_is_side ["walls", "side"] (defM 2 (m_is_side (adK K) )) := by
  exact FnD.mk x.F_is_side sc_is_side fun cdv A outer s H E hr =>
    have tk := takes_fn (P := P) (w := w) (K := K) (mg := mg) (base := base) (N := ["walls", "side"]) (qual := "is_side") (scope := defScope (top 13)) (f := He.fAd K ("is_side", none)) (cd := cdv) (A := A) (outer := outer) (s := s) (H := H) (E := E)
    (pss_done (ps_dret (pd_and (pd_cmp (op_eqA hr.units) snd_eq (pd_callB call_lenA snd_len x.n_len (pd_cons (pd_var 1) pd_nil)) pd_int) (pd_one (pd_cmp (op_inA hr.units) snd_in (pd_strm0 PySem.F.slot_str_lower PySem.F.type_str_lower mt_lower snd_lower (pd_var 1)) (pd_var 0))))))
theorem d_straight_of {φsides_of : Fn} {φother : Fn} (x : Fx K mg E) (xT : TabsB K mg base) (hk : 3 ≤ k) (Gsides_of : FnD P w K mg base (k + 1) (He.fAd K ("sides_of", none)) E.d_sides_of ["walls"] φsides_of) (Gother : FnD P w K mg base (k + 1) (He.fAd K ("other", none)) E.d_other ["side"] φother) : FnD P w K mg base (k + 2) (He.fAd K ("straight_of", none)) E.d_straight_of ["walls", "bars"] (defM 5 (m_straight_of (adK K) φsides_of φother)) := by
  exact FnD.mk x.F_straight_of sc_straight_of fun cdv A outer s H E hr =>
    have tk := takes_fn (P := P) (w := w) (K := K) (mg := mg) (base := base) (N := ["walls", "bars", "found", "bar", "side"]) (qual := "straight_of") (scope := defScope (top 17)) (f := He.fAd K ("straight_of", none)) (cd := cdv) (A := A) (outer := outer) (s := s) (H := H) (E := E)
    (pss_dcons (ps_dsetDc [("side", 4)] (i := 2) rfl sc_straight_of.nd rfl rfl rfl (pi_dvals (pd_call Gsides_of hr x.m_sides_of x.F_sides_of.kp (b_sides_of x) (tk_of tk) (pd_cons (pd_var 0) pd_nil))) (blk_of (N := ["walls", "bars", "found", "bar", "side"]) (sc := defScope (top 17)) (by decide +kernel) rfl rfl) (by decide) (fun _ _ _ _ _ => (pg_dname sc_straight_of.nd (i := 4) rfl (Or.inl rfl))) (fun _ _ _ _ _ => pts_dnil) (fun _ _ _ _ _ => (pd_var 4)) (fun _ _ _ _ _ => (pd_lstL pd_nil)))
  (pss_dcons (ps_dfor (passes_of rfl) rfl (pi_dvals (pd_callB cr_sortA snd_sorted x.n_sorted (pd_cons (pd_var 1) pd_nil))) (pg_dname sc_straight_of.nd (i := 3) rfl (Or.inl rfl)) (pss_dcons (ps_dexpr (pd_lm PySem.F.slot_list_append PySem.F.type_list_append mt_append snd_append (pd_ix hr.units (pd_var 2) (pd_ix hr.units (pd_var 3) pd_int)) (pd_cons (pd_call Gother hr x.m_other x.F_other.kp (b_other x) (tk_of tk) (pd_cons (pd_ix hr.units (pd_var 3) pd_int) pd_nil)) pd_nil)))
  (pss_done (ps_dexpr (pd_lm PySem.F.slot_list_append PySem.F.type_list_append mt_append snd_append (pd_ix hr.units (pd_var 2) (pd_ix hr.units (pd_var 3) pd_int)) (pd_cons (pd_call Gother hr x.m_other x.F_other.kp (b_other x) (tk_of tk) (pd_cons (pd_ix hr.units (pd_var 3) pd_int) pd_nil)) pd_nil))))))
  (pss_done (ps_dret (pd_var 2)))))
theorem d_chains_from  (x : Fx K mg E) (xT : TabsB K mg base) (hk : 3 ≤ k) : FnD P w K mg base (k + 2) (He.fAd K ("chains_from", none)) E.d_chains_from ["straight", "side"] (defM 6 (m_chains_from (adK K) )) := by
  exact FnD.mk x.F_chains_from sc_chains_from fun cdv A outer s H E hr =>
    have tk := takes_fn (P := P) (w := w) (K := K) (mg := mg) (base := base) (N := ["straight", "side", "chains", "waiting", "here", "later"]) (qual := "chains_from") (scope := defScope (top 18)) (f := He.fAd K ("chains_from", none)) (cd := cdv) (A := A) (outer := outer) (s := s) (H := H) (E := E)
    (pss_dcons (ps_dset (i := 2) sc_chains_from.nd rfl (Or.inl rfl) (pd_disp (pps_dcons (pd_var 1) (pd_lst (pd_cons (pd_var 1) pd_nil)) pps_dnil)))
  (pss_dcons (ps_dset (i := 3) sc_chains_from.nd rfl (Or.inl rfl) (pd_lstL (pd_cons (pd_var 1) pd_nil)))
  (pss_dcons (ps_dwhile (passes_of rfl) (pd_truth (pd_var 3)) (pss_dcons (ps_dstarL rfl (pd_var 3) (pgs_dcons (pg_dname sc_chains_from.nd (i := 4) rfl (Or.inl rfl)) (pgs_dstar (pg_dname sc_chains_from.nd (i := 3) rfl (Or.inl rfl)))))
  (pss_done (ps_dfor (passes_of rfl) rfl (pi_dvals (pd_ix hr.units (pd_var 0) (pd_var 4))) (pg_dname sc_chains_from.nd (i := 5) rfl (Or.inl rfl)) (pss_done (ps_dif (pd_cmpT (op_ninA hr.units) snd_nin (pd_var 5) (pd_var 2)) (pss_dcons (ps_dsetx hr.units (pd_var 2) (pd_var 5) (pd_op op_addA snd_add (pd_ix hr.units (pd_var 2) (pd_var 4)) (pd_lst (pd_cons (pd_var 5) pd_nil))))
  (pss_done (ps_dexpr (pd_lm PySem.F.slot_list_append PySem.F.type_list_append mt_append snd_append (pd_var 3) (pd_cons (pd_var 5) pd_nil))))) pss_dnil))))))
  (pss_done (ps_dret (pd_var 2))))))
theorem d_law_other  (x : Fx K mg E) (xT : TabsB K mg base) (hk : 3 ≤ k) : FnD P w K mg base (k + 2) (He.fAd K ("_law_other", none)) E.d_law_other ["_law_side"] (defM 1 (m_law_other (adK K) )) := by
  exact FnD.mk x.F_law_other sc_law_other fun cdv A outer s H E hr =>
    have tk := takes_fn (P := P) (w := w) (K := K) (mg := mg) (base := base) (N := ["_law_side"]) (qual := "_law_other") (scope := defScope (top 26)) (f := He.fAd K ("_law_other", none)) (cd := cdv) (A := A) (outer := outer) (s := s) (H := H) (E := E)
    (pss_done (ps_dret (pd_ifExp (pd_truth (pd_strm0 PySem.F.slot_str_isupper PySem.F.type_str_isupper mt_isupper snd_isup (pd_var 0))) (pd_strm0 PySem.F.slot_str_lower PySem.F.type_str_lower mt_lower snd_lower (pd_var 0)) (pd_strm0 PySem.F.slot_str_upper PySem.F.type_str_upper mt_upper snd_upper (pd_var 0)))))
theorem d_are_walls  (x : Fx K mg E) (xT : TabsB K mg base) (hk : 3 ≤ k) : FnD P w K mg base (k + 2) (He.fAd K ("are_walls", none)) E.d_are_walls ["walls"] (defM 4 (m_are_walls (adK K) )) := by
  exact FnD.mk x.F_are_walls sc_are_walls fun cdv A outer s H E hr =>
    have tk := takes_fn (P := P) (w := w) (K := K) (mg := mg) (base := base) (N := ["walls", "sign", "one", "two"]) (qual := "are_walls") (scope := defScope (top 11)) (f := He.fAd K ("are_walls", none)) (cd := cdv) (A := A) (outer := outer) (s := s) (H := H) (E := E)
    (pss_dcons (ps_dif (pd_bopT (pw_dor (pd_notT (pd_chainT op_leA op_leA snd_le snd_le pd_int (pd_callB call_lenA snd_len x.n_len (pd_cons (pd_var 0) pd_nil)) (pd_globI x.i_WIDEST.choose_spec))) (pw_dor1 (pd_notT (pd_truth (pd_callB (cr_all rfl) snd_all x.n_all (pd_cons (pd_lc [("sign", 1)] rfl sc_are_walls.nd (pi_dvals (pd_var 0)) (blk_of (N := ["walls", "sign", "one", "two"]) (sc := defScope (top 11)) (by decide +kernel) rfl rfl) (by decide) (fun _ _ _ _ _ => (pg_dname sc_are_walls.nd (i := 1) rfl (Or.inl rfl))) (fun _ _ _ _ _ => pts_dnil) (fun _ _ _ _ _ => (pd_cmp (op_inA hr.units) snd_in (pd_var 1) (pd_globS s_SMALL x.s_SMALL.choose_spec)))) pd_nil))))))) (pss_done (ps_dret pd_bl)) pss_dnil)
  (pss_done (ps_dret (pd_callB (cr_all rfl) snd_all x.n_all (pd_cons (pd_lc [("one", 2), ("two", 3)] rfl sc_are_walls.nd (pi_dzip x.n_zip (pd_var 0) (pd_sl (pd_var 0) (po_dso pd_int) po_dno)) (blk_of (N := ["walls", "sign", "one", "two"]) (sc := defScope (top 11)) (by decide +kernel) rfl rfl) (by decide) (fun _ _ _ _ _ => (pg_dtup rfl (pgs_dcons (pg_dname sc_are_walls.nd (i := 2) rfl (Or.inl rfl)) (pgs_dcons (pg_dname sc_are_walls.nd (i := 3) rfl (Or.inl rfl)) pgs_dnil)))) (fun _ _ _ _ _ => pts_dnil) (fun _ _ _ _ _ => (pd_cmp op_ltA snd_lt (pd_var 2) (pd_var 3)))) pd_nil)))))
theorem d_is_bar {φis_side : Fn} (x : Fx K mg E) (xT : TabsB K mg base) (hk : 3 ≤ k) (Gis_side : FnD P w K mg base (k + 1) (He.fAd K ("is_side", none)) E.d_is_side ["walls", "side"] φis_side) : FnD P w K mg base (k + 2) (He.fAd K ("is_bar", none)) E.d_is_bar ["walls", "bar"] (defM 3 (m_is_bar (adK K) φis_side)) := by
  exact FnD.mk x.F_is_bar sc_is_bar fun cdv A outer s H E hr =>
    have tk := takes_fn (P := P) (w := w) (K := K) (mg := mg) (base := base) (N := ["walls", "bar", "side"]) (qual := "is_bar") (scope := defScope (top 14)) (f := He.fAd K ("is_bar", none)) (cd := cdv) (A := A) (outer := outer) (s := s) (H := H) (E := E)
    (pss_done (ps_dret (pd_and (pd_cmp (op_eqA hr.units) snd_eq (pd_callB call_lenA snd_len x.n_len (pd_cons (pd_var 1) pd_nil)) pd_int) (pd_and (pd_callB (cr_all rfl) snd_all x.n_all (pd_cons (pd_lc [("side", 2)] rfl sc_is_bar.nd (pi_dvals (pd_var 1)) (blk_of (N := ["walls", "bar", "side"]) (sc := defScope (top 14)) (by decide +kernel) rfl rfl) (by decide) (fun _ _ _ _ _ => (pg_dname sc_is_bar.nd (i := 2) rfl (Or.inl rfl))) (fun _ _ _ _ _ => pts_dnil) (fun _ _ _ _ _ => (pd_call Gis_side hr x.m_is_side x.F_is_side.kp (b_is_side x) tk_no (pd_cons (pd_var 0) (pd_cons (pd_var 2) pd_nil))))) pd_nil)) (pd_one (pd_cmp op_ltA snd_lt (pd_strm0 PySem.F.slot_str_lower PySem.F.type_str_lower mt_lower snd_lower (pd_ix hr.units (pd_var 1) pd_int)) (pd_strm0 PySem.F.slot_str_lower PySem.F.type_str_lower mt_lower snd_lower (pd_ix hr.units (pd_var 1) pd_int))))))))
theorem d_sides_of {φother : Fn} (x : Fx K mg E) (xT : TabsB K mg base) (hk : 3 ≤ k) (Gother : FnD P w K mg base (k + 1) (He.fAd K ("other", none)) E.d_other ["side"] φother) : FnD P w K mg base (k + 2) (He.fAd K ("sides_of", none)) E.d_sides_of ["walls"] (defM 3 (m_sides_of (adK K) φother)) := by
  exact FnD.mk x.F_sides_of sc_sides_of fun cdv A outer s H E hr =>
    have tk := takes_fn (P := P) (w := w) (K := K) (mg := mg) (base := base) (N := ["walls", "wall", "side"]) (qual := "sides_of") (scope := defScope (top 16)) (f := He.fAd K ("sides_of", none)) (cd := cdv) (A := A) (outer := outer) (s := s) (H := H) (E := E)
    (pss_done (ps_dret (pd_callB cr_sortA snd_sorted x.n_sorted (pd_cons (pd_lc2 [("wall", 1), ("side", 2)] [2] rfl sc_sides_of.nd (pi_dvals (pd_var 0)) (blk_of (N := ["walls", "wall", "side"]) (sc := defScope (top 16)) (by decide +kernel) rfl rfl) (by decide) (by decide) (by decide) (fun _ _ _ _ _ => (pg_dname sc_sides_of.nd (i := 1) rfl (Or.inl rfl))) (fun _ _ _ _ _ => pts_dnil) (fun _ _ _ _ _ => (pi_dvals (pd_tup (pd_cons (pd_var 1) (pd_cons (pd_call Gother hr x.m_other x.F_other.kp (b_other x) tk_no (pd_cons (pd_var 1) pd_nil)) pd_nil))))) (fun _ _ _ _ _ => (pg_dname sc_sides_of.nd (i := 2) rfl (Or.inl rfl))) (fun _ _ _ _ _ => pts_dnil) (fun _ _ _ _ _ => (pd_var 2))) pd_nil))))
theorem d_other  (x : Fx K mg E) (xT : TabsB K mg base) (hk : 3 ≤ k) : FnD P w K mg base (k + 2) (He.fAd K ("other", none)) E.d_other ["side"] (defM 1 (m_other (adK K) )) := by
  exact FnD.mk x.F_other sc_other fun cdv A outer s H E hr =>
    have tk := takes_fn (P := P) (w := w) (K := K) (mg := mg) (base := base) (N := ["side"]) (qual := "other") (scope := defScope (top 10)) (f := He.fAd K ("other", none)) (cd := cdv) (A := A) (outer := outer) (s := s) (H := H) (E := E)
    (pss_done (ps_dret (pd_strm0 PySem.F.slot_str_swapcase PySem.F.type_str_swapcase mt_swapcase snd_swap (pd_var 0))))
theorem p_law_start (x : Fx K mg E) (xT : TabsB K mg base) (h : 5 ≤ k) : FnOk P w K mg base (L2.CX P w) k (He.fAd K ("_law_start", none)) E.d_law_start ["_law_script"] (spStart K) := by
  obtain ⟨k, rfl⟩ : ∃ j, k = j + 1 := ⟨k - 1, by omega⟩
  exact start_ok x.F_law_start sc_law_start fun cdv A outer s H E hr => pss_cons (ps_set (i := 1) sc_law_start.nd rfl (Or.inl rfl) pe_int) (pss_cons (ps_for (passes_of rfl) rfl (pi_list (pe_slice sl_list (pe_var (i := 0) rfl (Or.inl rfl)) po_none (po_some pe_int))) (pg_name (i := 2) sc_law_start.nd rfl (Or.inl rfl)) (pss_one (ps_set (i := 1) sc_law_start.nd rfl (Or.inl rfl) (pe_op op_mod (pe_op op_add (pe_op op_add (pe_op op_mul (pe_var (i := 1) rfl (Or.inl rfl)) pe_int) (pe_op op_mod (pe_var (i := 2) rfl (Or.inl rfl)) pe_int)) pe_int) pe_int)))) (pss_one (ps_ret (pe_lst (pa_cons (pe_callTy call_list_of rfl x.n_list (by decide +kernel) (pa_cons (pe_slice sl_list (pe_var (i := 0) rfl (Or.inl rfl)) po_none (po_some pe_int)) pa_nil)) (pa_cons pe_int (pa_cons pe_int (pa_cons (pe_var (i := 1) rfl (Or.inl rfl)) (pa_cons pe_int pa_nil)))))))))
theorem p_law_draw (x : Fx K mg E) (xT : TabsB K mg base) (h : 5 ≤ k) : FnD P w K mg base k (He.fAd K ("_law_draw", none)) E.d_law_draw ["_law_d", "_law_many"] (φlaw_draw (adK K)) := by
  obtain ⟨k, rfl⟩ : ∃ j, k = j + 2 := ⟨k - 2, by omega⟩
  exact d_law_draw x xT (by omega) 
theorem p_law_letters (x : Fx K mg E) (xT : TabsB K mg base) (h : 5 ≤ k) : FnD P w K mg base k (He.fAd K ("_law_letters", none)) E.d_law_letters [] (φlaw_letters (adK K)) := by
  obtain ⟨k, rfl⟩ : ∃ j, k = j + 2 := ⟨k - 2, by omega⟩
  exact d_law_letters x xT (by omega) 
theorem p_law_shuts (x : Fx K mg E) (xT : TabsB K mg base) (h : 6 ≤ k) : FnD P w K mg base k (He.fAd K ("_law_shuts", none)) E.d_law_shuts ["_law_d", "_law_most"] (φlaw_shuts (adK K)) := by
  obtain ⟨k, rfl⟩ : ∃ j, k = j + 2 := ⟨k - 2, by omega⟩
  exact d_law_shuts x xT (by omega) (p_law_draw x xT (by omega)) (p_law_letters x xT (by omega))
theorem p_law_pairs (x : Fx K mg E) (xT : TabsB K mg base) (h : 5 ≤ k) : FnD P w K mg base k (He.fAd K ("_law_pairs", none)) E.d_law_pairs ["_law_shuts_it"] (φlaw_pairs (adK K)) := by
  obtain ⟨k, rfl⟩ : ∃ j, k = j + 2 := ⟨k - 2, by omega⟩
  exact d_law_pairs x xT (by omega) 
theorem p_law_of (x : Fx K mg E) (xT : TabsB K mg base) (h : 6 ≤ k) : FnD P w K mg base k (He.fAd K ("_law_of", none)) E.d_law_of ["_law_d", "_law_some"] (φlaw_of (adK K)) := by
  obtain ⟨k, rfl⟩ : ∃ j, k = j + 2 := ⟨k - 2, by omega⟩
  exact d_law_of x xT (by omega) (p_law_draw x xT (by omega))
theorem p_are_walls (x : Fx K mg E) (xT : TabsB K mg base) (h : 5 ≤ k) : FnD P w K mg base k (He.fAd K ("are_walls", none)) E.d_are_walls ["walls"] (φare_walls (adK K)) := by
  obtain ⟨k, rfl⟩ : ∃ j, k = j + 2 := ⟨k - 2, by omega⟩
  exact d_are_walls x xT (by omega) 
theorem p_look_walls (x : Fx K mg E) (xT : TabsB K mg base) (h : 6 ≤ k) : FnD P w K mg base k (He.fAd K ("look_walls", none)) E.d_look_walls ["walls"] (φlook_walls (adK K)) := by
  obtain ⟨k, rfl⟩ : ∃ j, k = j + 2 := ⟨k - 2, by omega⟩
  exact d_look_walls x xT (by omega) (p_are_walls x xT (by omega))
theorem p_is_side (x : Fx K mg E) (xT : TabsB K mg base) (h : 5 ≤ k) : FnD P w K mg base k (He.fAd K ("is_side", none)) E.d_is_side ["walls", "side"] (φis_side (adK K)) := by
  obtain ⟨k, rfl⟩ : ∃ j, k = j + 2 := ⟨k - 2, by omega⟩
  exact d_is_side x xT (by omega) 
theorem p_is_bar (x : Fx K mg E) (xT : TabsB K mg base) (h : 6 ≤ k) : FnD P w K mg base k (He.fAd K ("is_bar", none)) E.d_is_bar ["walls", "bar"] (φis_bar (adK K)) := by
  obtain ⟨k, rfl⟩ : ∃ j, k = j + 2 := ⟨k - 2, by omega⟩
  exact d_is_bar x xT (by omega) (p_is_side x xT (by omega))
theorem p_look_bars (x : Fx K mg E) (xT : TabsB K mg base) (h : 7 ≤ k) : FnD P w K mg base k (He.fAd K ("look_bars", none)) E.d_look_bars ["walls", "bars"] (φlook_bars (adK K)) := by
  obtain ⟨k, rfl⟩ : ∃ j, k = j + 2 := ⟨k - 2, by omega⟩
  exact d_look_bars x xT (by omega) (p_is_bar x xT (by omega))
theorem p_other (x : Fx K mg E) (xT : TabsB K mg base) (h : 5 ≤ k) : FnD P w K mg base k (He.fAd K ("other", none)) E.d_other ["side"] (φother (adK K)) := by
  obtain ⟨k, rfl⟩ : ∃ j, k = j + 2 := ⟨k - 2, by omega⟩
  exact d_other x xT (by omega) 
theorem p_sides_of (x : Fx K mg E) (xT : TabsB K mg base) (h : 6 ≤ k) : FnD P w K mg base k (He.fAd K ("sides_of", none)) E.d_sides_of ["walls"] (φsides_of (adK K)) := by
  obtain ⟨k, rfl⟩ : ∃ j, k = j + 2 := ⟨k - 2, by omega⟩
  exact d_sides_of x xT (by omega) (p_other x xT (by omega))
theorem p_straight_of (x : Fx K mg E) (xT : TabsB K mg base) (h : 7 ≤ k) : FnD P w K mg base k (He.fAd K ("straight_of", none)) E.d_straight_of ["walls", "bars"] (φstraight_of (adK K)) := by
  obtain ⟨k, rfl⟩ : ∃ j, k = j + 2 := ⟨k - 2, by omega⟩
  exact d_straight_of x xT (by omega) (p_sides_of x xT (by omega)) (p_other x xT (by omega))
theorem p_chains_from (x : Fx K mg E) (xT : TabsB K mg base) (h : 5 ≤ k) : FnD P w K mg base k (He.fAd K ("chains_from", none)) E.d_chains_from ["straight", "side"] (φchains_from (adK K)) := by
  obtain ⟨k, rfl⟩ : ∃ j, k = j + 2 := ⟨k - 2, by omega⟩
  exact d_chains_from x xT (by omega) 
theorem p_chain (x : Fx K mg E) (xT : TabsB K mg base) (h : 8 ≤ k) : FnD P w K mg base k (He.fAd K ("chain", none)) E.d_chain ["walls", "bars", "one", "two"] (φchain (adK K)) := by
  obtain ⟨k, rfl⟩ : ∃ j, k = j + 2 := ⟨k - 2, by omega⟩
  exact d_chain x xT (by omega) (p_look_walls x xT (by omega)) (p_look_bars x xT (by omega)) (p_is_side x xT (by omega)) (p_straight_of x xT (by omega)) (p_chains_from x xT (by omega))
theorem p_law_other (x : Fx K mg E) (xT : TabsB K mg base) (h : 5 ≤ k) : FnD P w K mg base k (He.fAd K ("_law_other", none)) E.d_law_other ["_law_side"] (φlaw_other (adK K)) := by
  obtain ⟨k, rfl⟩ : ∃ j, k = j + 2 := ⟨k - 2, by omega⟩
  exact d_law_other x xT (by omega) 
theorem p_law_straight (x : Fx K mg E) (xT : TabsB K mg base) (h : 6 ≤ k) : FnD P w K mg base k (He.fAd K ("_law_straight", none)) E.d_law_straight ["_law_bars_it", "_law_one_it", "_law_two_it"] (φlaw_straight (adK K)) := by
  obtain ⟨k, rfl⟩ : ∃ j, k = j + 2 := ⟨k - 2, by omega⟩
  exact d_law_straight x xT (by omega) (p_law_other x xT (by omega))
theorem p_law_far (x : Fx K mg E) (xT : TabsB K mg base) (h : 7 ≤ k) : FnD P w K mg base k (He.fAd K ("_law_far", none)) E.d_law_far ["_law_shuts_it", "_law_bars_it", "_law_one_it", "_law_two_it"] (φlaw_far (adK K)) := by
  obtain ⟨k, rfl⟩ : ∃ j, k = j + 2 := ⟨k - 2, by omega⟩
  exact d_law_far x xT (by omega) (p_law_straight x xT (by omega))
theorem p_law_strange (x : Fx K mg E) (xT : TabsB K mg base) (h : 6 ≤ k) : FnD P w K mg base k (He.fAd K ("_law_strange", none)) E.d_law_strange ["_law_shuts_it"] (φlaw_strange (adK K)) := by
  obtain ⟨k, rfl⟩ : ∃ j, k = j + 2 := ⟨k - 2, by omega⟩
  exact d_law_strange x xT (by omega) (p_law_letters x xT (by omega))
theorem p_law (x : Fx K mg E) (xT : TabsB K mg base) (h : 12 ≤ k) : FnOk P w K mg base (L2.CX P w) k (He.fAd K ("law", none)) E.d_law ["_law_script"] (spLawK K [((He.cT K ("law", none)).2, "law.<locals>.<lambda>")] 11 (fun κ => mlaw (adK K) κ lt_0 lt_1)) := by
  obtain ⟨k, rfl⟩ : ∃ j, k = j + 5 := ⟨k - 5, by omega⟩
  exact d_law x xT (by omega) (p_law_start x xT (by omega)) (p_law_draw x xT (by omega)) (p_law_shuts x xT (by omega)) (p_law_pairs x xT (by omega)) (p_law_of x xT (by omega)) (p_chain x xT (by omega)) (p_law_far x xT (by omega)) (p_law_straight x xT (by omega)) (p_law_strange x xT (by omega))
end
theorem fx_of {K : PySem.W.Frag} {h : Heap} {mg : Str → Option Value} (X : K.In h) (G : h.Ns mainGlobals mg) (c : SaysY fa fn ex K) : ∃ E, Fx K mg E := by
  have cd := c.d
  have r := c.more
  unfold ex at r
  obtain ⟨e0, r⟩ := Bool.and_eq_true_iff.mp r
  obtain ⟨e1, r⟩ := Bool.and_eq_true_iff.mp r
  obtain ⟨e2, r⟩ := Bool.and_eq_true_iff.mp r
  obtain ⟨e3, r⟩ := Bool.and_eq_true_iff.mp r
  obtain ⟨e4, r⟩ := Bool.and_eq_true_iff.mp r
  obtain ⟨e5, r⟩ := Bool.and_eq_true_iff.mp r
  obtain ⟨e6, r⟩ := Bool.and_eq_true_iff.mp r
  obtain ⟨fd_0, F_law⟩ := cd.def_ 0 (d := dd_law) rfl
  obtain ⟨fd_1, F_law_start⟩ := cd.def_ 1 (d := dd_law_start) rfl
  obtain ⟨fd_2, F_law_draw⟩ := cd.def_ 2 (d := dd_law_draw) rfl
  obtain ⟨fd_3, F_law_shuts⟩ := cd.def_ 3 (d := dd_law_shuts) rfl
  obtain ⟨fd_4, F_law_pairs⟩ := cd.def_ 4 (d := dd_law_pairs) rfl
  obtain ⟨fd_5, F_law_of⟩ := cd.def_ 5 (d := dd_law_of) rfl
  obtain ⟨fd_6, F_chain⟩ := cd.def_ 6 (d := dd_chain) rfl
  obtain ⟨fd_7, F_law_far⟩ := cd.def_ 7 (d := dd_law_far) rfl
  obtain ⟨fd_8, F_law_straight⟩ := cd.def_ 8 (d := dd_law_straight) rfl
  obtain ⟨fd_9, F_law_strange⟩ := cd.def_ 9 (d := dd_law_strange) rfl
  obtain ⟨fd_10, F_law_refused⟩ := cd.def_ 10 (d := dd_law_refused) rfl
  obtain ⟨fd_11, F_law_word⟩ := cd.def_ 11 (d := dd_law_word) rfl
  obtain ⟨fd_12, F_law_letters⟩ := cd.def_ 12 (d := dd_law_letters) rfl
  obtain ⟨fd_13, F_look_walls⟩ := cd.def_ 13 (d := dd_look_walls) rfl
  obtain ⟨fd_14, F_look_bars⟩ := cd.def_ 14 (d := dd_look_bars) rfl
  obtain ⟨fd_15, F_is_side⟩ := cd.def_ 15 (d := dd_is_side) rfl
  obtain ⟨fd_16, F_straight_of⟩ := cd.def_ 16 (d := dd_straight_of) rfl
  obtain ⟨fd_17, F_chains_from⟩ := cd.def_ 17 (d := dd_chains_from) rfl
  obtain ⟨fd_18, F_law_other⟩ := cd.def_ 18 (d := dd_law_other) rfl
  obtain ⟨fd_19, F_are_walls⟩ := cd.def_ 19 (d := dd_are_walls) rfl
  obtain ⟨fd_20, F_is_bar⟩ := cd.def_ 20 (d := dd_is_bar) rfl
  obtain ⟨fd_21, F_sides_of⟩ := cd.def_ 21 (d := dd_sides_of) rfl
  obtain ⟨fd_22, F_other⟩ := cd.def_ 22 (d := dd_other) rfl
  obtain ⟨fd_23, F_HallError_init⟩ := cd.def_ 23 (d := dd_HallError_init) rfl
  obtain ⟨fd_24, F_BadWalls_init⟩ := cd.def_ 24 (d := dd_BadWalls_init) rfl
  obtain ⟨fd_25, F_BadBar_init⟩ := cd.def_ 25 (d := dd_BadBar_init) rfl
  obtain ⟨fd_26, F_BadSide_init⟩ := cd.def_ 26 (d := dd_BadSide_init) rfl
  exact ⟨⟨fd_0, fd_1, fd_2, fd_3, fd_4, fd_5, fd_6, fd_7, fd_8, fd_9, fd_10, fd_11, fd_12, fd_13, fd_14, fd_15, fd_16, fd_17, fd_18, fd_19, fd_20, fd_21, fd_22, fd_23, fd_24, fd_25, fd_26⟩, {
    F_law := F_law
    F_law_start := F_law_start
    F_law_draw := F_law_draw
    F_law_shuts := F_law_shuts
    F_law_pairs := F_law_pairs
    F_law_of := F_law_of
    F_chain := F_chain
    F_law_far := F_law_far
    F_law_straight := F_law_straight
    F_law_strange := F_law_strange
    F_law_refused := F_law_refused
    F_law_word := F_law_word
    F_law_letters := F_law_letters
    F_look_walls := F_look_walls
    F_look_bars := F_look_bars
    F_is_side := F_is_side
    F_straight_of := F_straight_of
    F_chains_from := F_chains_from
    F_law_other := F_law_other
    F_are_walls := F_are_walls
    F_is_bar := F_is_bar
    F_sides_of := F_sides_of
    F_other := F_other
    F_HallError_init := F_HallError_init
    F_BadWalls_init := F_BadWalls_init
    F_BadBar_init := F_BadBar_init
    F_BadSide_init := F_BadSide_init
    m_law_start := He.glo_ok X G (cd.fact 0 (f := .glo "_law_start") rfl)
    m_law_draw := He.glo_ok X G (cd.fact 1 (f := .glo "_law_draw") rfl)
    m_law_shuts := He.glo_ok X G (cd.fact 2 (f := .glo "_law_shuts") rfl)
    n_range := He.free_ok X G (cd.fact 3 (f := .free "range") rfl)
    n_len := He.free_ok X G (cd.fact 4 (f := .free "len") rfl)
    m_law_pairs := He.glo_ok X G (cd.fact 5 (f := .glo "_law_pairs") rfl)
    m_law_of := He.glo_ok X G (cd.fact 6 (f := .glo "_law_of") rfl)
    n_list := He.free_ok X G (cd.fact 7 (f := .free "list") rfl)
    m_chain := He.glo_ok X G (cd.fact 8 (f := .glo "chain") rfl)
    m_law_far := He.glo_ok X G (cd.fact 9 (f := .glo "_law_far") rfl)
    n_isinstance := He.free_ok X G (cd.fact 10 (f := .free "isinstance") rfl)
    m_law_straight := He.glo_ok X G (cd.fact 11 (f := .glo "_law_straight") rfl)
    n_all := He.free_ok X G (cd.fact 12 (f := .free "all") rfl)
    m_law_strange := He.glo_ok X G (cd.fact 13 (f := .glo "_law_strange") rfl)
    m_law_word := He.glo_ok X G (cd.fact 14 (f := .glo "_law_word") rfl)
    m_law_refused := He.glo_ok X G (cd.fact 15 (f := .glo "_law_refused") rfl)
    g_HallError := He.glo_ok X G (cd.fact 16 (f := .glo "HallError") rfl)
    g_Missing := He.glo_ok X G (cd.fact 17 (f := .glo "Missing") rfl)
    g_NothingLeft := He.glo_ok X G (cd.fact 18 (f := .glo "NothingLeft") rfl)
    m_law_letters := He.glo_ok X G (cd.fact 19 (f := .glo "_law_letters") rfl)
    m_look_walls := He.glo_ok X G (cd.fact 20 (f := .glo "look_walls") rfl)
    m_look_bars := He.glo_ok X G (cd.fact 21 (f := .glo "look_bars") rfl)
    m_is_side := He.glo_ok X G (cd.fact 22 (f := .glo "is_side") rfl)
    g_BadSide := He.glo_ok X G (cd.fact 23 (f := .glo "BadSide") rfl)
    m_straight_of := He.glo_ok X G (cd.fact 24 (f := .glo "straight_of") rfl)
    m_chains_from := He.glo_ok X G (cd.fact 25 (f := .glo "chains_from") rfl)
    n_any := He.free_ok X G (cd.fact 26 (f := .free "any") rfl)
    m_law_other := He.glo_ok X G (cd.fact 27 (f := .glo "_law_other") rfl)
    m_are_walls := He.glo_ok X G (cd.fact 28 (f := .glo "are_walls") rfl)
    g_BadWalls := He.glo_ok X G (cd.fact 29 (f := .glo "BadWalls") rfl)
    n_enumerate := He.free_ok X G (cd.fact 30 (f := .free "enumerate") rfl)
    m_is_bar := He.glo_ok X G (cd.fact 31 (f := .glo "is_bar") rfl)
    g_BadBar := He.glo_ok X G (cd.fact 32 (f := .glo "BadBar") rfl)
    m_sides_of := He.glo_ok X G (cd.fact 33 (f := .glo "sides_of") rfl)
    n_sorted := He.free_ok X G (cd.fact 34 (f := .free "sorted") rfl)
    m_other := He.glo_ok X G (cd.fact 35 (f := .glo "other") rfl)
    i_WIDEST := He.int_ok X G (cd.fact 36 (f := .int "WIDEST" 12) rfl)
    s_SMALL := He.str_ok X G (cd.fact 37 (f := .str "SMALL" "abcdefghijklmnopqrstuvwxyz") rfl)
    n_zip := He.free_ok X G (cd.fact 38 (f := .free "zip") rfl)
    n_ValueError := He.free_ok X G (cd.fact 39 (f := .free "ValueError") rfl)
    m_law := He.glo_ok X G (cd.fact 40 (f := .glo "law") rfl)
    w_law_law_word := e0
    u_law_law_word := e1
    o_BadSide := oexIB_ok e2 (bb_BadSide_init F_BadSide_init)
    o_BadWalls := oexIB_ok e3 (bb_BadWalls_init F_BadWalls_init)
    o_BadBar := oexIB_ok e4 (bb_BadBar_init F_BadBar_init)
    v_VE := veiB_ok e5
    r_HallError := crB_ok e6 }⟩
end K03
namespace LamX
open PySem PySem.Spec PyProof.Rows L2
end LamX
namespace SL
open PySem PySem.Spec L2
open PyProof.Rows hiding St
section
variable {fa : List He.Fa} {fn : List He.DefD} {ex : PySem.W.Frag → Bool}
end
section
variable {X : Cx} {W : WX} {C f ea : Addr} {k n : Nat} {fd : FuncData} {ps : List Str} {φ : Fn} {x : Str} {ds : List Value} {e : Expr} {es : List Expr} {ms : MA} {p pos : Pos}
end
section
variable {P : Program} {w : World} {K : PySem.W.Frag} {mg : Str → Option Value} {base : Heap} {k : Nat} {at_ : Str × Option Str} {fd : FuncData} {x qual s0 : Str} {params : Arguments} {body : List Stmt} {scope : Scope} {kws : List (Str × V)} {N : List Str} {mK : List (Str × Addr) → MS}
end
section
variable {δ : DEnv} {S : Store} {Q : D → Store → Prop} {X : Ex → Store → Prop} {ms : MA} {n : Nat} {φ : Fn}
end
end SL
namespace Hal
open SL
def Wls (ws : List Nat) : Prop := ws.Pairwise (· < ·) ∧ (∀ c ∈ ws, 97 ≤ c ∧ c ≤ 122) ∧ 1 ≤ ws.length ∧ ws.length ≤ 12
abbrev Sd (ws : List Nat) (s : Nat) : Prop := loL s ∈ ws
section
variable {ws : List Nat} {s t : Nat}
theorem sd_cases (h : Wls ws) (k : Sd ws s) : (97 ≤ s ∧ s ≤ 122 ∧ loL s = s ∧ swL s = s - 32) ∨ (65 ≤ s ∧ s ≤ 90 ∧ loL s = s + 32 ∧ swL s = s + 32) := by
  have hb := h.2.1 _ k
  by_cases c : 65 ≤ s ∧ s ≤ 90
  · refine .inr ⟨c.1, c.2, ?_, ?_⟩
    · unfold loL; rw [if_pos c]
    · unfold swL; rw [if_pos c]
  · have e : loL s = s := by unfold loL; rw [if_neg c]
    rw [e] at hb
    refine .inl ⟨hb.1, hb.2, e, ?_⟩
    unfold swL
    rw [if_neg c, if_pos hb]
theorem lo_sw (h : Wls ws) (k : Sd ws s) : loL (swL s) = loL s := by
  rcases sd_cases h k with ⟨a, b, c, d⟩ | ⟨a, b, c, d⟩
  · rw [c, d]
    unfold loL
    rw [if_pos (by omega)]
    omega
  · rw [c, d]
    unfold loL
    rw [if_neg (by omega)]
theorem sd_sw (h : Wls ws) (k : Sd ws s) : Sd ws (swL s) := by
  show loL (swL s) ∈ ws
  rw [lo_sw h k]
  exact k
theorem sw_sw (h : Wls ws) (k : Sd ws s) : swL (swL s) = s := by
  rcases sd_cases h k with ⟨a, b, c, d⟩ | ⟨a, b, c, d⟩ <;> rcases sd_cases h (sd_sw h k) with ⟨a', b', c', d'⟩ | ⟨a', b', c', d'⟩ <;> rw [d'] <;> omega
theorem sw_ne (h : Wls ws) (k : Sd ws s) : swL s ≠ s := by
  rcases sd_cases h k with ⟨a, b, c, d⟩ | ⟨a, b, c, d⟩ <;> omega
theorem same_wall (h : Wls ws) (k : Sd ws s) (k2 : Sd ws t) (e : loL s = loL t) : s = t ∨ s = swL t := by
  rcases sd_cases h k with ⟨a, b, c, d⟩ | ⟨a, b, c, d⟩ <;> rcases sd_cases h k2 with ⟨a', b', c', d'⟩ | ⟨a', b', c', d'⟩ <;> rw [c, c'] at e <;> omega
theorem sd_small (h : Wls ws) (k : s ∈ ws) : Sd ws s ∧ loL s = s ∧ swL s = s - 32 ∧ upL s = s - 32 ∧ Sd ws (s - 32) ∧ loL (s - 32) = s := by
  have hb := h.2.1 _ k
  have e : loL s = s := by unfold loL; rw [if_neg (by omega)]
  have e2 : loL (s - 32) = s := by unfold loL; rw [if_pos (by omega)]; omega
  refine ⟨by show loL s ∈ ws; rw [e]; exact k, e, ?_, ?_, by show loL (s - 32) ∈ ws; rw [e2]; exact k, e2⟩
  · unfold swL; rw [if_neg (by omega), if_pos hb]
  · unfold upL; rw [if_pos hb]
end
def Br (ws b : List Nat) : Prop := ∃ x y, b = [x, y] ∧ Sd ws x ∧ Sd ws y ∧ loL x < loL y
def Brs (ws : List Nat) (bars : List (List Nat)) : Prop := (∀ b ∈ bars, Br ws b) ∧ bars.Nodup
def Eg (bars : List (List Nat)) (s t : Nat) : Prop := [s, swL t] ∈ bars ∨ [swL t, s] ∈ bars
inductive Rch (ws : List Nat) (bars : List (List Nat)) (s : Nat) : Nat → Prop where
  | self : Rch ws bars s s
  | step {t u : Nat} (h : Rch ws bars s t) (e : Eg bars t u) (k : Sd ws u) : Rch ws bars s u
section
variable {ws : List Nat} {bars : List (List Nat)} {s t : Nat} {r : List Nat}
def Rm (ws r : List Nat) : Prop := r.map loL = ws
def Av (bars : List (List Nat)) (r : List Nat) : Prop := ∀ b ∈ bars, ∃ c ∈ b, c ∉ r
theorem rm_sd (h : Rm ws r) (k : s ∈ r) : Sd ws s := by
  unfold Rm at h
  show loL s ∈ ws
  rw [← h]
  exact List.mem_map_of_mem k
theorem rm_one (hw : Wls ws) (h : Rm ws r) (k : Sd ws s) : s ∈ r ∨ swL s ∈ r := by
  unfold Rm at h
  have k' : loL s ∈ r.map loL := by rw [h]; exact k
  obtain ⟨x, hx, e⟩ := List.mem_map.mp k'
  rcases same_wall hw (rm_sd h hx) k e with z | z
  · left; rw [← z]; exact hx
  · right; rw [← z]; exact hx
theorem inj_of_nodup {f : Nat → Nat} : ∀ {l : List Nat}, (l.map f).Nodup → ∀ x ∈ l, ∀ y ∈ l, f x = f y → x = y
  | [], _, x, hx, _, _, _ => by simp at hx
  | a :: l, h, x, hx, y, hy, e => by
    rw [List.map_cons, List.nodup_cons] at h
    rcases List.mem_cons.mp hx with hx | hx <;> rcases List.mem_cons.mp hy with hy | hy
    · rw [hx, hy]
    · exact absurd (show f a ∈ l.map f by rw [← hx, e]; exact List.mem_map_of_mem hy) h.1
    · exact absurd (show f a ∈ l.map f by rw [← hy, ← e]; exact List.mem_map_of_mem hx) h.1
    · exact inj_of_nodup h.2 x hx y hy e
theorem rm_not (hw : Wls ws) (h : Rm ws r) (k : s ∈ r) : swL s ∉ r := fun z => by
  have hs := rm_sd h k
  have nd : (r.map loL).Nodup := by
    unfold Rm at h
    rw [h]
    exact hw.1.imp (fun h => Nat.ne_of_lt h)
  exact sw_ne hw hs (inj_of_nodup nd _ z _ k (lo_sw hw hs))
theorem closed (hw : Wls ws) (h : Rm ws r) (a : Av bars r) (k : s ∈ r) (e : Eg bars s t) (ht : Sd ws t) : t ∈ r := by
  rcases rm_one hw h ht with z | z
  · exact z
  · rcases e with e | e
    · obtain ⟨c, hc, hn⟩ := a _ e
      rcases List.mem_cons.mp hc with q | q
      · rw [q] at hn; exact absurd k hn
      · rw [List.mem_singleton.mp q] at hn; exact absurd z hn
    · obtain ⟨c, hc, hn⟩ := a _ e
      rcases List.mem_cons.mp hc with q | q
      · rw [q] at hn; exact absurd z hn
      · rw [List.mem_singleton.mp q] at hn; exact absurd k hn
theorem closedR (hw : Wls ws) (h : Rm ws r) (a : Av bars r) (k : s ∈ r) (e : Rch ws bars s t) : t ∈ r := by
  induction e with
  | self => exact k
  | step _ e ht ih => exact closed hw h a ih e ht
def Good (ws : List Nat) (bars : List (List Nat)) : Prop := ∀ s, Sd ws s → ¬ Rch ws bars s (swL s) ∧ ∀ t, Sd ws t → Rch ws bars s t → Rch ws bars t s → t = s
end
def sdR (a b : Nat) : Prop := loL a < loL b ∨ (loL a = loL b ∧ a ≤ b)
structure HF (ws : List Nat) (bars : List (List Nat)) (F : Nat → List Nat) : Prop where
  mem : ∀ s, Sd ws s → ∀ t, t ∈ F s ↔ Rch ws bars s t
  len : ∀ s, (F s).length ≤ 24
  nd : ∀ s, (F s).Nodup
  srt : ∀ s, (F s).Pairwise sdR
def stepR (acc : List (List Nat)) (w : Nat) : List (List Nat) := (acc.map fun b => [b ++ [w - 32], b ++ [w]]).flatten
def allR (ws : List Nat) : List (List Nat) := ws.foldl stepR [[]]
theorem snoc_ind {α : Type} {P : List α → Prop} (h0 : P []) (h1 : ∀ xs x, P xs → P (xs ++ [x])) (l : List α) : P l := by
  have : ∀ l : List α, P l.reverse := fun l => by
    induction l with
    | nil => exact h0
    | cons x l ih => rw [List.reverse_cons]; exact h1 _ _ ih
  have h := this l.reverse
  rwa [List.reverse_reverse] at h
theorem allR_snoc (ws : List Nat) (w : Nat) : allR (ws ++ [w]) = stepR (allR ws) w := by simp [allR, List.foldl_append]
theorem mem_stepR {acc : List (List Nat)} {w : Nat} {r : List Nat} : r ∈ stepR acc w ↔ ∃ b ∈ acc, r = b ++ [w - 32] ∨ r = b ++ [w] := by
  unfold stepR
  rw [List.mem_flatten]
  constructor
  · rintro ⟨l, hl, hr⟩
    obtain ⟨b, hb, rfl⟩ := List.mem_map.mp hl
    exact ⟨b, hb, by simpa using hr⟩
  · rintro ⟨b, hb, h⟩
    exact ⟨_, List.mem_map_of_mem hb, by simpa using h⟩
theorem snoc_inj {b c : List Nat} {x y : Nat} (h : b ++ [x] = c ++ [y]) : b = c ∧ x = y := by
  have h1 := List.append_inj' h rfl
  exact ⟨h1.1, by simpa using h1.2⟩
theorem mem_allR : ∀ {ws : List Nat}, (∀ c ∈ ws, 97 ≤ c ∧ c ≤ 122) → ∀ r, r ∈ allR ws ↔ r.map loL = ws := fun {ws} => by
  refine snoc_ind (P := fun ws => (∀ c ∈ ws, 97 ≤ c ∧ c ≤ 122) → ∀ r, r ∈ allR ws ↔ r.map loL = ws) ?_ ?_ ws
  · intro _ r
    simp [allR]
  · intro ws w ih hc r
    have ih := ih (fun c h => hc c (List.mem_append_left _ h))
    have hw := hc w (by simp)
    have e1 : loL w = w := by unfold loL; rw [if_neg (by omega)]
    have e2 : loL (w - 32) = w := by unfold loL; rw [if_pos (by omega)]; omega
    rw [allR_snoc, mem_stepR]
    constructor
    · rintro ⟨b, hb, rfl | rfl⟩
      · rw [List.map_append, (ih b).mp hb]; simp [e2]
      · rw [List.map_append, (ih b).mp hb]; simp [e1]
    · intro h
      have hr : r ≠ [] := fun z => by rw [z] at h; simp at h
      have e := List.dropLast_concat_getLast hr
      rw [← e, List.map_append] at h
      obtain ⟨h1, h2⟩ := snoc_inj (x := loL (r.getLast hr)) (y := w) (by rw [List.map_singleton] at h; exact h)
      refine ⟨r.dropLast, (ih _).mpr h1, ?_⟩
      have : r.getLast hr = w - 32 ∨ r.getLast hr = w := by
        unfold loL at h2
        split at h2 <;> omega
      rcases this with z | z
      · left; rw [← z]; exact e.symm
      · right; rw [← z]; exact e.symm
def pw (ok : List Nat → Nat → Bool) : List Nat → List Nat → Bool
  | _, [] => true
  | pre, x :: r => ok pre x && pw ok (pre ++ [x]) r
section
variable {ws : List Nat} {bars : List (List Nat)} {r : List Nat} {F : Nat → List Nat}
def lawR (ws : List Nat) (bars : List (List Nat)) : List (List Nat) := (allR ws).filter fun r => !(bars.any fun b => b.all fun c => decide (c ∈ r))
theorem lawR_test : (!(bars.any fun b => b.all fun c => decide (c ∈ r))) = true ↔ Av bars r := by
  simp only [Bool.not_eq_true', List.any_eq_false, List.all_eq_true, decide_eq_true_eq, Bool.not_eq_true, List.all_eq_false, Av]
  constructor
  · intro h b hb
    have := h b hb
    exact Classical.byContradiction fun z => this fun c hc => Classical.byContradiction fun q => z ⟨c, hc, q⟩
  · intro h b hb z
    obtain ⟨c, hc, q⟩ := h b hb
    exact q (z c hc)
theorem lawR_mem (hw : Wls ws) : r ∈ lawR ws bars ↔ Rm ws r ∧ Av bars r := by
  unfold lawR
  rw [List.mem_filter, lawR_test, mem_allR hw.2.1]
  exact Iff.rfl
end
end Hal
namespace NC
open PySem PySem.Spec L2 SL Hal
local macro_rules
  | `(tactic| infer_instance) => `(tactic| first
    | ((with_reducible first
        | refine wf_seq ?_ | refine wf_asg ?_ | refine wf_ret ?_ | refine wf_retN ?_ | refine wf_expr ?_ | refine wf_nxM ?_ | refine wf_ctM ?_ | refine wf_bkM ?_ | refine wf_asgT ?_ | refine wf_raise ?_
        | refine wp_op2 ?_ | refine wp_op1 ?_ | refine wp_callG ?_ | refine wp_cons ?_ | refine wp_nil ?_ | refine wp_c ?_ | refine wp_cmpB ?_ | refine wp_trM ?_ | refine wp_notB ?_ | refine wp_andB ?_ | refine wp_orB ?_ | refine wp_andM ?_ | refine wp_orM ?_ | refine wp_notM ?_ | refine wp_ch ?_ | refine wp_sl ?_ | refine wp_soO ?_ | refine wp_noO ?_ | refine wp_fmt ?_ | refine wp_callKG ?_ | refine wp_yes ?_ | refine wp_mkx ?_ | refine wp_bM ?_ | refine wp_freeze ?_ | refine wf_par ?_ | refine wf_asgU ?_
        | refine gw_addI ?_ | refine gw_subI ?_ | refine gw_ltI ?_ | refine gw_leI ?_ | refine gw_gtI ?_ | refine gw_geI ?_ | refine gw_eqI ?_ | refine gw_neI ?_ | refine gw_eqS ?_ | refine gw_neS ?_ | refine gw_inC ?_ | refine gw_ninC ?_ | refine gw_ltS ?_ | refine gw_inL ?_ | refine gw_ninL ?_ | refine gw_sorted ?_ | refine gw_keys ?_ | refine gw_eqB ?_ | refine gw_neB ?_
        | refine gb_ltI ?_ | refine gb_leI ?_ | refine gb_gtI ?_ | refine gb_geI ?_ | refine gb_eqI ?_ | refine gb_neI ?_ | refine gb_eqS ?_ | refine gb_neS ?_ | refine gb_inC ?_ | refine gb_ninC ?_ | refine gb_inL ?_ | refine gb_ninL ?_ | refine gb_bl ?_ | refine gt_bl ?_ | refine gt_int ?_ | refine gt_lst ?_ | refine gt_tup ?_
        | refine gw_asI ?_ | refine gw_slT ?_ | refine gw_slL ?_ | refine gw_lenL ?_ | refine gw_lenT ?_ | refine gw_tuple ?_ | refine gw_tupleT ?_ | refine gw_tupleEnd ?_ | refine gw_lenEnd ?_ | refine gw_all ?_ | refine gw_any ?_ | refine gw_sum ?_ | refine gw_intI ?_ | refine gw_intB ?_ | refine gw_ix0L ?_ | refine gw_ix0T ?_ | refine gw_ix1L ?_ | refine gw_ix1T ?_ | refine gw_ix2L ?_ | refine gw_ix2T ?_))
    | ((with_reducible apply wp_v); (· rfl))
    | (with_reducible refine wp_appA ?_)
    | (with_reducible refine wp_mtS ?_)
    | (with_reducible first | refine gw_addS ?_ | refine gw_addL ?_ | refine gw_addT ?_ | refine gw_mulR ?_ | refine gw_mulL ?_ | refine gw_modI ?_ | refine gw_fdivI ?_ | refine gw_tup ?_ | refine gw_lst ?_ | refine gw_lenS ?_ | refine gw_slTo ?_ | refine gw_slFrom ?_ | refine gw_slFT ?_ | refine gw_slS ?_ | refine gw_pow ?_ | refine gw_swap ?_ | refine gw_isup ?_ | refine gw_upper1 ?_ | refine gw_lower1 ?_ | refine gw_upper ?_ | refine gw_lower ?_ | refine gw_str ?_ | refine gw_mulS ?_)
    | (refine ⟨rfl, ?_⟩))
  | `(tactic| sizeOf_list_dec) => `(tactic| (refine wp_def ?_; simp only [startD, List.map_cons, List.map_nil, List.length_cons, List.length_nil, Nat.reduceAdd, Nat.reduceSub, List.replicate_succ, List.replicate_zero, List.cons_append, List.nil_append, Nat.zero_add]))
section
variable {A : Ad} {U S : Store} {Q : SL.D → Store → Prop} {X : Ex → Store → Prop} {ws : List Nat} {c : Nat} {bars : List (List Nat)}
abbrev dS (c : Nat) : SL.D := .str [c]
theorem wls_asc (hw : Wls ws) : ∀ c ∈ ws, c < 128 := fun c h => by have := hw.2.1 c h; omega
theorem sd_asc (hw : Wls ws) (h : Sd ws c) : c < 128 := by
  rcases sd_cases hw h with ⟨a, b, _⟩ | ⟨a, b, _⟩ <;> omega
theorem other_wd (hc : c < 128) (k : Q (.str [swL c]) S) : wp (φother A [.str [c]] S) Q X := by
  sizeOf_list_dec
  unfold m_other
  repeat infer_instance
  exact wp_finS rfl k
theorem asc1 (hc : c < 128) : asc [c] = true := by simp [asc, hc]
theorem is_side_wd (hc : c < 128) (k : Q (.bl (decide (loL c ∈ ws))) S) : wp (φis_side A [.str ws, .str [c]] S) Q X := by
  have ha := asc1 hc
  sizeOf_list_dec
  unfold m_is_side
  repeat infer_instance
  refine ⟨fun _ => ?_, fun h => (by simp at h)⟩
  repeat infer_instance
  exact wp_finS rfl k
theorem small_mem0 : ∀ c, c < 128 → 97 ≤ c ∧ c ≤ 122 → c ∈ s_SMALL := by decide +kernel
theorem small_mem (c : Nat) (h1 : 97 ≤ c) (h2 : c ≤ 122) : c ∈ s_SMALL := small_mem0 c (by omega) ⟨h1, h2⟩
theorem pairs_zip (h : ws.Pairwise (· < ·)) : ((ws.zip (ws.drop 1)).all fun p => decide ([p.1] < [p.2])) = true := by
  rw [List.all_eq_true]
  intro p hp
  obtain ⟨i, hi, e⟩ := List.getElem_of_mem hp
  have hl : i < ws.length ∧ i < (ws.drop 1).length := by rw [List.length_zip, Nat.lt_min] at hi; exact hi
  have hl2 : 1 + i < ws.length := by have := hl.2; rw [List.length_drop] at this; omega
  rw [List.getElem_zip] at e
  have h3 := List.pairwise_iff_getElem.mp h i (1 + i) hl.1 hl2 (by omega)
  rw [← e]
  simp only [List.getElem_drop, decide_eq_true_eq]
  exact List.Lex.rel h3
theorem zipT_map : ∀ a b : List Nat, zipT (signs a) (signs b) = (a.zip b).map fun p => SL.D.tup [.str [p.1], .str [p.2]]
  | [], _ => by simp [signs, zipT]
  | _ :: _, [] => by simp [signs, zipT]
  | x :: a, y :: b => by
    have := zipT_map a b
    simp only [signs, List.map_cons, zipT, List.zip_cons_cons] at this ⊢
    rw [this]
theorem all_id {α : Type} (f : α → Bool) : ∀ l : List α, (l.map f).all id = l.all f
  | [] => rfl
  | x :: l => by simp [all_id f l]
theorem any_id {α : Type} (f : α → Bool) : ∀ l : List α, (l.map f).any id = l.any f
  | [] => rfl
  | x :: l => by simp [any_id f l]
theorem are_walls_wd (hw : Wls ws) (k : Q (.bl true) S) : wp (φare_walls A [.str ws] S) Q X := by
  have hl := hw.2.2
  sizeOf_list_dec
  unfold m_are_walls
  repeat infer_instance
  refine wf_if ?_
  repeat infer_instance
  refine ⟨fun _ => ?_, fun h => ?_⟩
  · repeat infer_instance
    refine ⟨fun h => ?_, fun _ => ?_⟩
    · simp at h; omega
    repeat infer_instance
    refine wp_compE ws (fun c => .str [c]) (fun c => decide (c ∈ s_SMALL)) SL.D.bl ?_
    refine wp_srcV (wp_v rfl ⟨rfl, fun _ => rfl, by omega, fun x hx acc => ?_, ?_⟩)
    · refine gw_bind ?_
      repeat infer_instance
      rfl
    · have e : ((ws.map fun c => decide (c ∈ s_SMALL)).all id) = true := by
        rw [all_id, List.all_eq_true]
        intro c hc
        have := hw.2.1 c hc
        exact decide_eq_true (small_mem c this.1 this.2)
      repeat infer_instance
      rw [e]
      refine ⟨fun h => (by cases h), fun _ => ?_⟩
      repeat infer_instance
      refine wp_compE (ws.zip (ws.drop 1)) (fun p => .tup [.str [p.1], .str [p.2]]) (fun p => decide ([p.1] < [p.2])) SL.D.bl ?_
      refine wp_srcZ ?_
      repeat infer_instance
      have ec : cutL ws (some 1) none = ws.drop 1 := cut_from _ 1
      rw [ec]
      refine ⟨_, _, rfl, rfl, fun t => ?_, by simp; omega, fun x hx acc => ?_, ?_⟩
      · show (if (signs ws).length = (signs ws).length ∧ (signs (ws.drop 1)).length = (signs (ws.drop 1)).length then some (zipT (signs ws) (signs (ws.drop 1))) else none) = _
        rw [if_pos ⟨rfl, rfl⟩, zipT_map]
      · refine gw_bind ?_
        repeat infer_instance
        rfl
      · repeat infer_instance
        rw [all_id, pairs_zip hw.1]
        exact wp_finS rfl k
  · simp at h; omega
theorem look_walls_wd (hw : Wls ws) (k : Q .non S) : wp (φlook_walls A [.str ws] S) Q X := by
  sizeOf_list_dec
  unfold m_look_walls
  refine wf_if ?_
  repeat infer_instance
  refine are_walls_wd hw ?_
  repeat infer_instance
  refine ⟨fun h => (by cases h), fun _ => ?_⟩
  repeat infer_instance
  exact wp_finS rfl k
theorem enmT_get : ∀ (xs : List (List Nat)) (k j : Nat) (d : SL.D), (enmT k (xs.map SL.D.str))[j]? = some d → ∃ b, xs[j]? = some b ∧ d = .tup [.int ((k + j : Nat) : Int), .str b]
  | [], _, _, _, h => by simp [enmT] at h
  | x :: xs, k, 0, d, h => by
    simp [enmT] at h
    exact ⟨x, rfl, h.symm⟩
  | x :: xs, k, j + 1, d, h => by
    have h' : (enmT (k + 1) (xs.map SL.D.str))[j]? = some d := by simpa [enmT] using h
    obtain ⟨b, e, rfl⟩ := enmT_get xs (k + 1) j d h'
    exact ⟨b, by simpa using e, by rw [show k + 1 + j = k + (j + 1) by omega]⟩
end
section
variable {A : Ad} {U S : Store} {Q : SL.D → Store → Prop} {X : Ex → Store → Prop} {ws : List Nat} {c : Nat} {bars : List (List Nat)}
def sidX (ws : List Nat) : List (List Nat) := flat2 ws (fun w => [w, swL w]) (fun _ y => some [y])
def sidN (ws : List Nat) : List Nat := (sortT (sidX ws)).map fun l => l.headD 0
theorem mem_sidX {l : List Nat} : l ∈ sidX ws ↔ ∃ w ∈ ws, l = [w] ∨ l = [swL w] := by
  unfold sidX flat2
  rw [List.mem_flatten]
  constructor
  · rintro ⟨r, hr, hl⟩
    obtain ⟨w, hw, rfl⟩ := List.mem_map.mp hr
    exact ⟨w, hw, by simpa using hl⟩
  · rintro ⟨w, hw, h⟩
    exact ⟨_, List.mem_map_of_mem hw, by simpa using h⟩
theorem sortT_perm (xs : List (List Nat)) : (sortT xs).Perm xs := List.mergeSort_perm xs leL
theorem sid_map (ws : List Nat) : sortT (sidX ws) = (sidN ws).map fun c => [c] := by
  unfold sidN
  rw [List.map_map]
  refine (List.map_id _).symm.trans (List.map_congr_left fun l hl => ?_)
  have := (sortT_perm _).mem_iff.mp hl
  obtain ⟨w, _, rfl | rfl⟩ := mem_sidX.mp this <;> rfl
theorem mem_sidN (hw : Wls ws) : c ∈ sidN ws ↔ Sd ws c := by
  have h1 : c ∈ sidN ws ↔ [c] ∈ sortT (sidX ws) := by
    rw [sid_map]
    simp
  rw [h1, (sortT_perm _).mem_iff, mem_sidX]
  constructor
  · rintro ⟨w, hm, h | h⟩
    · simp at h; subst h; exact (sd_small hw hm).1
    · simp at h; subst h; exact sd_sw hw (sd_small hw hm).1
  · intro h
    rcases sd_cases hw h with ⟨a, b, e, d⟩ | ⟨a, b, e, d⟩
    · exact ⟨c, by have := h; unfold Sd at this; rwa [e] at this, .inl rfl⟩
    · refine ⟨loL c, h, .inr ?_⟩
      have e2 := (sd_small hw (show loL c ∈ ws from h)).2.2.1
      rw [e2, e]
      congr 1
theorem sidN_len (ws : List Nat) : (sidN ws).length = 2 * ws.length := by
  unfold sidN
  rw [List.length_map, (sortT_perm _).length_eq]
  unfold sidX flat2
  induction ws with
  | nil => rfl
  | cons w ws ih =>
    rw [List.map_cons, List.flatten_cons, List.length_append, ih]
    simp
    omega
theorem sides_of_wd (hw : Wls ws) (k : Q (.lst ((sidN ws).map dS)) S) : wp (φsides_of A [.str ws] S) Q X := by
  have hl := hw.2.2
  sizeOf_list_dec
  unfold m_sides_of
  repeat infer_instance
  refine wp_comp2 ws dS (fun w => [w, swL w]) dS (fun _ y => some [y]) SL.D.str 2 (fun _ => rfl) ?_
  refine wp_srcV (wp_v rfl ⟨rfl, fun _ => rfl, fun _ _ => by simp, by omega, fun w hwm acc => ?_, ?_⟩)
  · refine gw_bind ?_
    have ha := wls_asc hw w hwm
    refine wp_srcV ?_
    repeat infer_instance
    refine other_wd ha ?_
    repeat infer_instance
    refine ⟨fun _ => rfl, fun y hy acc => ?_⟩
    refine gw_bind ?_
    repeat infer_instance
    exact ⟨fun _ => (by (repeat infer_instance); exact ⟨_, rfl, rfl⟩), fun h => (by cases h)⟩
  · have e := sid_map ws
    unfold sidX at e
    repeat infer_instance
    rw [e, List.map_map]
    exact wp_fin (okL_iff.mpr fun d hd => by
      obtain ⟨z, _, rfl⟩ := List.mem_map.mp hd
      rfl) rfl k
end
section
variable {A : Ad} {U S : Store} {Q : SL.D → Store → Prop} {X : Ex → Store → Prop} {ws : List Nat} {c : Nat} {bars : List (List Nat)}
theorem sidN_nodup (hw : Wls ws) : (sidN ws).Nodup := by
  have h1 : (sidX ws).Nodup := by
    have h := hw.1
    have hb := hw.2.1
    clear hw
    unfold sidX flat2
    induction ws with
    | nil => exact List.nodup_nil
    | cons w ws ih =>
      rw [List.map_cons, List.flatten_cons]
      have hw := hb w (by simp)
      have hp := List.pairwise_cons.mp h
      have e : swL w = w - 32 := by unfold swL; rw [if_neg (by omega), if_pos hw]
      refine List.nodup_append.mpr ⟨?_, ih hp.2 (fun c hc => hb c (List.mem_cons_of_mem _ hc)), ?_⟩
      · show [[w], [swL w]].Nodup
        rw [e]
        simp
        omega
      · intro a ha b hb2 hab
        subst hab
        have ha' : a = [w] ∨ a = [swL w] := by simpa using ha
        obtain ⟨w2, hm, h2⟩ := mem_sidX.mp (show a ∈ sidX ws from hb2)
        have hw2 := hb w2 (List.mem_cons_of_mem _ hm)
        have hlt := hp.1 w2 hm
        have e2 : swL w2 = w2 - 32 := by unfold swL; rw [if_neg (by omega), if_pos hw2]
        rw [e] at ha'
        rw [e2] at h2
        rcases ha' with rfl | rfl <;> rcases h2 with h2 | h2 <;> simp at h2 <;> omega
  have h2 : (sortT (sidX ws)).Nodup := (sortT_perm _).nodup_iff.mpr h1
  rw [sid_map] at h2
  exact (List.pairwise_map.mp h2).imp fun h e => h (by rw [e])
def strt (bs : List (List Nat)) (s : Nat) : List Nat := (bs.map fun b => (if b.headD 0 = s then [swL (b.getD 1 0)] else []) ++ (if b.getD 1 0 = s then [swL (b.headD 0)] else [])).flatten
theorem strt_snoc (bs : List (List Nat)) (x y s : Nat) : strt (bs ++ [[x, y]]) s = strt bs s ++ (if x = s then [swL y] else []) ++ (if y = s then [swL x] else []) := by
  simp [strt]
theorem mem_strt {bs : List (List Nat)} {s t : Nat} : t ∈ strt bs s ↔ ∃ b ∈ bs, (b.headD 0 = s ∧ t = swL (b.getD 1 0)) ∨ (b.getD 1 0 = s ∧ t = swL (b.headD 0)) := by
  unfold strt
  rw [List.mem_flatten]
  constructor
  · rintro ⟨l, hl, ht⟩
    obtain ⟨b, hb, rfl⟩ := List.mem_map.mp hl
    refine ⟨b, hb, ?_⟩
    rcases List.mem_append.mp ht with h | h
    · split at h
      · rename_i e; exact .inl ⟨e, by simpa using h⟩
      · simp at h
    · split at h
      · rename_i e; exact .inr ⟨e, by simpa using h⟩
      · simp at h
  · rintro ⟨b, hb, h⟩
    refine ⟨_, List.mem_map_of_mem hb, ?_⟩
    rcases h with ⟨e, rfl⟩ | ⟨e, rfl⟩
    · rw [if_pos e]; simp
    · rw [if_pos e]; simp
theorem strt_eg (hw : Wls ws) (hb : Brs ws bars) {s t : Nat} (ht : Sd ws t) : t ∈ strt (sortT bars) s ↔ Eg bars s t := by
  rw [mem_strt]
  constructor
  · rintro ⟨b, hm, h⟩
    have hm := (sortT_perm _).mem_iff.mp hm
    obtain ⟨x, y, rfl, hx, hy, _⟩ := hb.1 b hm
    rcases h with ⟨rfl, rfl⟩ | ⟨rfl, rfl⟩
    · exact .inl (by show [x, swL (swL y)] ∈ bars; rw [sw_sw hw hy]; exact hm)
    · exact .inr (by show [swL (swL x), y] ∈ bars; rw [sw_sw hw hx]; exact hm)
  · rintro (h | h)
    · exact ⟨_, (sortT_perm _).mem_iff.mpr h, .inl ⟨rfl, (sw_sw hw ht).symm⟩⟩
    · exact ⟨_, (sortT_perm _).mem_iff.mpr h, .inr ⟨rfl, (sw_sw hw ht).symm⟩⟩
theorem strt_sd (hw : Wls ws) (hb : Brs ws bars) {s t : Nat} (h : t ∈ strt (sortT bars) s) : Sd ws t := by
  obtain ⟨b, hm, h⟩ := mem_strt.mp h
  obtain ⟨x, y, rfl, hx, hy, _⟩ := hb.1 b ((sortT_perm _).mem_iff.mp hm)
  rcases h with ⟨_, rfl⟩ | ⟨_, rfl⟩
  · exact sd_sw hw hy
  · exact sd_sw hw hx
theorem allO_of {f : SL.D → Option SL.D} : ∀ {ds es : List SL.D}, ds.length = es.length → (∀ (i : Nat) (d e : SL.D), ds[i]? = some d → es[i]? = some e → f d = some e) → allO f ds = some es
  | [], [], _, _ => rfl
  | [], _ :: _, h, _ => by cases h
  | _ :: _, [], h, _ => by cases h
  | d :: ds, e :: es, h, k => by
    have h1 := k 0 d e rfl rfl
    have h2 := allO_of (f := f) (ds := ds) (es := es) (by simpa using h) fun i d e a b => k (i + 1) d e (by simpa using a) (by simpa using b)
    simp only [allO, h1, h2]
theorem lookK_idx : ∀ {l : List Nat} {us : List SL.D} {i : Nat} {x : Nat}, l.Nodup → l[i]? = some x → lookK (l.map kS) us (kS x) = us[i]?
  | [], us, i, x, _, h => by simp at h
  | z :: l, [], i, x, _, _ => by simp [lookK]
  | z :: l, u :: us, 0, x, _, h => by simp at h; subst h; simp [lookK]
  | z :: l, u :: us, i + 1, x, hn, h => by
    have hx : l[i]? = some x := by simpa using h
    have hne : z ≠ x := fun e => (List.nodup_cons.mp hn).1 (by rw [e]; exact List.mem_of_getElem? hx)
    simp only [List.map_cons, lookK]
    rw [if_neg (fun e => hne (kS_inj e))]
    rw [lookK_idx (List.nodup_cons.mp hn).2 hx]
    simp
theorem map_upd {β : Type} {f : Nat → β} {v : β} {x : Nat} : ∀ {l : List Nat} {i : Nat}, l.Nodup → l[i]? = some x → l.map (fun s => if x = s then v else f s) = (l.map f).set i v
  | [], i, _, h => by simp at h
  | z :: l, 0, hn, h => by
    simp at h
    subst h
    rw [List.map_cons, if_pos rfl, List.map_cons, List.set_cons_zero]
    congr 1
    refine List.map_congr_left fun s hs => if_neg fun e => ?_
    rw [e] at hn
    exact (List.nodup_cons.mp hn).1 hs
  | z :: l, i + 1, hn, h => by
    have hx : l[i]? = some x := by simpa using h
    have hne : x ≠ z := fun e => (List.nodup_cons.mp hn).1 (by rw [← e]; exact List.mem_of_getElem? hx)
    rw [List.map_cons, if_neg hne, List.map_cons, List.set_cons_succ, map_upd (List.nodup_cons.mp hn).2 hx]
def stS (S : Store) (sd : List Nat) (f : Nat → List Nat) : Store := S ++ (.dct (sd.map kS) ((List.range sd.length).map fun i => .loc (S.length + 1 + i)) :: sd.map fun s => .lst ((f s).map dS))
theorem stS_dct {sd : List Nat} {f : Nat → List Nat} : (stS S sd f)[S.length]? = some (.dct (sd.map kS) ((List.range sd.length).map fun i => .loc (S.length + 1 + i))) := by simp [stS]
theorem stS_at {sd : List Nat} {f : Nat → List Nat} {i x : Nat} (h : sd[i]? = some x) : (stS S sd f)[S.length + 1 + i]? = some (.lst ((f x).map dS)) := by
  unfold stS
  rw [List.getElem?_append_right (by omega), show S.length + 1 + i - S.length = i + 1 by omega, List.getElem?_cons_succ, List.getElem?_map, h]
  rfl
theorem stS_set {sd : List Nat} {f : Nat → List Nat} {i x : Nat} {l : List Nat} (hn : sd.Nodup) (h : sd[i]? = some x) : (stS S sd f).set (S.length + 1 + i) (.lst (l.map dS)) = stS S sd fun s => if x = s then l else f s := by
  unfold stS
  rw [List.set_append_right _ _ (by omega), show S.length + 1 + i - S.length = i + 1 by omega, List.set_cons_succ, ← map_upd hn h]
  congr 2
  refine List.map_congr_left fun s _ => ?_
  by_cases h : x = s
  · simp only [if_pos h]
  · simp only [if_neg h]
theorem mem_idx {l : List Nat} {x : Nat} (h : x ∈ l) : ∃ i : Nat, l[i]? = some x := by
  obtain ⟨i, hi, e⟩ := List.getElem_of_mem h
  exact ⟨i, by rw [List.getElem?_eq_getElem hi, e]⟩
theorem app_step {sd : List Nat} {f : Nat → List Nat} {x z : Nat} {δ : DEnv} {mo ma : ME} {Q : SL.D → Store → Prop} (hn : sd.Nodup) (hx : x ∈ sd) (hf : (f x).length < 1000000)
    (ho : ∀ {Q : SL.D → Store → Prop}, Q (.loc S.length) (stS S sd f) → wp (mo δ (stS S sd f)) Q X) (hi : ∀ {Q : SL.D → Store → Prop}, Q (.str [x]) (stS S sd f) → wp (ma δ (stS S sd f)) Q X) {ms : MA} (hm : ∀ {Q : List SL.D → Store → Prop}, Q [dS z] (stS S sd f) → wp (ms δ (stS S sd f)) Q X)
    (k : Q .non (stS S sd fun s => f s ++ if x = s then [z] else [])) : wp (lmM appendG (op2M ixG mo ma) ms δ (stS S sd f)) Q X := by
  obtain ⟨i, hxi⟩ := mem_idx hx
  have hi' := (List.getElem?_eq_some_iff.mp hxi).1
  have hloc : locL (stS S sd f) (.loc (S.length + 1 + i)) = some (S.length + 1 + i, (f x).map dS) := by simp only [locL, stS_at hxi]
  refine wp_lm (wp_op2 (ho (hi ?_)))
  refine gw_ixDl (d := .loc (S.length + 1 + i)) stS_dct ?_ ⟨by rw [hloc]; rfl, hm ?_⟩
  · rw [lookK_idx hn hxi, List.getElem?_map, List.getElem?_range hi']
    rfl
  · refine ⟨_, _, .non, (f x).map dS ++ [dS z], hloc, if_pos (by rw [List.length_map]; exact hf), ?_⟩
    have e : (f x).map dS ++ [dS z] = (f x ++ [z]).map dS := by simp
    rw [e, stS_set hn hxi]
    have e2 : (fun s => if x = s then f x ++ [z] else f s) = fun s => f s ++ if x = s then [z] else [] := by
      funext s
      split
      · rename_i h; subst h; rfl
      · simp
    rw [e2]
    exact k
theorem strt_len (bs : List (List Nat)) (s : Nat) : (strt bs s).length ≤ 2 * bs.length := by
  unfold strt
  induction bs with
  | nil => simp
  | cons b bs ih =>
    rw [List.map_cons, List.flatten_cons, List.length_append, List.length_cons, List.length_append]
    have h1 : (if b.headD 0 = s then [swL (b.getD 1 0)] else []).length ≤ 1 := by split <;> simp
    have h2 : (if b.getD 1 0 = s then [swL (b.headD 0)] else []).length ≤ 1 := by split <;> simp
    omega
end
section
variable {A : Ad} {U S : Store} {Q : SL.D → Store → Prop} {X : Ex → Store → Prop} {ws : List Nat} {c : Nat} {bars : List (List Nat)}
inductive Rg (g : Nat → List Nat) (s : Nat) : Nat → Prop where
  | self : Rg g s s
  | step {t u : Nat} (h : Rg g s t) (e : u ∈ g t) : Rg g s u
theorem nodup_le : ∀ {K L : List Nat}, K.Nodup → (∀ x ∈ K, x ∈ L) → K.length ≤ L.length
  | [], L, _, _ => Nat.zero_le _
  | x :: K, L, hn, h => by
    have hx := h x (by simp)
    have hn' := List.nodup_cons.mp hn
    have := nodup_le (K := K) (L := L.erase x) hn'.2 fun y hy => (List.mem_erase_of_ne (fun e => hn'.1 (by rw [← e]; exact hy))).mpr (h y (List.mem_cons_of_mem _ hy))
    rw [List.length_erase_of_mem hx] at this
    have hp : 0 < L.length := List.length_pos_of_mem hx
    rw [List.length_cons]
    omega
def chC (K : List Nat) (ch : Nat → List Nat) : Cell := .dct (K.map kS) (K.map fun c => .lst ((ch c).map dS))
def chS (S : Store) (K : List Nat) (ch : Nat → List Nat) (gb : Store) (W : List Nat) : Store := S ++ (chC K ch :: (gb ++ [.lst (W.map dS)]))
theorem chS_dct {K : List Nat} {ch : Nat → List Nat} {gb : Store} {W : List Nat} : (chS S K ch gb W)[S.length]? = some (chC K ch) := by simp [chS]
theorem chS_w {K : List Nat} {ch : Nat → List Nat} {gb : Store} {W : List Nat} : (chS S K ch gb W)[S.length + 1 + gb.length]? = some (.lst (W.map dS)) := by
  unfold chS
  rw [List.getElem?_append_right (by omega), show S.length + 1 + gb.length - S.length = gb.length + 1 by omega, List.getElem?_cons_succ, List.getElem?_append_right (Nat.le_refl _)]
  simp
theorem chS_len {K : List Nat} {ch : Nat → List Nat} {gb : Store} {W : List Nat} : (chS S K ch gb W).length = S.length + 1 + gb.length + 1 := by
  simp [chS]; omega
theorem chS_star {K : List Nat} {ch : Nat → List Nat} {gb : Store} {W W2 : List Nat} : chS S K ch gb W ++ [.lst (W2.map dS)] = chS S K ch (gb ++ [.lst (W.map dS)]) W2 := by
  simp [chS]
theorem chS_app {K : List Nat} {ch : Nat → List Nat} {gb : Store} {W : List Nat} {t : Nat} : (chS S K ch gb W).set (S.length + 1 + gb.length) (.lst (W.map dS ++ [dS t])) = chS S K ch gb (W ++ [t]) := by
  unfold chS
  rw [List.set_append_right _ _ (by omega), show S.length + 1 + gb.length - S.length = gb.length + 1 by omega, List.set_cons_succ, List.set_append_right _ _ (Nat.le_refl _)]
  simp
theorem chS_put {K : List Nat} {ch : Nat → List Nat} {gb : Store} {W : List Nat} {t : Nat} {l : List Nat} (ht : t ∉ K) : (chS S K ch gb W).set S.length (.dct (putD (K.map kS) (K.map fun c => SL.D.lst ((ch c).map dS)) (kS t) (SL.D.lst (l.map dS))).1 (putD (K.map kS) (K.map fun c => SL.D.lst ((ch c).map dS)) (kS t) (SL.D.lst (l.map dS))).2) = chS S (K ++ [t]) (fun c => if c = t then l else ch c) gb W := by
  have hm : memK (K.map kS) (kS t) = false := by rw [memK_map]; exact decide_eq_false ht
  unfold putD
  rw [if_neg (by rw [hm]; simp)]
  unfold chS chC
  rw [List.set_append_right _ _ (Nat.le_refl _), Nat.sub_self, List.set_cons_zero]
  congr 2
  have e1 : K.map kS ++ [kS t] = (K ++ [t]).map kS := by simp
  have e2 : (K.map fun c => SL.D.lst ((ch c).map dS)) ++ [.lst (l.map dS)] = (K ++ [t]).map fun c => SL.D.lst ((if c = t then l else ch c).map dS) := by
    rw [List.map_append, List.map_singleton, if_pos rfl]
    congr 1
    refine List.map_congr_left fun c hc => ?_
    rw [if_neg (fun e => ht (by rw [← e]; exact hc))]
  rw [e1, e2]
theorem gt_loc {S : Store} {n : Nat} {ds : List SL.D} {PB : Bool → Prop} (h : S[n]? = some (.lst ds)) (k : PB (!ds.isEmpty)) : GW (truthB S (.loc n)) PB := ⟨_, by
  show (match S[n]? with | some (.lst ds) => some (!ds.isEmpty) | some (.dct ks _) => some (!ks.isEmpty) | _ => none) = _
  rw [h], k⟩
structure ChI (sd : List Nat) (g : Nat → List Nat) (s : Nat) (K W : List Nat) (ch : Nat → List Nat) : Prop where
  nd : K.Nodup
  sub : ∀ k ∈ K, k ∈ sd
  wk : ∀ k ∈ W, k ∈ K
  hs : s ∈ K
  rch : ∀ k ∈ K, Rg g s k
  len : ∀ k ∈ K, (ch k).length ≤ K.length
end
section
variable {A : Ad} {U S : Store} {Q : SL.D → Store → Prop} {X : Ex → Store → Prop} {ws : List Nat} {c : Nat} {bars : List (List Nat)}
def TabIn (A : Ad) (S : Store) : Prop := TabAt S A.t_in_order "in_order.<locals>.<lambda>"
theorem TabIn.app {t : Store} (h : TabIn A S) : TabIn A (S ++ t) := TabAt.app h
end
section
variable {A : Ad} {U S S' : Store} {Q : SL.D → Store → Prop} {X : Ex → Store → Prop} {ws : List Nat} {c : Nat} {bars : List (List Nat)} {F : Nat → List Nat}
theorem sg_at {l : List Nat} {j : Nat} {d : SL.D} (h : (signs l)[j]? = some d) : ∃ c, l[j]? = some c ∧ d = .str [c] := by
  simp only [signs, List.getElem?_map, Option.map_eq_some_iff] at h
  obtain ⟨c, e, rfl⟩ := h
  exact ⟨c, e, rfl⟩
end
section
variable {A : Ad} {U S S' : Store} {Q : SL.D → Store → Prop} {X : Ex → Store → Prop} {ws : List Nat} {c : Nat} {bars : List (List Nat)} {F : Nat → List Nat}
abbrev lets : List Nat := [97, 98, 99, 100, 101, 102, 103, 104, 105, 106, 107, 108, 109, 110, 111, 112, 113, 114, 115, 116, 117, 118, 119, 120, 121, 122]
theorem letters_wd (k : Q (.str lets) S) : wp (φlaw_letters A [] S) Q X := by
  sizeOf_list_dec
  unfold m_law_letters
  repeat infer_instance
  exact wp_finS rfl k
theorem lets_up : lets.Pairwise (· < ·) := by decide
theorem lets_in : ∀ c ∈ lets, 97 ≤ c ∧ c ≤ 122 := by decide
theorem wf_forD {δ : DEnv} {mi : DEnv → Store → Res Src} {tg : Tg} {b : MS} {N B C : DEnv → Store → Prop} {R : SL.D → Store → Prop} {X : Ex → DEnv → Store → Prop} (J : List SL.D → Nat → DEnv → Store → Prop) (h : wp (mi δ S) (fun src S1 => ∃ ds, (∀ k δ S, J ds k δ S → items S src = some ds) ∧ J ds 0 δ S1 ∧
      (∀ (k : Nat) (d : SL.D), ds[k]? = some d → ∀ δ S, J ds k δ S → GW (bindT tg d δ) fun δ1 => wf (b δ1 S) (J ds (k + 1)) R X N (J ds (k + 1))) ∧ ∀ δ S, J ds ds.length δ S → N δ S) noX) : wf (SL.forM mi tg b δ S) N R X B C := by
  obtain ⟨src, S1, e, ds, h⟩ := wp_get h
  exact wf_for (J ds) (wp_ok e ⟨ds, h⟩)
theorem shuts_wd {most : Int} (hm : 1 ≤ most ∧ most ≤ 12) (h : Dw U S) (k : ∀ (ws : List Nat) S', Dw U S' → Wls ws → (ws.length : Int) ≤ most → Q (.str ws) S') : wp (φlaw_shuts A [.loc 0, .int most] S) Q X := by
  sizeOf_list_dec
  unfold m_law_shuts
  repeat infer_instance
  refine wd_draw h (by decide) (by decide) fun r1 S1 d1 h1 => ?_
  repeat infer_instance
  refine gw_ixLd (by show r1 < 3; omega) fun d hd => ?_
  obtain ⟨sk, rfl, hsk⟩ : ∃ sk : Int, d = .int sk ∧ (sk = 0 ∨ 0 < sk) ∧ sk < 2 ^ 64 := by
    simp only [List.mem_cons, List.not_mem_nil, or_false] at hd
    rcases hd with rfl | rfl | rfl
    · exact ⟨0, rfl, .inl rfl, by decide⟩
    · exact ⟨2, rfl, .inr (by decide), by decide⟩
    · exact ⟨26, rfl, .inr (by decide), by decide⟩
  repeat infer_instance
  refine wf_forD (fun ds j δ S' => ∃ l f y4, ds = signs l ∧ (∃ q : Nat, l = lets.drop q) ∧ δ = [some (.loc 0), some (.int most), some (.str f), some (.int sk), y4] ∧ f.Sublist (l.take j) ∧ (f.length : Int) ≤ most ∧ Dw U S') ?_
  refine wp_srcV ?_
  repeat infer_instance
  refine letters_wd ?_
  repeat infer_instance
  refine wd_draw d1 (by decide) (by decide) fun r2 S2 d2 h2 => ?_
  repeat infer_instance
  refine ⟨signs (lets.drop r2), fun _ _ _ _ => rfl, ⟨_, [], none, rfl, ⟨r2, rfl⟩, rfl, List.nil_sublist _, by simp; omega, d2⟩, ?_, ?_⟩
  · rintro j d hd δ S' ⟨l, f, y4, el, hq, rfl, hf, hfl, d'⟩
    rw [el] at hd
    obtain ⟨c, hc, rfl⟩ := sg_at hd
    have et : l.take (j + 1) = l.take j ++ [c] := by rw [List.take_succ, hc]; rfl
    have hf1 : f.length ≤ 1000000 := by omega
    have skip : ∀ {δ : DEnv} {S'' : Store} {y4 : Option SL.D}, δ = [some (.loc 0), some (.int most), some (.str f), some (.int sk), y4] → Dw U S'' → ∃ l f y4, signs (lets.drop r2) = signs l ∧ (∃ q : Nat, l = lets.drop q) ∧ δ = [some (.loc 0), some (.int most), some (.str f), some (.int sk), y4] ∧ f.Sublist (l.take (j + 1)) ∧ (f.length : Int) ≤ most ∧ Dw U S'' := fun e d => ⟨l, f, _, el, hq, e, by rw [et]; exact hf.trans (List.sublist_append_left _ _), hfl, d⟩
    have take : ∀ {δ : DEnv} {S'' : Store} {y4 : Option SL.D}, (f.length : Int) < most → δ = [some (.loc 0), some (.int most), some (.str (f ++ [c])), some (.int sk), y4] → Dw U S'' → ∃ l f y4, signs (lets.drop r2) = signs l ∧ (∃ q : Nat, l = lets.drop q) ∧ δ = [some (.loc 0), some (.int most), some (.str f), some (.int sk), y4] ∧ f.Sublist (l.take (j + 1)) ∧ (f.length : Int) ≤ most ∧ Dw U S'' := fun hlt e d => ⟨l, f ++ [c], _, el, hq, e, by rw [et]; exact hf.append (List.Sublist.refl _), by rw [List.length_append, List.length_singleton]; omega, d⟩
    refine gw_bind ?_
    refine wf_if ?_
    repeat infer_instance
    refine ⟨fun hlt => ?_, fun hlt => ⟨fun h => (by cases h), fun _ => ?_⟩⟩
    · have hlt : (f.length : Int) < most := by simpa using hlt
      repeat infer_instance
      refine ⟨fun h0 => ⟨fun _ => ?_, fun h => (by cases h)⟩, fun h0 => ?_⟩
      · repeat infer_instance
        exact take hlt rfl d'
      · have h0 : ¬ sk = 0 := by simpa using h0
        repeat infer_instance
        refine wd_draw d' (by omega) hsk.2 fun r3 S3 d3 h3 => ?_
        repeat infer_instance
        refine ⟨fun h => ?_, fun h => ?_⟩
        · repeat infer_instance
          exact take hlt rfl d3
        · repeat infer_instance
          exact skip rfl d3
    · repeat infer_instance
      exact skip rfl d'
  · rintro δ S' ⟨l, f, y4, el, ⟨q, rfl⟩, rfl, hf, hfl, d'⟩
    have hs : f.Sublist lets := (hf.trans (List.take_sublist _ _)).trans (List.drop_sublist _ _)
    repeat infer_instance
    refine wp_ifM ?_
    repeat infer_instance
    refine ⟨fun hne => ?_, fun he => ?_⟩
    · have hne : f ≠ [] := by simpa using hne
      repeat infer_instance
      refine wp_fin rfl (d'.len.trans h.len.symm) (k f S' d' ⟨lets_up.sublist hs, fun c hc => lets_in c (hs.mem hc), ?_, by omega⟩ hfl)
      cases f with
      | nil => exact absurd rfl hne
      | cons _ _ => simp
    · repeat infer_instance
      refine wp_fin rfl (d'.len.trans h.len.symm) (k [107] S' d' ⟨by simp, by simp, by simp, by simp⟩ (by simp; omega))
theorem law_other_wd (hw : Wls ws) (hc : Sd ws c) (k : Q (.str [swL c]) S) : wp (φlaw_other A [.str [c]] S) Q X := by
  have h8 := sd_asc hw hc
  sizeOf_list_dec
  unfold m_law_other
  repeat infer_instance
  refine wp_ifM ?_
  repeat infer_instance
  rcases sd_cases hw hc with ⟨a, b, e, d⟩ | ⟨a, b, e, d⟩
  · have e1 : (decide (65 ≤ c) && decide (c ≤ 90)) = false := by simp; omega
    rw [e1]
    refine ⟨fun h => (by cases h), fun _ => ?_⟩
    repeat infer_instance
    have e2 : upL c = swL c := by rw [d]; unfold upL; rw [if_pos ⟨a, b⟩]
    rw [e2]
    exact wp_finS rfl k
  · have e1 : (decide (65 ≤ c) && decide (c ≤ 90)) = true := by simp; omega
    rw [e1]
    refine ⟨fun _ => ?_, fun h => (by cases h)⟩
    repeat infer_instance
    rw [e, ← d]
    exact wp_finS rfl k
end
section
variable {A : Ad} {U S S' : Store} {Q : SL.D → Store → Prop} {X : Ex → Store → Prop} {ws : List Nat} {c : Nat} {bars : List (List Nat)} {F : Nat → List Nat}
def pr1 (a w : Nat) : List (List Nat) := [[a, w], [a, swL w]]
def pr2 (v w : Nat) : List (List Nat) := pr1 v w ++ pr1 (swL v) w
def prI (ws : List Nat) (i m : Nat) : List (List Nat) := ((List.range m).map fun q => pr2 (ws.getD i 0) (ws.getD (i + 1 + q) 0)).flatten
def prs (ws : List Nat) (k : Nat) : List (List Nat) := ((List.range k).map fun i => prI ws i (ws.length - (i + 1))).flatten
theorem prI_succ (i m : Nat) : prI ws i (m + 1) = prI ws i m ++ pr2 (ws.getD i 0) (ws.getD (i + 1 + m) 0) := by
  simp [prI, List.range_succ]
theorem prs_succ (k : Nat) : prs ws (k + 1) = prs ws k ++ prI ws k (ws.length - (k + 1)) := by
  simp [prs, List.range_succ]
theorem prI_len (i : Nat) : ∀ m, (prI ws i m).length = 4 * m
  | 0 => rfl
  | m + 1 => by rw [prI_succ, List.length_append, prI_len i m]; simp [pr2, pr1]; omega
theorem prs_len (h : ws.length ≤ 12) : ∀ k, (prs ws k).length ≤ 48 * k
  | 0 => Nat.le_refl _
  | k + 1 => by rw [prs_succ, List.length_append, prI_len]; have := prs_len h k; omega
theorem mem_pr2 {v w : Nat} {b : List Nat} : b ∈ pr2 v w ↔ ∃ x y, (x = v ∨ x = swL v) ∧ (y = w ∨ y = swL w) ∧ b = [x, y] := by
  simp only [pr2, pr1, List.mem_append, List.mem_cons, List.not_mem_nil, or_false]
  constructor
  · rintro ((h | h) | (h | h))
    · exact ⟨_, _, .inl rfl, .inl rfl, h⟩
    · exact ⟨_, _, .inl rfl, .inr rfl, h⟩
    · exact ⟨_, _, .inr rfl, .inl rfl, h⟩
    · exact ⟨_, _, .inr rfl, .inr rfl, h⟩
  · rintro ⟨x, y, rfl | rfl, rfl | rfl, rfl⟩
    · exact .inl (.inl rfl)
    · exact .inl (.inr rfl)
    · exact .inr (.inl rfl)
    · exact .inr (.inr rfl)
theorem mem_prs {k : Nat} {b : List Nat} : b ∈ prs ws k ↔ ∃ i q, i < k ∧ q < ws.length - (i + 1) ∧ b ∈ pr2 (ws.getD i 0) (ws.getD (i + 1 + q) 0) := by
  simp only [prs, prI, List.mem_flatten, List.mem_map, List.mem_range]
  constructor
  · rintro ⟨l, ⟨i, hi, rfl⟩, hb⟩
    rw [List.mem_flatten] at hb
    obtain ⟨l2, hl2, hb⟩ := hb
    obtain ⟨q, hq, rfl⟩ := List.mem_map.mp hl2
    exact ⟨i, q, hi, List.mem_range.mp hq, hb⟩
  · rintro ⟨i, q, hi, hq, hb⟩
    refine ⟨_, ⟨i, hi, rfl⟩, ?_⟩
    rw [List.mem_flatten]
    exact ⟨_, List.mem_map_of_mem (List.mem_range.mpr hq), hb⟩
theorem prs_br (hw : Wls ws) {b : List Nat} : b ∈ prs ws ws.length ↔ Br ws b := by
  have at_ : ∀ i, i < ws.length → ∃ w, ws[i]? = some w ∧ ws.getD i 0 = w ∧ w ∈ ws := fun i hi => ⟨ws[i], by simp [hi], by simp [hi], List.getElem_mem hi⟩
  rw [mem_prs]
  constructor
  · rintro ⟨i, q, hi, hq, hb⟩
    obtain ⟨v, ev, gv, mv⟩ := at_ i hi
    obtain ⟨w, ew, gw, mw⟩ := at_ (i + 1 + q) (by omega)
    rw [gv, gw] at hb
    obtain ⟨x, y, hx, hy, rfl⟩ := mem_pr2.mp hb
    obtain ⟨sv, lv, _⟩ := sd_small hw mv
    obtain ⟨sw, lw, _⟩ := sd_small hw mw
    have hlt : v < w := by
      have h1 := (List.getElem?_eq_some_iff.mp ev)
      have h2 := (List.getElem?_eq_some_iff.mp ew)
      have := List.pairwise_iff_getElem.mp hw.1 i (i + 1 + q) h1.1 h2.1 (by omega)
      rw [h1.2, h2.2] at this
      exact this
    have hx2 : Sd ws x ∧ loL x = v := by
      rcases hx with rfl | rfl
      · exact ⟨sv, lv⟩
      · exact ⟨sd_sw hw sv, by rw [lo_sw hw sv, lv]⟩
    have hy2 : Sd ws y ∧ loL y = w := by
      rcases hy with rfl | rfl
      · exact ⟨sw, lw⟩
      · exact ⟨sd_sw hw sw, by rw [lo_sw hw sw, lw]⟩
    exact ⟨x, y, rfl, hx2.1, hy2.1, by rw [hx2.2, hy2.2]; exact hlt⟩
  · rintro ⟨x, y, rfl, hx, hy, hlt⟩
    obtain ⟨i, hi⟩ := mem_idx (show loL x ∈ ws from hx)
    obtain ⟨j, hj⟩ := mem_idx (show loL y ∈ ws from hy)
    obtain ⟨hi1, hi2⟩ := List.getElem?_eq_some_iff.mp hi
    obtain ⟨hj1, hj2⟩ := List.getElem?_eq_some_iff.mp hj
    have hij : i < j := by
      rcases Nat.lt_trichotomy i j with h | h | h
      · exact h
      · subst h; rw [hi2] at hj2; omega
      · have := List.pairwise_iff_getElem.mp hw.1 j i hj1 hi1 h
        rw [hi2, hj2] at this
        omega
    refine ⟨i, j - (i + 1), hi1, by omega, ?_⟩
    rw [show i + 1 + (j - (i + 1)) = j by omega]
    have g1 : ws.getD i 0 = loL x := by simp [hi1, hi2]
    have g2 : ws.getD j 0 = loL y := by simp [hj1, hj2]
    rw [g1, g2, mem_pr2]
    have hs : ∀ z, Sd ws z → z = loL z ∨ z = swL (loL z) := fun z hz => by
      have hz2 : Sd ws (loL z) := (sd_small hw hz).1
      have : loL z = loL (loL z) := (sd_small hw hz).2.1.symm
      exact same_wall hw hz hz2 this
    exact ⟨x, y, hs x hx, hs y hy, rfl⟩
theorem rng_at {lo cc : Int} {n k : Nat} {d : SL.D} (h : ((List.range n).map fun (i : Nat) => SL.D.int (lo + (i : Int) * cc))[k]? = some d) : k < n ∧ d = .int (lo + (k : Int) * cc) := by
  rw [List.getElem?_map] at h
  by_cases hk : k < n
  · rw [List.getElem?_range hk] at h
    exact ⟨hk, by simpa using h.symm⟩
  · rw [List.getElem?_eq_none (by simpa using hk)] at h
    simp at h
theorem pairs_wd (hw : Wls ws) (k : Q (.lst ((prs ws ws.length).map SL.D.str)) S) : wp (φlaw_pairs A [.str ws] S) Q X := by
  have hwl := hw.2.2
  sizeOf_list_dec
  unfold m_law_pairs
  refine wf_seq (wf_asg ?_)
  refine wp_lstLM ?_
  repeat infer_instance
  refine ⟨by simp, ?_⟩
  refine wf_seq ?_
  refine wf_for (fun j δ S' => ∃ y2 y3 y4 y5, δ = [some (.str ws), some (.loc S.length), y2, y3, y4, y5] ∧ S' = S ++ [Cell.lst ((prs ws j).map SL.D.str)]) ?_
  refine wp_src1 ?_
  repeat infer_instance
  refine ⟨_, rfl, by omega, _, fun _ _ _ _ => rfl, ⟨_, _, _, _, rfl, rfl⟩, ?_, ?_⟩
  · rintro j d hd δ S' ⟨y2, y3, y4, y5, rfl, rfl⟩
    obtain ⟨hj, rfl⟩ := rng_at hd
    rw [Int.toNat_natCast] at hj
    have ej : (0 : Int) + (j : Int) * 1 = (j : Int) := by omega
    rw [ej]
    obtain ⟨v, ev⟩ : ∃ v, ws[j]? = some v := ⟨ws[j], by simp [hj]⟩
    have gv : ws.getD j 0 = v := by simp [ev]
    have mv := List.mem_of_getElem? ev
    obtain ⟨_, _, sv, uv, _⟩ := sd_small hw mv
    have v8 := wls_asc hw v mv
    refine gw_bind ?_
    refine wf_for (fun q δ S' => ∃ y3 y4 y5, δ = [some (.str ws), some (.loc S.length), some (.int (j : Int)), y3, y4, y5] ∧ S' = S ++ [Cell.lst ((prs ws j ++ prI ws j q).map SL.D.str)]) ?_
    refine wp_src2 ?_
    repeat infer_instance
    refine ⟨_, _, rfl, rfl, ⟨by omega, by omega⟩, _, fun _ _ _ _ => rfl, ⟨_, _, _, rfl, by simp [prI]⟩, ?_, ?_⟩
    · rintro q d hd2 δ S' ⟨y3, y4, y5, rfl, rfl⟩
      obtain ⟨hq, rfl⟩ := rng_at hd2
      have hq : q < ws.length - (j + 1) := by omega
      have eq : ((j : Int) + 1) + (q : Int) * 1 = ((j + 1 + q : Nat) : Int) := by omega
      rw [eq]
      have hjq : j + 1 + q < ws.length := by omega
      obtain ⟨w, ew⟩ : ∃ w, ws[j + 1 + q]? = some w := ⟨ws[j + 1 + q], by simp [hjq]⟩
      have gw : ws.getD (j + 1 + q) 0 = w := by simp [ew]
      have mw := List.mem_of_getElem? ew
      obtain ⟨_, _, sw, uw, _⟩ := sd_small hw mw
      have w8 := wls_asc hw w mw
      refine gw_bind ?_
      refine wf_for (fun r δ S' => ∃ y4 y5, δ = [some (.str ws), some (.loc S.length), some (.int (j : Int)), some (.int ((j + 1 + q : Nat) : Int)), y4, y5] ∧ S' = S ++ [Cell.lst ((prs ws j ++ prI ws j q ++ (([v, swL v].take r).map fun a => pr1 a w).flatten).map SL.D.str)]) ?_
      refine wp_srcV ?_
      repeat infer_instance
      refine gw_ixS (i := j) ev ?_
      repeat infer_instance
      refine gw_ixS (i := j) ev ?_
      repeat infer_instance
      have eup : upL v = swL v := by rw [uv, sv]
      rw [eup]
      refine ⟨[v, swL v].map dS, fun _ _ _ _ => rfl, ⟨_, _, rfl, by simp⟩, ?_, ?_⟩
      · rintro r d hd3 δ S' ⟨y4, y5, rfl, rfl⟩
        rw [List.getElem?_map] at hd3
        obtain ⟨a, ea, rfl⟩ := Option.map_eq_some_iff.mp hd3
        refine gw_bind ?_
        refine wf_expr ?_
        refine wp_lmEnd rfl ?_
        refine wp_cons ?_
        refine wp_compE [w, swL w] dS (fun y => [a, y]) SL.D.str ?_
        refine wp_srcV ?_
        repeat infer_instance
        refine gw_ixS (i := j + 1 + q) ew ?_
        repeat infer_instance
        refine gw_ixS (i := j + 1 + q) ew ?_
        repeat infer_instance
        have eup2 : upL w = swL w := by rw [uw, sw]
        rw [eup2]
        refine ⟨fun _ => rfl, by simp, fun y hy acc => ?_, ?_⟩
        · refine gw_bind ?_
          repeat infer_instance
          rfl
        · repeat infer_instance
          have hp1 := prs_len hwl.2 j
          have hp2 := prI_len (ws := ws) j q
          have hr : ((([v, swL v].take r).map fun a => pr1 a w).flatten).length ≤ 4 := by
            match r with
            | 0 => simp
            | 1 => simp [pr1]
            | r + 2 => simp [pr1]
          refine ⟨S, .non, _, rfl, rfl, if_pos ?_, ?_⟩
          · simp only [List.length_map, List.length_append, List.length_cons, List.length_nil]
            omega
          · refine ⟨_, _, rfl, ?_⟩
            have er : [v, swL v].take (r + 1) = [v, swL v].take r ++ [a] := by rw [List.take_succ, ea]; rfl
            rw [er]
            simp [pr1]
      · rintro δ S' ⟨y4, y5, rfl, rfl⟩
        refine ⟨_, _, _, rfl, ?_⟩
        rw [prI_succ, gv, gw]
        simp [pr2]
    · rintro δ S' ⟨y3, y4, y5, rfl, rfl⟩
      refine ⟨_, _, _, _, rfl, ?_⟩
      rw [prs_succ]
      have : ((List.range ((ws.length : Int) - ((j : Int) + 1)).toNat).map fun (i : Nat) => SL.D.int ((j : Int) + 1 + (i : Int) * 1)).length = ws.length - (j + 1) := by simp; omega
      rw [this]
  · rintro δ S' ⟨y2, y3, y4, y5, rfl, rfl⟩
    have : ((List.range ((ws.length : Nat) : Int).toNat).map fun (i : Nat) => SL.D.int (0 + (i : Int) * 1)).length = ws.length := by simp
    rw [this]
    repeat infer_instance
    exact wp_finL (t := []) (okL_iff.mpr fun d hd => by
      obtain ⟨z, _, rfl⟩ := List.mem_map.mp hd
      rfl) rfl Settles.same k
end
section
variable {A : Ad} {U S S' : Store} {Q : SL.D → Store → Prop} {X : Ex → Store → Prop} {ws : List Nat} {c : Nat} {bars : List (List Nat)} {F : Nat → List Nat}
theorem filterMap_filter {α : Type} (p : α → Bool) (l : List α) : l.filterMap (fun x => if p x = true then some x else none) = l.filter p := by
  induction l with
  | nil => rfl
  | cons x l ih =>
    rw [List.filterMap_cons, List.filter_cons]
    cases p x <;> simp [ih]
end
section
variable {A : Ad} {U S S' : Store} {Q : SL.D → Store → Prop} {X : Ex → Store → Prop} {ws : List Nat} {c : Nat} {bars : List (List Nat)} {F : Nat → List Nat}
end
section
variable {A : Ad} {U S S' : Store} {Q : SL.D → Store → Prop} {X : Ex → Store → Prop} {ws : List Nat} {c : Nat} {bars : List (List Nat)} {F : Nat → List Nat}
theorem of_wd {ds : List SL.D} (h : Dw U S) (hc : okL 0 ds = true) (k : ∀ d S', Dw U S' → d ∈ ds → Q d S') (hn : ds ≠ [] := by simp) (hl : ds.length < 2 ^ 64 := by first | assumption | (simp only [List.length_cons, List.length_nil]; omega)) : wp (φlaw_of A [.loc 0, .lst ds] S) Q X := wd_of h hc k hn hl
end
end NC
namespace Hal
open SL
def apart : List Nat → List Nat → Nat
  | x :: a, y :: b => (if x = y then 0 else 1) + apart a b
  | _, _ => 0
theorem apart_self : ∀ a : List Nat, apart a a = 0
  | [] => rfl
  | x :: a => by simp [apart, apart_self a]
theorem apart_symm : ∀ a b : List Nat, apart a b = apart b a
  | [], [] => rfl
  | [], _ :: _ => rfl
  | _ :: _, [] => rfl
  | x :: a, y :: b => by
    simp only [apart, apart_symm a b]
    by_cases h : x = y
    · subst h; rfl
    · rw [if_neg h, if_neg (fun e => h e.symm)]
theorem apart_zero : ∀ {a b : List Nat}, a.length = b.length → apart a b = 0 → a = b
  | [], [], _, _ => rfl
  | [], _ :: _, h, _ => by cases h
  | _ :: _, [], h, _ => by cases h
  | x :: a, y :: b, h, e => by
    simp only [apart] at e
    by_cases hxy : x = y
    · subst hxy
      have := apart_zero (a := a) (b := b) (by simpa using h) (by simpa using e)
      rw [this]
    · rw [if_neg hxy] at e; omega
theorem apart_tri : ∀ {a b c : List Nat}, a.length = b.length → b.length = c.length → apart a c ≤ apart a b + apart b c
  | [], [], [], _, _ => Nat.le_refl _
  | _ :: _, [], _, h, _ => by cases h
  | [], _ :: _, _, h, _ => by cases h
  | _, _ :: _, [], _, h => by cases h
  | _, [], _ :: _, _, h => by cases h
  | x :: a, y :: b, z :: c, h1, h2 => by
    have ih := apart_tri (a := a) (b := b) (c := c) (by simpa using h1) (by simpa using h2)
    simp only [apart]
    by_cases e1 : x = y
    · subst e1; rw [if_pos rfl]; omega
    · rw [if_neg e1]
      split <;> split <;> omega
theorem apart_set : ∀ {a b : List Nat} {i x y : Nat}, a[i]? = some x → b[i]? = some y → x ≠ y → apart (a.set i y) b + 1 = apart a b ∧ apart a (a.set i y) = 1
  | [], _, _, _, _, h, _, _ => by simp at h
  | _ :: _, [], _, _, _, _, h, _ => by simp at h
  | u :: a, v :: b, 0, x, y, h1, h2, hn => by
    simp at h1 h2
    subst h1; subst h2
    simp [apart, apart_self, hn]
    omega
  | u :: a, v :: b, i + 1, x, y, h1, h2, hn => by
    obtain ⟨e1, e2⟩ := apart_set (a := a) (b := b) (i := i) (x := x) (y := y) (by simpa using h1) (by simpa using h2) hn
    simp only [List.set_cons_succ, apart]
    refine ⟨by omega, by simp [e2]⟩
section
variable {ws : List Nat} {bars : List (List Nat)} {r g : List Nat}
theorem mem_set {i x y : Nat} : ∀ {r : List Nat}, x ∈ r.set i y → x = y ∨ x ∈ r := fun {r} h => (List.mem_or_eq_of_mem_set h).symm
open Classical in
/-- a side that is in g alone and forces no other such -/
theorem least (hw : Wls ws) (gd : Good ws bars) (hg : Rm ws g) : ∀ (n : Nat) (s : Nat), s ∈ g → s ∉ r → ((g.filter fun t => decide (t ∉ r ∧ Rch ws bars s t)).length ≤ n) → ∃ s, s ∈ g ∧ s ∉ r ∧ ∀ t, t ∈ g → t ∉ r → Rch ws bars s t → t = s
  | 0, s, hs, hr, h => by
    have : s ∈ g.filter fun t => decide (t ∉ r ∧ Rch ws bars s t) := List.mem_filter.mpr ⟨hs, decide_eq_true ⟨hr, .self⟩⟩
    have := List.length_pos_of_mem this
    omega
  | n + 1, s, hs, hr, h => by
    by_cases hx : ∃ t, t ∈ g ∧ t ∉ r ∧ Rch ws bars s t ∧ t ≠ s
    · obtain ⟨t, ht, htr, hst, hne⟩ := hx
      refine least hw gd hg n t ht htr ?_
      have trans : ∀ {u : Nat}, Rch ws bars t u → Rch ws bars s u := fun h => by
        induction h with
        | self => exact hst
        | step _ e k ih => exact .step ih e k
      have sub : (g.filter fun u => decide (u ∉ r ∧ Rch ws bars t u)).length < (g.filter fun u => decide (u ∉ r ∧ Rch ws bars s u)).length := by
        have key : ∀ l : List Nat, (l.filter fun u => decide (u ∉ r ∧ Rch ws bars t u)).length ≤ (l.filter fun u => decide (u ∉ r ∧ Rch ws bars s u)).length := fun l => by
          induction l with
          | nil => simp
          | cons u l ih =>
            rw [List.filter_cons, List.filter_cons]
            by_cases h1 : u ∉ r ∧ Rch ws bars t u
            · rw [if_pos (decide_eq_true h1), if_pos (decide_eq_true ⟨h1.1, trans h1.2⟩)]
              simp only [List.length_cons]; omega
            · rw [if_neg (by simpa using h1)]
              split
              · simp only [List.length_cons]; omega
              · exact ih
        have key2 : ∀ l : List Nat, s ∈ l → (l.filter fun u => decide (u ∉ r ∧ Rch ws bars t u)).length < (l.filter fun u => decide (u ∉ r ∧ Rch ws bars s u)).length := fun l => by
          induction l with
          | nil => intro h; simp at h
          | cons u l ih =>
            intro hm
            rw [List.filter_cons, List.filter_cons]
            by_cases hu : u = s
            · subst hu
              have h1 : ¬ (u ∉ r ∧ Rch ws bars t u) := fun z => hne ((gd u (rm_sd hg hs)).2 t (rm_sd hg ht) hst z.2)
              rw [if_neg (by simpa using h1), if_pos (decide_eq_true ⟨hr, .self⟩)]
              have := key l
              simp only [List.length_cons]; omega
            · have ih := ih ((List.mem_cons.mp hm).resolve_left (fun e => hu e.symm))
              by_cases h1 : u ∉ r ∧ Rch ws bars t u
              · rw [if_pos (decide_eq_true h1), if_pos (decide_eq_true ⟨h1.1, trans h1.2⟩)]
                simp only [List.length_cons]; omega
              · rw [if_neg (by simpa using h1)]
                split
                · simp only [List.length_cons]; omega
                · exact ih
        exact key2 g hs
      omega
    · refine ⟨s, hs, hr, fun t ht htr hst => ?_⟩
      exact Classical.byContradiction fun z => hx ⟨t, ht, htr, hst, z⟩
theorem door (hw : Wls ws) (hb : Brs ws bars) (gd : Good ws bars) (hr : Rm ws r) (ar : Av bars r) (hg : Rm ws g) (ag : Av bars g) (hne : r ≠ g) : ∃ i x y, r[i]? = some x ∧ g[i]? = some y ∧ x ≠ y ∧ Rm ws (r.set i y) ∧ Av bars (r.set i y) := by
  have hl : r.length = g.length := by
    have h1 : (r.map loL).length = (g.map loL).length := by
      have a : r.map loL = ws := hr
      have b : g.map loL = ws := hg
      rw [a, b]
    simpa using h1
  have hex : ∃ s, s ∈ g ∧ s ∉ r := Classical.byContradiction fun z => hne (by
    have hall : ∀ s ∈ g, s ∈ r := fun s hs => Classical.byContradiction fun q => z ⟨s, hs, q⟩
    apply List.ext_getElem hl
    intro i h1 h2
    have a : r.map loL = ws := hr
    have b : g.map loL = ws := hg
    have e : loL r[i] = loL g[i] := by
      have := congrArg (fun l : List Nat => l[i]?) (a.trans b.symm)
      simpa [List.getElem?_map, h1, h2] using this
    rcases same_wall hw (rm_sd hr (List.getElem_mem h1)) (rm_sd hg (List.getElem_mem h2)) e with q | q
    · exact q
    · have := hall _ (List.getElem_mem h2)
      have h3 := rm_not hw hr this
      rw [← q] at h3
      exact absurd (List.getElem_mem h1) h3)
  obtain ⟨s0, hs0, hr0⟩ := hex
  obtain ⟨s, hs, hsr, hmin⟩ := least (r := r) hw gd hg _ s0 hs0 hr0 (Nat.le_refl _)
  obtain ⟨i, hi, ei⟩ := List.getElem_of_mem hs
  have hir : i < r.length := by omega
  have hloc : loL r[i] = loL s := by
    have a : r.map loL = ws := hr
    have b : g.map loL = ws := hg
    have := congrArg (fun l : List Nat => l[i]?) (a.trans b.symm)
    simp [List.getElem?_map, hir, hi, ei] at this
    exact this
  refine ⟨i, r[i], s, List.getElem?_eq_getElem hir, by rw [List.getElem?_eq_getElem hi, ei], fun e => hsr (by rw [← e]; exact List.getElem_mem hir), ?_, ?_⟩
  · show (r.set i s).map loL = ws
    rw [List.map_set]
    have a : r.map loL = ws := hr
    rw [← hloc, ← List.map_set, List.set_getElem_self]
    exact a
  · intro b hbm
    obtain ⟨x, y, rfl, hx, hy, hlt⟩ := hb.1 b hbm
    refine Classical.byContradiction fun z => ?_
    have mx : x ∈ r.set i s := Classical.byContradiction fun q => z ⟨x, by simp, q⟩
    have my : y ∈ r.set i s := Classical.byContradiction fun q => z ⟨y, by simp, q⟩
    have noboth : ¬ (x ∈ r ∧ y ∈ r) := fun h => by
      obtain ⟨c, hc, hn⟩ := ar _ hbm
      simp only [List.mem_cons, List.not_mem_nil, or_false] at hc
      rcases hc with rfl | rfl
      · exact hn h.1
      · exact hn h.2
    have hsd := rm_sd hg hs
    -- s forces the other side of what stands beside it
    have go : ∀ u, Sd ws u → u ∈ r → loL u ≠ loL s → Eg bars s (swL u) → False := fun u hu hur hlu he => by
      have hr1 : Rch ws bars s (swL u) := .step .self he (sd_sw hw hu)
      have hg1 := closedR hw hg ag hs hr1
      have := hmin _ hg1 (rm_not hw hr hur) hr1
      apply hlu
      rw [← this, lo_sw hw hu]
    rcases mem_set mx with ex | mx'
    · rcases mem_set my with ey | my'
      · rw [ex, ey] at hlt; omega
      · exact go y hy my' (by rw [← ex]; omega) (.inl (by rw [sw_sw hw hy, ← ex]; exact hbm))
    · rcases mem_set my with ey | my'
      · exact go x hx mx' (by rw [← ey]; omega) (.inr (by rw [sw_sw hw hx, ← ey]; exact hbm))
      · exact noboth ⟨mx', my'⟩
theorem rm_len (h : Rm ws r) : r.length = ws.length := by
  have h1 : (r.map loL).length = ws.length := by
    have : r.map loL = ws := h
    rw [this]
  simpa using h1
theorem nearer (hw : Wls ws) (hb : Brs ws bars) (gd : Good ws bars) (hr : r ∈ lawR ws bars) (hg : g ∈ lawR ws bars) (hne : r ≠ g) : ∃ h ∈ lawR ws bars, apart h g + 1 = apart r g ∧ apart r h = 1 := by
  obtain ⟨hr1, hr2⟩ := (lawR_mem hw).mp hr
  obtain ⟨hg1, hg2⟩ := (lawR_mem hw).mp hg
  obtain ⟨i, x, y, e1, e2, hxy, h1, h2⟩ := door hw hb gd hr1 hr2 hg1 hg2 hne
  obtain ⟨a1, a2⟩ := apart_set e1 e2 hxy
  exact ⟨_, (lawR_mem hw).mpr ⟨h1, h2⟩, a1, a2⟩
theorem between (hw : Wls ws) (hb : Brs ws bars) (gd : Good ws bars) (hg : g ∈ lawR ws bars) : ∀ (m : Nat) (r : List Nat) (k : Nat), r ∈ lawR ws bars → apart r g = k + m → ∃ h ∈ lawR ws bars, apart h g = k
  | 0, r, k, hr, e => ⟨r, hr, by omega⟩
  | m + 1, r, k, hr, e => by
    have hne : r ≠ g := fun z => by rw [z, apart_self] at e; omega
    obtain ⟨h, hh, h1, h2⟩ := nearer hw hb gd hr hg hne
    exact between hw hb gd hg m h k hh (by omega)
theorem layer (hw : Wls ws) (hb : Brs ws bars) (gd : Good ws bars) (hg : g ∈ lawR ws bars) {x : List Nat} (hx : x ∈ lawR ws bars) (k : Nat) : (¬ apart g x ≤ k ∧ ∃ h ∈ lawR ws bars, apart g h = k ∧ apart x h = 1) ↔ apart g x = k + 1 := by
  have hl : ∀ {a : List Nat}, a ∈ lawR ws bars → a.length = ws.length := fun h => rm_len ((lawR_mem hw).mp h).1
  constructor
  · rintro ⟨h1, h, hh, e1, e2⟩
    have := apart_tri (a := g) (b := h) (c := x) (by rw [hl hg, hl hh]) (by rw [hl hh, hl hx])
    rw [apart_symm h x] at this
    omega
  · intro e
    have hne : x ≠ g := fun z => by rw [z, apart_self] at e; omega
    obtain ⟨h, hh, h1, h2⟩ := nearer hw hb gd hx hg hne
    rw [apart_symm x g] at h1
    exact ⟨by omega, h, hh, by rw [apart_symm]; omega, h2⟩
end
end Hal
namespace NC
open PySem PySem.Spec L2 SL Hal
local macro_rules
  | `(tactic| infer_instance) => `(tactic| first
    | ((with_reducible first
        | refine wf_seq ?_ | refine wf_asg ?_ | refine wf_ret ?_ | refine wf_retN ?_ | refine wf_expr ?_ | refine wf_nxM ?_ | refine wf_ctM ?_ | refine wf_bkM ?_ | refine wf_asgT ?_ | refine wf_raise ?_
        | refine wp_op2 ?_ | refine wp_op1 ?_ | refine wp_callG ?_ | refine wp_cons ?_ | refine wp_nil ?_ | refine wp_c ?_ | refine wp_cmpB ?_ | refine wp_trM ?_ | refine wp_notB ?_ | refine wp_andB ?_ | refine wp_orB ?_ | refine wp_andM ?_ | refine wp_orM ?_ | refine wp_notM ?_ | refine wp_ch ?_ | refine wp_sl ?_ | refine wp_soO ?_ | refine wp_noO ?_ | refine wp_fmt ?_ | refine wp_callKG ?_ | refine wp_yes ?_ | refine wp_mkx ?_ | refine wp_bM ?_ | refine wp_freeze ?_ | refine wf_par ?_ | refine wf_asgU ?_
        | refine gw_addI ?_ | refine gw_subI ?_ | refine gw_ltI ?_ | refine gw_leI ?_ | refine gw_gtI ?_ | refine gw_geI ?_ | refine gw_eqI ?_ | refine gw_neI ?_ | refine gw_eqS ?_ | refine gw_neS ?_ | refine gw_inC ?_ | refine gw_ninC ?_ | refine gw_ltS ?_ | refine gw_inL ?_ | refine gw_ninL ?_ | refine gw_sorted ?_ | refine gw_keys ?_ | refine gw_eqB ?_ | refine gw_neB ?_
        | refine gb_ltI ?_ | refine gb_leI ?_ | refine gb_gtI ?_ | refine gb_geI ?_ | refine gb_eqI ?_ | refine gb_neI ?_ | refine gb_eqS ?_ | refine gb_neS ?_ | refine gb_inC ?_ | refine gb_ninC ?_ | refine gb_inL ?_ | refine gb_ninL ?_ | refine gb_bl ?_ | refine gt_bl ?_ | refine gt_int ?_ | refine gt_lst ?_ | refine gt_tup ?_
        | refine gw_asI ?_ | refine gw_slT ?_ | refine gw_slL ?_ | refine gw_lenL ?_ | refine gw_lenT ?_ | refine gw_tuple ?_ | refine gw_tupleT ?_ | refine gw_tupleEnd ?_ | refine gw_lenEnd ?_ | refine gw_all ?_ | refine gw_any ?_ | refine gw_sum ?_ | refine gw_intI ?_ | refine gw_intB ?_ | refine gw_ix0L ?_ | refine gw_ix0T ?_ | refine gw_ix1L ?_ | refine gw_ix1T ?_ | refine gw_ix2L ?_ | refine gw_ix2T ?_))
    | ((with_reducible apply wp_v); (· rfl))
    | (with_reducible refine wp_appA ?_)
    | (with_reducible refine wp_mtS ?_)
    | (with_reducible first | refine gw_addS ?_ | refine gw_addL ?_ | refine gw_addT ?_ | refine gw_mulR ?_ | refine gw_mulL ?_ | refine gw_modI ?_ | refine gw_fdivI ?_ | refine gw_tup ?_ | refine gw_lst ?_ | refine gw_lenS ?_ | refine gw_slTo ?_ | refine gw_slFrom ?_ | refine gw_slFT ?_ | refine gw_slS ?_ | refine gw_pow ?_ | refine gw_swap ?_ | refine gw_isup ?_ | refine gw_upper1 ?_ | refine gw_lower1 ?_ | refine gw_upper ?_ | refine gw_lower ?_ | refine gw_str ?_ | refine gw_mulS ?_)
    | (refine ⟨rfl, ?_⟩))
  | `(tactic| sizeOf_list_dec) => `(tactic| (refine wp_def ?_; simp only [startD, List.map_cons, List.map_nil, List.length_cons, List.length_nil, Nat.reduceAdd, Nat.reduceSub, List.replicate_succ, List.replicate_zero, List.cons_append, List.nil_append, Nat.zero_add]))
section
variable {A : Ad} {U S S' : Store} {Q : SL.D → Store → Prop} {X : Ex → Store → Prop} {ws : List Nat} {c : Nat} {bars : List (List Nat)} {F : Nat → List Nat}
theorem cnt_range : ∀ {a b : List Nat}, a.length = b.length → ((List.range a.length).filterMap fun i => if a[i]? = b[i]? then none else some (1 : Int)).length = apart a b
  | [], [], _ => rfl
  | [], _ :: _, h => by cases h
  | _ :: _, [], h => by cases h
  | x :: a, y :: b, h => by
    have ih := cnt_range (a := a) (b := b) (by simpa using h)
    rw [List.length_cons, List.range_succ_eq_map, List.filterMap_cons, List.filterMap_map]
    have e : ((fun i => if (x :: a)[i]? = (y :: b)[i]? then none else some (1 : Int)) ∘ Nat.succ) = fun i => if a[i]? = b[i]? then none else some (1 : Int) := by
      funext i
      simp
    rw [e]
    simp only [List.getElem?_cons_zero, Option.some.injEq, apart]
    by_cases hxy : x = y
    · rw [if_pos hxy, if_pos hxy]
      simpa using ih
    · rw [if_neg hxy, if_neg hxy]
      simp only [List.length_cons]
      omega
theorem law_apart_wd {a b : List Nat} (h : a.length = b.length) (hl : a.length ≤ 1000) (k : Q (.int (apart a b : Nat)) S) : wp (φlaw_apart A [.str a, .str b] S) Q X := by
  sizeOf_list_dec
  unfold m_law_apart
  repeat infer_instance
  refine wp_compF (List.range a.length) (fun i => .int (0 + (i : Int) * 1)) (fun i => if a[i]? = b[i]? then none else some (1 : Int)) SL.D.int ?_
  refine wp_src1 ?_
  repeat infer_instance
  refine ⟨_, rfl, by omega, fun t => ?_, by simp; omega, fun i hi acc => ?_, ?_⟩
  · show some ((List.range _).map _) = _
    simp
  · have hi := List.mem_range.mp hi
    have ei : (0 : Int) + (i : Int) * 1 = (i : Int) := by omega
    rw [ei]
    have ea : a[i]? = some a[i] := List.getElem?_eq_getElem hi
    have eb : b[i]? = some b[i] := List.getElem?_eq_getElem (by omega)
    refine gw_bind ?_
    refine wp_cmpB ?_
    repeat infer_instance
    refine gw_ixS (i := i) ea ?_
    repeat infer_instance
    refine gw_ixS (i := i) eb ?_
    repeat infer_instance
    rw [ea, eb]
    refine ⟨fun hne => ?_, fun he => ?_⟩
    · have hne' : a[i] ≠ b[i] := by simpa using hne
      repeat infer_instance
      exact ⟨1, if_neg (by simpa using hne'), rfl, rfl⟩
    · have he' : a[i] = b[i] := by simpa using he
      rw [he', if_pos rfl]
  · repeat infer_instance
    rw [List.length_map, cnt_range h]
    exact wp_finS rfl k
end
end NC
namespace Hal
open SL
section
variable {ws : List Nat} {bars : List (List Nat)} {s t u : Nat} {r q S P : List Nat} {F : Nat → List Nat}
def Pt (ws P : List Nat) : Prop := (∀ c ∈ P, Sd ws c) ∧ (P.map loL).Pairwise (· < ·)
def Sh (ws : List Nat) (bars : List (List Nat)) (P : List Nat) (t : Nat) : Prop := ∃ s ∈ P, Rch ws bars s t
structure Cl (ws : List Nat) (bars : List (List Nat)) (S : List Nat) : Prop where
  sd : ∀ t ∈ S, Sd ws t
  cl : ∀ t ∈ S, ∀ u, Rch ws bars t u → u ∈ S
  no : ∀ t ∈ S, swL t ∉ S
def Tog (ws : List Nat) (bars : List (List Nat)) (P : List Nat) : Prop := ∀ s ∈ P, ∀ t ∈ P, ¬ Rch ws bars s (swL t)
def wr (r S : List Nat) : List Nat := r.map fun c => if swL c ∈ S then swL c else c
theorem nodup_perm {a b : List Nat} (ha : a.Nodup) (hb : b.Nodup) (h : ∀ x, x ∈ a ↔ x ∈ b) : a.Perm b := (List.perm_ext_iff_of_nodup ha hb).mpr h
theorem pw_and (f g : List Nat → Nat → Bool) : ∀ (r pre : List Nat), pw (fun b x => f b x && g b x) pre r = (pw f pre r && pw g pre r)
  | [], _ => rfl
  | x :: r, pre => by
    simp only [pw, pw_and f g r]
    cases f pre x <;> cases g pre x <;> cases pw f (pre ++ [x]) r <;> simp
end
end Hal
namespace NC
open PySem PySem.Spec L2 SL Hal
local macro_rules
  | `(tactic| infer_instance) => `(tactic| first
    | ((with_reducible first
        | refine wf_seq ?_ | refine wf_if ?_ | refine wp_ifM ?_ | refine wp_appN ?_ | refine wf_asg ?_ | refine wf_ret ?_ | refine wf_retN ?_ | refine wf_expr ?_ | refine wf_nxM ?_ | refine wf_ctM ?_ | refine wf_bkM ?_ | refine wf_asgT ?_ | refine wf_raise ?_
        | refine wp_op2 ?_ | refine wp_op1 ?_ | refine wp_callG ?_ | refine wp_cons ?_ | refine wp_nil ?_ | refine wp_c ?_ | refine wp_cmpB ?_ | refine wp_trM ?_ | refine wp_notB ?_ | refine wp_andB ?_ | refine wp_orB ?_ | refine wp_andM ?_ | refine wp_orM ?_ | refine wp_notM ?_ | refine wp_ch ?_ | refine wp_sl ?_ | refine wp_soO ?_ | refine wp_noO ?_ | refine wp_fmt ?_ | refine wp_callKG ?_ | refine wp_yes ?_ | refine wp_mkx ?_ | refine wp_bM ?_ | refine wp_freeze ?_ | refine wf_par ?_ | refine wf_asgU ?_
        | refine gw_addI ?_ | refine gw_subI ?_ | refine gw_ltI ?_ | refine gw_leI ?_ | refine gw_gtI ?_ | refine gw_geI ?_ | refine gw_eqI ?_ | refine gw_neI ?_ | refine gw_eqS ?_ | refine gw_neS ?_ | refine gw_inC ?_ | refine gw_ninC ?_ | refine gw_ltS ?_ | refine gw_inL ?_ | refine gw_ninL ?_ | refine gw_sorted ?_ | refine gw_sortedT ?_ | refine gw_keys ?_ | refine gw_eqB ?_ | refine gw_neB ?_
        | refine gb_ltI ?_ | refine gb_leI ?_ | refine gb_gtI ?_ | refine gb_geI ?_ | refine gb_eqI ?_ | refine gb_neI ?_ | refine gb_eqS ?_ | refine gb_neS ?_ | refine gb_inC ?_ | refine gb_ninC ?_ | refine gb_inL ?_ | refine gb_ninL ?_ | refine gb_bl ?_ | refine gt_bl ?_ | refine gt_int ?_ | refine gt_lst ?_ | refine gt_tup ?_
        | refine gw_asI ?_ | refine gw_slT ?_ | refine gw_slL ?_ | refine gw_lenL ?_ | refine gw_lenT ?_ | refine gw_tuple ?_ | refine gw_tupleT ?_ | refine gw_tupleEnd ?_ | refine gw_lenEnd ?_ | refine gw_all ?_ | refine gw_any ?_ | refine gw_sum ?_ | refine gw_intI ?_ | refine gw_intB ?_ | refine gw_ix0L ?_ | refine gw_ix0T ?_ | refine gw_ix1L ?_ | refine gw_ix1T ?_ | refine gw_ix2L ?_ | refine gw_ix2T ?_))
    | ((with_reducible apply wp_v); (· rfl))
    | (with_reducible refine wp_appA ?_)
    | (with_reducible refine wp_mtS ?_)
    | (refine wp_fO (by rfl) (by rfl) ?_)
    | (refine wp_mO (by rfl) (by rfl) ?_)
    | (with_reducible first | refine gw_addS ?_ | refine gw_addL ?_ | refine gw_addT ?_ | refine gw_mulR ?_ | refine gw_mulL ?_ | refine gw_modI ?_ | refine gw_fdivI ?_ | refine gw_tup ?_ | refine gw_lst ?_ | refine gw_lenS ?_ | refine gw_slTo ?_ | refine gw_slFrom ?_ | refine gw_slFT ?_ | refine gw_slS ?_ | refine gw_pow ?_ | refine gw_swap ?_ | refine gw_isup ?_ | refine gw_upper1 ?_ | refine gw_lower1 ?_ | refine gw_upper ?_ | refine gw_lower ?_ | refine gw_str ?_ | refine gw_mulS ?_)
    | (refine ⟨rfl, ?_⟩))
  | `(tactic| sizeOf_list_dec) => `(tactic| (refine wp_def ?_; simp only [startD, List.map_cons, List.map_nil, List.length_cons, List.length_nil, Nat.reduceAdd, Nat.reduceSub, List.replicate_succ, List.replicate_zero, List.cons_append, List.nil_append, Nat.zero_add]))
section
variable {A : Ad} {U S S' : Store} {Q : SL.D → Store → Prop} {X : Ex → Store → Prop} {ws : List Nat} {c : Nat} {bars : List (List Nat)} {F : Nat → List Nat} {P r : List Nat}
theorem lt1 {a b : Nat} : [a] < [b] ↔ a < b := by
  constructor
  · intro h
    cases h with
    | rel h => exact h
    | cons h => cases h
  · exact fun h => .rel h
end
section
variable {A : Ad} {U S S' : Store} {Q : SL.D → Store → Prop} {X : Ex → Store → Prop} {ws : List Nat} {c : Nat} {bars : List (List Nat)} {F : Nat → List Nat} {P r : List Nat}
end
section
variable {A : Ad} {U S S' : Store} {Q : SL.D → Store → Prop} {X : Ex → Store → Prop} {ws : List Nat} {c : Nat} {bars : List (List Nat)} {F : Nat → List Nat} {P r : List Nat}
end
section
variable {A : Ad} {U S S' : Store} {Q : SL.D → Store → Prop} {X : Ex → Store → Prop}
structure Vw (S : Store) (x : SL.D) (t : String) (xs : List SL.D) : Prop where
  q : ∀ g, asQ (S ++ g) x = some xs
  dc : ∀ g, asDct (S ++ g) x = none
  ty : ∀ g, tyN (S ++ g) x = some t
  ln : ∀ g, lenN (S ++ g) x = some xs.length
  ns : ∀ l, x ≠ .str l
theorem Vw.lst (xs : List SL.D) : Vw S (.lst xs) "list" xs := ⟨fun _ => rfl, fun _ => rfl, fun _ => rfl, fun _ => rfl, fun l h => by cases h⟩
theorem Vw.tup (xs : List SL.D) : Vw S (.tup xs) "tuple" xs := ⟨fun _ => rfl, fun _ => rfl, fun _ => rfl, fun _ => rfl, fun l h => by cases h⟩
theorem Vw.loc {m : Nat} {xs : List SL.D} (e : S[m]? = some (.lst xs)) : Vw S (.loc m) "list" xs := by
  have e2 : ∀ g : Store, (S ++ g)[m]? = some (.lst xs) := fun g => by rw [List.getElem?_append_left (List.getElem?_eq_some_iff.mp e).1]; exact e
  exact ⟨fun g => by simp only [asQ, asL, e2], fun g => by simp only [asDct, e2], fun g => by simp only [tyN, e2], fun g => by simp only [lenN, asL, e2], fun l h => by cases h⟩
def Rs (S : Store) : Nat → SL.D → SL.D → Prop
  | 0, _, _ => False
  | n + 1, x, d => (x = d ∧ pl (n + 1) d) ∨ ∃ t xs ds, Vw S x t xs ∧ Vw S d t ds ∧ (t = "list" ∨ t = "tuple") ∧ xs.length = ds.length ∧ ds.length ≤ 100000 ∧ ∀ (i : Nat) x' d', xs[i]? = some x' → ds[i]? = some d' → Rs S n x' d'
theorem Rs.rf {n : Nat} {d : SL.D} (h : pl (n + 1) d) : Rs S (n + 1) d d := .inl ⟨rfl, h⟩
theorem Rs.loc {n m : Nat} {xs : List SL.D} (e : S[m]? = some (.lst xs)) (hl : xs.length ≤ 100000) (hp : ∀ x ∈ xs, pl (n + 1) x) : Rs S (n + 2) (.loc m) (.lst xs) :=
  .inr ⟨"list", xs, xs, .loc e, .lst xs, .inl rfl, rfl, hl, fun i x' d' h1 h2 => by
    rw [h1] at h2
    cases h2
    exact .rf (hp _ (List.mem_of_getElem? h1))⟩
end
section
variable {A : Ad} {U S S' : Store} {Q : SL.D → Store → Prop} {X : Ex → Store → Prop} {ws : List Nat} {c : Nat} {bars : List (List Nat)} {F : Nat → List Nat} {P r f : List Nat}
end
section
variable {A : Ad} {U S S' : Store} {Q : SL.D → Store → Prop} {X : Ex → Store → Prop} {ws : List Nat} {c : Nat} {bars : List (List Nat)} {F : Nat → List Nat} {P r x : List Nat}
def nb (r : List Nat) (i : Nat) : List Nat := r.take i ++ [swL (r[i]?.getD 0)] ++ r.drop (i + 1)
end
section
variable {ws : List Nat} {bars : List (List Nat)} {Ts : List (List Nat)} {g r x a : List Nat} {s p : Nat}
def tx (Ts : List (List Nat)) (p : Nat) : List Nat := Ts[p]?.getD []
def wnB (Ts : List (List Nat)) (a : List Nat) (w : Nat) : Bool := a.any fun p => (tx Ts p).any fun s => decide (loL s = w)
def gdB (Ts : List (List Nat)) (g a : List Nat) (p : Nat) : Bool := (tx Ts p).all fun s => decide (s ∈ g) || wnB Ts a (loL s)
def nxP (Ts : List (List Nat)) (g a : List Nat) : List Nat := (List.range Ts.length).filter fun p => !decide (p ∈ a) && gdB Ts g a p
def stp (Ts : List (List Nat)) (g a : List Nat) : List Nat := match nxP Ts g a with
  | [] => a
  | p :: _ => a ++ [p]
def tbN (Ts : List (List Nat)) (g : List Nat) : Nat → List Nat
  | 0 => []
  | n + 1 => stp Ts g (tbN Ts g n)
def tb (Ts : List (List Nat)) (g : List Nat) : List Nat := tbN Ts g Ts.length
def run (Ts : List (List Nat)) (x : List Nat) (ps : List Nat) : List Nat := ps.foldl (fun y p => wr y (tx Ts p)) x
inductive OkL (Ts : List (List Nat)) (g : List Nat) : List Nat → Prop where
  | nil : OkL Ts g []
  | snoc {a : List Nat} {p : Nat} (h : OkL Ts g a) (k : gdB Ts g a p = true) : OkL Ts g (a ++ [p])
end
section
variable {A : Ad} {U S S' : Store} {Q : SL.D → Store → Prop} {X : Ex → Store → Prop} {ws : List Nat} {c : Nat} {bars : List (List Nat)} {F : Nat → List Nat} {P r g f : List Nat} {Ts Ps : List (List Nat)}
open Classical in
noncomputable def clo (ws : List Nat) (bars : List (List Nat)) (P : List Nat) : List Nat := if h : ∃ f : List Nat, f.Nodup ∧ f.Pairwise sdR ∧ ∀ t, t ∈ f ↔ Sh ws bars P t then h.choose else []
abbrev dI (i : Nat) : SL.D := .int ((i : Nat) : Int)
end
section
variable {A : Ad} {U S S' : Store} {Q : SL.D → Store → Prop} {X : Ex → Store → Prop} {ws : List Nat} {c : Nat} {bars : List (List Nat)} {F : Nat → List Nat} {P r g f : List Nat} {Ts Ps Qs R : List (List Nat)}
structure Clo (ws : List Nat) (bars : List (List Nat)) (P : List Nat) : Prop where
  pt : Pt ws P
  ex : ∃ q ∈ lawR ws bars, ∀ c ∈ P, c ∈ q
  tg : Tog ws bars P
  cl : Cl ws bars (clo ws bars P)
  nd : (clo ws bars P).Nodup
  srt : (clo ws bars P).Pairwise sdR
  mem : ∀ t, t ∈ clo ws bars P ↔ Sh ws bars P t
end
end NC
namespace NC
open PySem PySem.Spec L2 SL Hal
local macro_rules
  | `(tactic| infer_instance) => `(tactic| first
    | ((with_reducible first
        | refine wf_seq ?_ | refine wf_asg ?_ | refine wf_ret ?_ | refine wf_retN ?_ | refine wf_expr ?_ | refine wf_nxM ?_ | refine wf_ctM ?_ | refine wf_bkM ?_ | refine wf_asgT ?_ | refine wf_raise ?_
        | refine wp_op2 ?_ | refine wp_op1 ?_ | refine wp_callG ?_ | refine wp_cons ?_ | refine wp_nil ?_ | refine wp_c ?_ | refine wp_cmpB ?_ | refine wp_trM ?_ | refine wp_notB ?_ | refine wp_andB ?_ | refine wp_orB ?_ | refine wp_andM ?_ | refine wp_orM ?_ | refine wp_notM ?_ | refine wp_ch ?_ | refine wp_sl ?_ | refine wp_soO ?_ | refine wp_noO ?_ | refine wp_fmt ?_ | refine wp_callKG ?_ | refine wp_yes ?_ | refine wp_mkx ?_ | refine wp_bM ?_ | refine wp_freeze ?_ | refine wf_par ?_ | refine wf_asgU ?_
        | refine gw_addI ?_ | refine gw_subI ?_ | refine gw_ltI ?_ | refine gw_leI ?_ | refine gw_gtI ?_ | refine gw_geI ?_ | refine gw_eqI ?_ | refine gw_neI ?_ | refine gw_eqS ?_ | refine gw_neS ?_ | refine gw_inC ?_ | refine gw_ninC ?_ | refine gw_ltS ?_ | refine gw_inL ?_ | refine gw_ninL ?_ | refine gw_sorted ?_ | refine gw_keys ?_ | refine gw_eqB ?_ | refine gw_neB ?_
        | refine gb_ltI ?_ | refine gb_leI ?_ | refine gb_gtI ?_ | refine gb_geI ?_ | refine gb_eqI ?_ | refine gb_neI ?_ | refine gb_eqS ?_ | refine gb_neS ?_ | refine gb_inC ?_ | refine gb_ninC ?_ | refine gb_inL ?_ | refine gb_ninL ?_ | refine gb_bl ?_ | refine gt_bl ?_ | refine gt_int ?_ | refine gt_lst ?_ | refine gt_tup ?_
        | refine gw_asI ?_ | refine gw_slT ?_ | refine gw_slL ?_ | refine gw_lenL ?_ | refine gw_lenT ?_ | refine gw_tuple ?_ | refine gw_tupleT ?_ | refine gw_tupleEnd ?_ | refine gw_lenEnd ?_ | refine gw_all ?_ | refine gw_any ?_ | refine gw_sum ?_ | refine gw_intI ?_ | refine gw_intB ?_ | refine gw_ix0L ?_ | refine gw_ix0T ?_ | refine gw_ix1L ?_ | refine gw_ix1T ?_ | refine gw_ix2L ?_ | refine gw_ix2T ?_))
    | ((with_reducible apply wp_v); (· rfl))
    | (with_reducible refine wp_appA ?_)
    | (with_reducible refine wp_mtS ?_)
    | (with_reducible first | refine gw_addS ?_ | refine gw_addL ?_ | refine gw_addT ?_ | refine gw_mulR ?_ | refine gw_mulL ?_ | refine gw_modI ?_ | refine gw_fdivI ?_ | refine gw_tup ?_ | refine gw_lst ?_ | refine gw_lenS ?_ | refine gw_slTo ?_ | refine gw_slFrom ?_ | refine gw_slFT ?_ | refine gw_slS ?_ | refine gw_pow ?_ | refine gw_swap ?_ | refine gw_isup ?_ | refine gw_upper1 ?_ | refine gw_lower1 ?_ | refine gw_upper ?_ | refine gw_lower ?_ | refine gw_str ?_ | refine gw_mulS ?_)
    | (refine ⟨rfl, ?_⟩))
  | `(tactic| sizeOf_list_dec) => `(tactic| (refine wp_def ?_; simp only [startD, List.map_cons, List.map_nil, List.length_cons, List.length_nil, Nat.reduceAdd, Nat.reduceSub, List.replicate_succ, List.replicate_zero, List.cons_append, List.nil_append, Nat.zero_add]))
section
variable {A : Ad} {U S S' : Store} {Q : SL.D → Store → Prop} {X : Ex → Store → Prop} {ws : List Nat} {c : Nat} {bars : List (List Nat)} {F : Nat → List Nat}
theorem at_last {ds : List SL.D} {m : Nat} {d : SL.D} (hl : ds.length = m + 1) (h : ds[m]? = some d) : atI ds (-1) = some d := by
  unfold atI
  have : ixN ds.length (-1) = some m := by
    rw [hl]
    unfold ixN
    rw [if_neg (by omega), if_pos (by omega)]
    congr 1
    omega
  rw [this]
  exact h
structure Way (R : List (List Nat)) (r g : List Nat) (L : List (List Nat)) (j : Nat) : Prop where
  len : L.length = j + 1
  fst : L[0]? = some r
  lst : ∃ h, L[j]? = some h ∧ apart h g + j = apart r g
  mem : ∀ x ∈ L, x ∈ R
  one : ∀ (i : Nat) (a b : List Nat), L[i]? = some a → L[i + 1]? = some b → apart a b = 1
end
end NC
namespace NC
open PySem PySem.Spec L2 SL Hal
local macro_rules
  | `(tactic| infer_instance) => `(tactic| first
    | ((with_reducible first
        | refine wf_seq ?_ | refine wf_if ?_ | refine wp_ifM ?_ | refine wp_appN ?_ | refine wf_asg ?_ | refine wf_ret ?_ | refine wf_retN ?_ | refine wf_expr ?_ | refine wf_nxM ?_ | refine wf_ctM ?_ | refine wf_bkM ?_ | refine wf_asgT ?_ | refine wf_raise ?_
        | refine wp_op2 ?_ | refine wp_op1 ?_ | refine wp_callG ?_ | refine wp_cons ?_ | refine wp_nil ?_ | refine wp_c ?_ | refine wp_cmpB ?_ | refine wp_trM ?_ | refine wp_notB ?_ | refine wp_andB ?_ | refine wp_orB ?_ | refine wp_andM ?_ | refine wp_orM ?_ | refine wp_notM ?_ | refine wp_ch ?_ | refine wp_sl ?_ | refine wp_soO ?_ | refine wp_noO ?_ | refine wp_fmt ?_ | refine wp_callKG ?_ | refine wp_yes ?_ | refine wp_mkx ?_ | refine wp_bM ?_ | refine wp_freeze ?_ | refine wf_par ?_ | refine wf_asgU ?_
        | refine gw_addI ?_ | refine gw_subI ?_ | refine gw_ltI ?_ | refine gw_leI ?_ | refine gw_gtI ?_ | refine gw_geI ?_ | refine gw_eqI ?_ | refine gw_neI ?_ | refine gw_eqS ?_ | refine gw_neS ?_ | refine gw_inC ?_ | refine gw_ninC ?_ | refine gw_ltS ?_ | refine gw_inL ?_ | refine gw_ninL ?_ | refine gw_sorted ?_ | refine gw_sortedT ?_ | refine gw_keys ?_ | refine gw_eqB ?_ | refine gw_neB ?_
        | refine gb_ltI ?_ | refine gb_leI ?_ | refine gb_gtI ?_ | refine gb_geI ?_ | refine gb_eqI ?_ | refine gb_neI ?_ | refine gb_eqS ?_ | refine gb_neS ?_ | refine gb_inC ?_ | refine gb_ninC ?_ | refine gb_inL ?_ | refine gb_ninL ?_ | refine gb_bl ?_ | refine gt_bl ?_ | refine gt_int ?_ | refine gt_lst ?_ | refine gt_tup ?_
        | refine gw_asI ?_ | refine gw_slT ?_ | refine gw_slL ?_ | refine gw_lenL ?_ | refine gw_lenT ?_ | refine gw_tuple ?_ | refine gw_tupleT ?_ | refine gw_tupleEnd ?_ | refine gw_lenEnd ?_ | refine gw_all ?_ | refine gw_any ?_ | refine gw_sum ?_ | refine gw_intI ?_ | refine gw_intB ?_ | refine gw_ix0L ?_ | refine gw_ix0T ?_ | refine gw_ix1L ?_ | refine gw_ix1T ?_ | refine gw_ix2L ?_ | refine gw_ix2T ?_))
    | ((with_reducible apply wp_v); (· rfl))
    | (with_reducible refine wp_appA ?_)
    | (with_reducible refine wp_mtS ?_)
    | (refine wp_fO (by rfl) (by rfl) ?_)
    | (refine wp_mO (by rfl) (by rfl) ?_)
    | (with_reducible first | refine gw_addS ?_ | refine gw_addL ?_ | refine gw_addT ?_ | refine gw_mulR ?_ | refine gw_mulL ?_ | refine gw_modI ?_ | refine gw_fdivI ?_ | refine gw_tup ?_ | refine gw_lst ?_ | refine gw_lenS ?_ | refine gw_slTo ?_ | refine gw_slFrom ?_ | refine gw_slFT ?_ | refine gw_slS ?_ | refine gw_pow ?_ | refine gw_swap ?_ | refine gw_isup ?_ | refine gw_upper1 ?_ | refine gw_lower1 ?_ | refine gw_upper ?_ | refine gw_lower ?_ | refine gw_str ?_ | refine gw_mulS ?_)
    | (refine ⟨rfl, ?_⟩))
  | `(tactic| sizeOf_list_dec) => `(tactic| (refine wp_def ?_; simp only [startD, List.map_cons, List.map_nil, List.length_cons, List.length_nil, Nat.reduceAdd, Nat.reduceSub, List.replicate_succ, List.replicate_zero, List.cons_append, List.nil_append, Nat.zero_add]))
section
variable {A : Ad} {U S S' : Store} {Q : SL.D → Store → Prop} {X : Ex → Store → Prop} {ws : List Nat} {c : Nat} {bars : List (List Nat)} {F : Nat → List Nat} {P r g f : List Nat} {Ts Ps Qs R : List (List Nat)}
theorem gb_ninLs {d : SL.D} {a : List Nat} {xs : List (List Nat)} {PB : Bool → Prop} (h : asQ S d = some (xs.map SL.D.str)) (hd : ∀ l, d ≠ .str l) (k : PB (!decide (a ∈ xs))) : GW (asB (ninG S (.str a) d)) PB := ⟨_, by unfold ninG; rw [inB_strs (xs := xs) h hd]; rfl, k⟩
end
section
variable {A : Ad} {U S S' : Store} {Q : SL.D → Store → Prop} {X : Ex → Store → Prop} {ws : List Nat} {c : Nat} {bars : List (List Nat)} {F : Nat → List Nat} {P r g f : List Nat} {Ts Ps Qs R : List (List Nat)}
end
section
variable {A : Ad} {U S S' : Store} {Q : SL.D → Store → Prop} {X : Ex → Store → Prop} {ws : List Nat} {c : Nat} {bars : List (List Nat)} {F : Nat → List Nat} {P r g f : List Nat} {Ts Ps Qs R : List (List Nat)}
end
section
variable {A : Ad} {U S S' : Store} {Q : SL.D → Store → Prop} {X : Ex → Store → Prop} {ws : List Nat} {c : Nat} {bars : List (List Nat)} {F : Nat → List Nat} {P r g f : List Nat} {Ts Ps Qs R : List (List Nat)} {Pr : List (Nat × Nat)}
inductive Bh (Pr : List (Nat × Nat)) : Nat → Nat → Prop where
  | one {a b : Nat} (h : (a, b) ∈ Pr) : Bh Pr a b
  | more {a b c : Nat} (h : Bh Pr a b) (k : (b, c) ∈ Pr) : Bh Pr a c
structure BhL (Pr : List (Nat × Nat)) (p : Nat) (B : List Nat) : Prop where
  snd : ∀ z ∈ B, Bh Pr p z
  fst : ∀ z, (p, z) ∈ Pr → z ∈ B
structure BhA (Pr : List (Nat × Nat)) (p : Nat) (B : List Nat) : Prop extends BhL Pr p B where
  cls : ∀ z ∈ B, ∀ y, (z, y) ∈ Pr → y ∈ B
theorem BhA.all {p z : Nat} {B : List Nat} (h : BhA Pr p B) (k : Bh Pr p z) : z ∈ B := by
  induction k with
  | one e => exact h.fst _ e
  | more _ e ih => exact h.cls _ ih _ e
structure Prs (n : Nat) (Pr : List (Nat × Nat)) : Prop where
  len : Pr.length ≤ 9
  ok : ∃ rk : Nat → Nat, ∀ p ∈ Pr, p.1 < n ∧ p.2 < n ∧ rk p.1 < rk p.2
end
section
variable {A : Ad} {U S S' : Store} {Q : SL.D → Store → Prop} {X : Ex → Store → Prop} {ws : List Nat} {c : Nat} {bars : List (List Nat)} {F : Nat → List Nat} {P r g f : List Nat} {Ts Ps Qs R : List (List Nat)} {Pr : List (Nat × Nat)}
theorem dec_int (a b : Nat) : decide (((a : Nat) : Int) = ((b : Nat) : Int)) = decide (a = b) := by
  by_cases h : a = b
  · simp [h]
  · have : ¬ ((a : Nat) : Int) = ((b : Nat) : Int) := by omega
    rw [decide_eq_false this, decide_eq_false h]
end
section
variable {A : Ad} {U S S' : Store} {Q : SL.D → Store → Prop} {X : Ex → Store → Prop} {ws : List Nat} {c : Nat} {bars : List (List Nat)} {F : Nat → List Nat} {P r g f L : List Nat} {Ts Ps Qs R : List (List Nat)} {Pr : List (Nat × Nat)} {n : Nat}
end
section
variable {A : Ad} {U S S' : Store} {Q : SL.D → Store → Prop} {X : Ex → Store → Prop} {ws : List Nat} {c : Nat} {bars : List (List Nat)} {F : Nat → List Nat} {P r g f L : List Nat} {Ts Ps Qs R : List (List Nat)} {Pr : List (Nat × Nat)} {n : Nat}
end
section
variable {A : Ad} {U S S' : Store} {Q : SL.D → Store → Prop} {X : Ex → Store → Prop} {ws : List Nat} {bars : List (List Nat)} {F : Nat → List Nat} {P r g f L b o : List Nat} {Ts Ps : List (List Nat)} {Pr : List (Nat × Nat)} {n j k p : Nat}
def LsAt (S : Store) (n : Nat) (d : SL.D) (xs : List SL.D) : Prop := d = .lst xs ∨ ∃ m, n ≤ m ∧ d = .loc m ∧ S[m]? = some (.lst xs)
theorem LsAt.app {d : SL.D} {xs : List SL.D} {t : Store} (h : LsAt S n d xs) : LsAt (S ++ t) n d xs := by
  rcases h with rfl | ⟨m, h1, rfl, h2⟩
  · exact .inl rfl
  · exact .inr ⟨m, h1, rfl, by rw [List.getElem?_append_left (List.getElem?_eq_some_iff.mp h2).1]; exact h2⟩
theorem LsAt.asQ {d : SL.D} {xs : List SL.D} (h : LsAt S n d xs) : asQ S d = some xs := by
  rcases h with rfl | ⟨m, h1, rfl, h2⟩
  · rfl
  · simp only [SL.asQ, asL, h2]
theorem LsAt.it {d : SL.D} {xs : List SL.D} (h : LsAt S n d xs) : iterD S d = some xs := by
  rcases h with rfl | ⟨m, h1, rfl, h2⟩
  · rfl
  · show SL.asQ S (.loc m) = _
    simp only [SL.asQ, asL, h2]
theorem LsAt.fin {d : SL.D} {xs : List SL.D} {t : Store} (h : LsAt (S' ++ t) S.length d xs) (ok : okL 0 xs = true) (hl : S'.length = S.length) (hs : Settles S S') (k : Q (.lst xs) S') : wp (finV S d (S' ++ t)) Q X := by
  rcases h with rfl | ⟨m, h1, rfl, h2⟩
  · exact wp_finG ok hl hs k
  · refine wp_ok (fin_cut (e := .lst xs) ?_ hl hs) k
    have ho : ¬ okD S.length (.loc m) = true := by
      simp only [okD, decide_eq_true_eq]
      omega
    unfold fz fzN
    rw [if_neg ho]
    simp only [h2, allO_cl (okL_up _ _ ok)]
theorem at_vw {d : SL.D} {xs : List SL.D} (h : At S d (.lst xs)) : Vw S d "list" xs := by
  rcases h with rfl | ⟨m, ys, rfl, h, e⟩
  · exact .lst xs
  · cases e
    exact .loc h
theorem Rs.at_ {n : Nat} {x y : SL.D} {xs : List SL.D} (hx : At S x (.lst xs)) (hy : At S y (.lst xs)) (hl : xs.length ≤ 100000) (hp : ∀ z ∈ xs, pl (n + 1) z) : Rs S (n + 2) x y :=
  .inr ⟨"list", xs, xs, at_vw hx, at_vw hy, .inl rfl, rfl, hl, fun i x' d' h1 h2 => by
    rw [h1] at h2
    cases h2
    exact .rf (hp _ (List.mem_of_getElem? h1))⟩
inductive LO (n : Nat) (Pr : List (Nat × Nat)) : List Nat → Prop where
  | nil : LO n Pr []
  | snoc {b : List Nat} {k : Nat} (h : LO n Pr b) (hk : k < n) (hn : k ∉ b) (ha : ∀ a, (a, k) ∈ Pr → a ∈ b) : LO n Pr (b ++ [k])
theorem LO.nd (h : LO n Pr o) : o.Nodup := by
  induction h with
  | nil => exact List.nodup_nil
  | snoc h hk hn ha ih =>
    rw [List.nodup_append]
    refine ⟨ih, by simp, fun x hx y hy => ?_⟩
    rw [List.mem_singleton.mp hy]
    exact fun z => hn (by rw [← z]; exact hx)
theorem LO.lt (h : LO n Pr o) : ∀ k ∈ o, k < n := by
  induction h with
  | nil => intro k h; cases h
  | snoc h hk hn ha ih =>
    intro k hkm
    rcases List.mem_append.mp hkm with z | z
    · exact ih k z
    · rw [List.mem_singleton.mp z]; exact hk
theorem LO.of (nd : o.Nodup) (lt : ∀ k ∈ o, k < n) (h : ∀ s x t, o = s ++ x :: t → ∀ a, (a, x) ∈ Pr → a ∈ s) : LO n Pr o := by
  have key : ∀ (m : Nat) (o : List Nat), o.length = m → o.Nodup → (∀ k ∈ o, k < n) → (∀ s x t, o = s ++ x :: t → ∀ a, (a, x) ∈ Pr → a ∈ s) → LO n Pr o := fun m => by
    induction m with
    | zero => intro o hl _ _ _; rw [List.eq_nil_of_length_eq_zero hl]; exact .nil
    | succ m ih =>
      intro o hl nd lt h
      rcases o.eq_nil_or_concat with rfl | ⟨b, k, rfl⟩
      · cases hl
      · rw [List.concat_eq_append] at *
        have nd2 := List.nodup_append.mp nd
        refine .snoc (ih b (by simpa using hl) nd2.1 (fun x hx => lt x (List.mem_append_left _ hx)) fun s x t e a ha => h s x (t ++ [k]) (by rw [e]; simp) a ha) (lt k (by simp)) (fun z => nd2.2.2 k z k (by simp) rfl) fun a ha => h b k [] rfl a ha
  exact key _ o rfl nd lt h
end
section
variable {A : Ad} {U S S' : Store} {Q : SL.D → Store → Prop} {X : Ex → Store → Prop} {ws : List Nat} {bars : List (List Nat)} {F : Nat → List Nat} {P r g f L b o : List Nat} {Ts Ps : List (List Nat)} {Pr : List (Nat × Nat)} {n j k p : Nat}
end
section
variable {A : Ad} {U S S' : Store} {Q : SL.D → Store → Prop} {X : Ex → Store → Prop} {ws : List Nat} {c : Nat} {bars : List (List Nat)} {F : Nat → List Nat} {P r g f L : List Nat} {Ts Ps Qs R : List (List Nat)} {Pr : List (Nat × Nat)} {n : Nat}
end
section
variable {A : Ad} {U S S1 : Store} {Q : SL.D → Store → Prop} {X : Ex → Store → Prop} {ws : List Nat} {c : Nat} {bars : List (List Nat)}
end
end NC
namespace SL
open PySem PySem.Spec L2
open PyProof.Rows hiding St
section
variable {X : Cx} {W : WX} {me : ME} {e : Expr}
end
end SL
namespace NC
open PySem PySem.Spec L2 SL Hal
local macro_rules
  | `(tactic| infer_instance) => `(tactic| first
    | ((with_reducible first
        | refine wf_seq ?_ | refine wf_if ?_ | refine wp_ifM ?_ | refine wp_appN ?_ | refine wf_asg ?_ | refine wf_ret ?_ | refine wf_retN ?_ | refine wf_expr ?_ | refine wf_nxM ?_ | refine wf_ctM ?_ | refine wf_bkM ?_ | refine wf_asgT ?_ | refine wf_raise ?_
        | refine wp_op2 ?_ | refine wp_op1 ?_ | refine wp_callG ?_ | refine wp_cons ?_ | refine wp_nil ?_ | refine wp_c ?_ | refine wp_cmpB ?_ | refine wp_trM ?_ | refine wp_notB ?_ | refine wp_andB ?_ | refine wp_orB ?_ | refine wp_andM ?_ | refine wp_orM ?_ | refine wp_notM ?_ | refine wp_ch ?_ | refine wp_sl ?_ | refine wp_soO ?_ | refine wp_noO ?_ | refine wp_fmt ?_ | refine wp_callKG ?_ | refine wp_yes ?_ | refine wp_mkx ?_ | refine wp_bM ?_ | refine wp_freeze ?_ | refine wf_par ?_ | refine wf_asgU ?_
        | refine gw_addI ?_ | refine gw_subI ?_ | refine gw_ltI ?_ | refine gw_leI ?_ | refine gw_gtI ?_ | refine gw_geI ?_ | refine gw_eqI ?_ | refine gw_neI ?_ | refine gw_eqS ?_ | refine gw_neS ?_ | refine gw_inC ?_ | refine gw_ninC ?_ | refine gw_ltS ?_ | refine gw_inL ?_ | refine gw_ninL ?_ | refine gw_sorted ?_ | refine gw_sortedT ?_ | refine gw_keys ?_ | refine gw_eqB ?_ | refine gw_neB ?_
        | refine gb_ltI ?_ | refine gb_leI ?_ | refine gb_gtI ?_ | refine gb_geI ?_ | refine gb_eqI ?_ | refine gb_neI ?_ | refine gb_eqS ?_ | refine gb_neS ?_ | refine gb_inC ?_ | refine gb_ninC ?_ | refine gb_inL ?_ | refine gb_ninL ?_ | refine gb_bl ?_ | refine gt_bl ?_ | refine gt_int ?_ | refine gt_lst ?_ | refine gt_tup ?_
        | refine gw_asI ?_ | refine gw_slT ?_ | refine gw_slL ?_ | refine gw_lenL ?_ | refine gw_lenT ?_ | refine gw_tuple ?_ | refine gw_tupleT ?_ | refine gw_tupleEnd ?_ | refine gw_lenEnd ?_ | refine gw_all ?_ | refine gw_any ?_ | refine gw_sum ?_ | refine gw_intI ?_ | refine gw_intB ?_ | refine gw_ix0L ?_ | refine gw_ix0T ?_ | refine gw_ix1L ?_ | refine gw_ix1T ?_ | refine gw_ix2L ?_ | refine gw_ix2T ?_))
    | ((with_reducible apply wp_v); (· rfl))
    | (with_reducible refine wp_appA ?_)
    | (with_reducible refine wp_mtS ?_)
    | (refine wp_fO (by rfl) (by rfl) ?_)
    | (refine wp_mO (by rfl) (by rfl) ?_)
    | (with_reducible first | refine gw_addS ?_ | refine gw_addL ?_ | refine gw_addT ?_ | refine gw_mulR ?_ | refine gw_mulL ?_ | refine gw_modI ?_ | refine gw_fdivI ?_ | refine gw_tup ?_ | refine gw_lst ?_ | refine gw_lenS ?_ | refine gw_slTo ?_ | refine gw_slFrom ?_ | refine gw_slFT ?_ | refine gw_slS ?_ | refine gw_pow ?_ | refine gw_swap ?_ | refine gw_isup ?_ | refine gw_upper1 ?_ | refine gw_lower1 ?_ | refine gw_upper ?_ | refine gw_lower ?_ | refine gw_str ?_ | refine gw_mulS ?_)
    | (refine ⟨rfl, ?_⟩))
  | `(tactic| sizeOf_list_dec) => `(tactic| (refine wp_def ?_; simp only [startD, List.map_cons, List.map_nil, List.length_cons, List.length_nil, Nat.reduceAdd, Nat.reduceSub, List.replicate_succ, List.replicate_zero, List.cons_append, List.nil_append, Nat.zero_add]))
section
variable {A : Ad} {U S S' : Store} {Q : SL.D → Store → Prop} {X : Ex → Store → Prop} {ws t : List Nat} {c : Nat}
end
end NC
namespace NC
open PySem PySem.Spec L2 SL
end NC
namespace SL
open PySem PySem.Spec L2
open PyProof.Rows hiding St
end SL
namespace NC
open PySem PySem.Spec L2 SL
end NC
namespace SL
open PySem PySem.Spec L2
open PyProof.Rows hiding St
section
variable {X : Cx} {W : WX} {a b : Expr} {ma mb : ME} {pos : Pos} {k : Nat} {f C : Addr} {fd : FuncData} {ps : List Str} {φ : Fn}
end
end SL
namespace HO
open PySem PySem.Spec PyProof.Rows PySem.SeqAt
section
variable {prog : Program} {w : World} {A : Around} {E : Value → Shared → Prop} {s : Shared} {K : PySem.W.Frag} {x C f : Addr} {b : Value} {ox : Obj} {od : Option Obj}
end
end HO
namespace SL
open PySem PySem.Spec L2
open PyProof.Rows hiding St
section
variable {X : Cx} {W : WX} {a b : Expr} {ma mb : ME} {pos : Pos} {k : Nat} {f C : Addr} {fd : FuncData} {ps : List Str} {φ : Fn}
end
structure IsoF (K : PySem.W.Frag) (C : Addr) : Prop where
  cl : Cls K C
  ha : PySem.W.findIn K (.ref C) "__class__" = some (some (.builtin "object.__class__"))
  hn : PySem.W.specialIn K (.builtin "object.__class__") "__get__" = some (some (.builtin "getset_descriptor.__get__"))
  htk : PySem.W.takesIn K (.builtin "object.__class__") = some true
  hm : PySem.W.mroIn K C (.type "object") = some true
  tc : ((PySem.W.clsIn K C).isSome && PySem.W.typeIn K (.ref C) == some (.type "type")) = true
structure OeqF (K : PySem.W.Frag) (C f : Addr) : Prop where
  eq : PySem.W.findIn K (.ref C) "__eq__" = some (some (.ref f))
  fn : PySem.W.isFn K (.ref f) = true
  ne : PySem.W.findIn K (.ref C) "__ne__" = some (some (.builtin "object.__ne__"))
  ob : PySem.W.mroIn K C (.type "object") = some true
section
variable {X : Cx} {W : WX} {a b : Expr} {ma mb : ME} {pos : Pos} {k : Nat} {f C : Addr} {fd : FuncData} {ps : List Str} {φ : Fn}
end
end SL
namespace NC
open PySem PySem.Spec L2 SL
end NC
namespace SL
open PySem PySem.Spec L2
open PyProof.Rows hiding St
end SL
namespace NC
open PySem PySem.Spec L2 SL
end NC
namespace SL
open PySem PySem.Spec L2
open PyProof.Rows hiding St
section
variable {X : Cx} {W : WX} {e : Expr} {es : List Expr} {ms : MA} {x : Str} {p pos : Pos}
end
end SL
namespace NC
open PySem PySem.Spec L2 SL
end NC
namespace NC
open PySem PySem.Spec L2 SL Hal
local macro_rules
  | `(tactic| infer_instance) => `(tactic| first
    | ((with_reducible first
        | refine wf_seq ?_ | refine wf_if ?_ | refine wp_ifM ?_ | refine wp_appN ?_ | refine wf_asg ?_ | refine wf_ret ?_ | refine wf_retN ?_ | refine wf_expr ?_ | refine wf_nxM ?_ | refine wf_ctM ?_ | refine wf_bkM ?_ | refine wf_asgT ?_ | refine wf_raise ?_
        | refine wp_op2 ?_ | refine wp_op1 ?_ | refine wp_callG ?_ | refine wp_cons ?_ | refine wp_nil ?_ | refine wp_c ?_ | refine wp_cmpB ?_ | refine wp_trM ?_ | refine wp_notB ?_ | refine wp_andB ?_ | refine wp_orB ?_ | refine wp_andM ?_ | refine wp_orM ?_ | refine wp_notM ?_ | refine wp_ch ?_ | refine wp_sl ?_ | refine wp_soO ?_ | refine wp_noO ?_ | refine wp_fmt ?_ | refine wp_callKG ?_ | refine wp_yes ?_ | refine wp_mkx ?_ | refine wp_bM ?_ | refine wp_freeze ?_ | refine wf_par ?_ | refine wf_asgU ?_
        | refine gw_addI ?_ | refine gw_subI ?_ | refine gw_ltI ?_ | refine gw_leI ?_ | refine gw_gtI ?_ | refine gw_geI ?_ | refine gw_eqI ?_ | refine gw_neI ?_ | refine gw_eqS ?_ | refine gw_neS ?_ | refine gw_inC ?_ | refine gw_ninC ?_ | refine gw_ltS ?_ | refine gw_inL ?_ | refine gw_ninL ?_ | refine gw_sorted ?_ | refine gw_sortedT ?_ | refine gw_keys ?_ | refine gw_eqB ?_ | refine gw_neB ?_
        | refine gb_ltI ?_ | refine gb_leI ?_ | refine gb_gtI ?_ | refine gb_geI ?_ | refine gb_eqI ?_ | refine gb_neI ?_ | refine gb_eqS ?_ | refine gb_neS ?_ | refine gb_inC ?_ | refine gb_ninC ?_ | refine gb_inL ?_ | refine gb_ninL ?_ | refine gb_bl ?_ | refine gt_bl ?_ | refine gt_int ?_ | refine gt_lst ?_ | refine gt_tup ?_
        | refine gw_asI ?_ | refine gw_slT ?_ | refine gw_slL ?_ | refine gw_lenL ?_ | refine gw_lenT ?_ | refine gw_tuple ?_ | refine gw_tupleT ?_ | refine gw_tupleEnd ?_ | refine gw_lenEnd ?_ | refine gw_all ?_ | refine gw_any ?_ | refine gw_sum ?_ | refine gw_intI ?_ | refine gw_intB ?_ | refine gw_ix0L ?_ | refine gw_ix0T ?_ | refine gw_ix1L ?_ | refine gw_ix1T ?_ | refine gw_ix2L ?_ | refine gw_ix2T ?_))
    | ((with_reducible apply wp_v); (· rfl))
    | (with_reducible refine wp_appA ?_)
    | (with_reducible refine wp_mtS ?_)
    | (refine wp_fO (by rfl) (by rfl) ?_)
    | (refine wp_mO (by rfl) (by rfl) ?_)
    | (with_reducible first | refine gw_addS ?_ | refine gw_addL ?_ | refine gw_addT ?_ | refine gw_mulR ?_ | refine gw_mulL ?_ | refine gw_modI ?_ | refine gw_fdivI ?_ | refine gw_tup ?_ | refine gw_lst ?_ | refine gw_lenS ?_ | refine gw_slTo ?_ | refine gw_slFrom ?_ | refine gw_slFT ?_ | refine gw_slS ?_ | refine gw_pow ?_ | refine gw_swap ?_ | refine gw_isup ?_ | refine gw_upper1 ?_ | refine gw_lower1 ?_ | refine gw_upper ?_ | refine gw_lower ?_ | refine gw_str ?_ | refine gw_mulS ?_)
    | (refine ⟨rfl, ?_⟩))
  | `(tactic| sizeOf_list_dec) => `(tactic| (refine wp_def ?_; simp only [startD, List.map_cons, List.map_nil, List.length_cons, List.length_nil, Nat.reduceAdd, Nat.reduceSub, List.replicate_succ, List.replicate_zero, List.cons_append, List.nil_append, Nat.zero_add]))
section
variable {A : Ad} {U S S' : Store} {Q : SL.D → Store → Prop} {X : Ex → Store → Prop} {ws : List Nat} {bars : List (List Nat)} {F : Nat → List Nat} {P r g x y a : List Nat} {Ts Ps : List (List Nat)} {n j k p m : Nat} {al f : Nat → Bool}
def runM : List (List Nat) → Nat → List Nat → List Nat
  | [], _, x => x
  | t :: Ts, m, x => runM Ts (m / 2) (if m % 2 = 1 then x else wr x t)
def bitB (m p : Nat) : Bool := decide ((m / 2 ^ p) % 2 = 1)
end
section
variable {A : Ad} {U S S' : Store} {Q : SL.D → Store → Prop} {X : Ex → Store → Prop} {ws : List Nat} {bars : List (List Nat)} {F : Nat → List Nat} {P r g x y a t : List Nat} {Ts Ps : List (List Nat)} {n j k p m : Nat} {al f : Nat → Bool}
end
section
variable {A : Ad} {U S S' : Store} {Q : SL.D → Store → Prop} {X : Ex → Store → Prop} {ws : List Nat} {bars : List (List Nat)} {F : Nat → List Nat} {P r g x y a t : List Nat} {Ts Ps ks R : List (List Nat)} {n j k p m : Nat} {al f : Nat → Bool}
theorem wf_setD {δ : DEnv} {mo mi mv : ME} {N B C : DEnv → Store → Prop} {RR : SL.D → Store → Prop} {Y : Ex → DEnv → Store → Prop} (h : wp (mv δ S) (fun d S1 => wp (mo δ S1) (fun x S2 => wp (mi δ S2) (fun y S3 => ∃ n kk ds k, x = .loc n ∧ S3[n]? = some (.dct kk ds) ∧ keyD y = some k ∧ kk.length < 1000000 ∧ N δ (S3.set n (.dct (putD kk ds k d).1 (putD kk ds k d).2))) (fun x S1 => Y x δ S1)) (fun x S1 => Y x δ S1)) (fun x S1 => Y x δ S1)) : wf (setXM mo mi mv δ S) N RR Y B C :=
  wf_bind (wp_q h fun d S1 h => wf_bind (wp_q h fun x S2 h => wf_bind (wp_q h fun y S3 h => by
    obtain ⟨n, kk, ds, k, rfl, e, ek, hl, h⟩ := h
    have e1 : locL S3 (.loc n) = none := by simp only [locL, e]
    have e2 : locD S3 (.loc n) = some (n, kk, ds) := by simp only [locD, e]
    simp only [e1, e2, ek]
    rw [if_pos hl]
    exact h)))
theorem ok_strs (L : List (List Nat)) : okL 0 (L.map SL.D.str) = true := okL_iff.mpr fun d hd => by
  obtain ⟨z, _, rfl⟩ := List.mem_map.mp hd
  rfl
theorem rng_it (n : Nat) : items S (.rng 0 1 n) = some ((List.range n).map dI) := by
  show some ((List.range n).map _) = _
  simp
end
section
variable {A : Ad} {U S S' : Store} {Q : SL.D → Store → Prop} {X : Ex → Store → Prop} {ws : List Nat} {bars : List (List Nat)} {F : Nat → List Nat} {P r g f L : List Nat} {Ts Ps : List (List Nat)}
end
section
variable {A : Ad} {U S S' : Store} {Q : SL.D → Store → Prop} {X : Ex → Store → Prop} {ws : List Nat} {bars : List (List Nat)} {F : Nat → List Nat} {P r g x y a t : List Nat} {Ts Ps ks R : List (List Nat)} {n j k p m : Nat} {al f : Nat → Bool}
end
section
variable {A : Ad} {U S S' : Store} {Q : SL.D → Store → Prop} {X : Ex → Store → Prop} {ws : List Nat} {c : Nat} {bars : List (List Nat)} {F : Nat → List Nat} {P r g L t : List Nat} {n : Nat}
structure Trn (ws t : List Nat) : Prop where
  len : t.length = ws.length
  sd : ∀ c ∈ t, Sd ws c
  pm : (t.map loL).Perm ws
def gs (ws t : List Nat) (c : Nat) : Nat := if loL c = c then t.getD (ws.idxOf (loL c)) 0 else swL (t.getD (ws.idxOf (loL c)) 0)
theorem gs_at (hw : Wls ws) (h : Trn ws t) (hc : Sd ws c) : ∃ i s, i < ws.length ∧ ws[i]? = some (loL c) ∧ t[i]? = some s ∧ t.getD (ws.idxOf (loL c)) 0 = s := by
  have hi : ws.idxOf (loL c) < ws.length := List.idxOf_lt_length_iff.mpr hc
  have ht : ws.idxOf (loL c) < t.length := by rw [h.len]; exact hi
  refine ⟨ws.idxOf (loL c), t[ws.idxOf (loL c)], hi, ?_, List.getElem?_eq_getElem ht, ?_⟩
  · rw [List.getElem?_eq_getElem hi, List.getElem_idxOf hi]
  · rw [List.getD_eq_getElem?_getD, List.getElem?_eq_getElem ht]
    rfl
theorem gs_sw (hw : Wls ws) (h : Trn ws t) (hc : Sd ws c) : gs ws t (swL c) = swL (gs ws t c) := by
  obtain ⟨i, s, _, _, hs, e⟩ := gs_at hw h hc
  have h1 := h.sd s (List.mem_of_getElem? hs)
  unfold gs
  rw [lo_sw hw hc, e]
  rcases sd_cases hw hc with ⟨a1, a2, a3, a4⟩ | ⟨a1, a2, a3, a4⟩
  · rw [if_pos a3, if_neg (by rw [a3, a4]; omega)]
  · rw [if_pos (by omega), if_neg (by omega), sw_sw hw h1]
def Gt (ws t : List Nat) (ks : List Key) (ds : List SL.D) : Prop := ks.length = ds.length ∧ okL 0 ds = true ∧ ∀ c, Sd ws c → lookK ks ds (kS c) = some (.str [gs ws t c])
theorem gs_small (hw : Wls ws) (h : Trn ws t) {i w s : Nat} (h1 : ws[i]? = some w) (h2 : t[i]? = some s) : gs ws t w = s ∧ gs ws t (swL w) = swL s := by
  have hwm := List.mem_of_getElem? h1
  obtain ⟨sd1, lo1, _⟩ := sd_small hw hwm
  have nd : ws.Nodup := hw.1.imp fun h => Nat.ne_of_lt h
  have hil := (List.getElem?_eq_some_iff.mp h1).1
  have e : gs ws t w = s := by
    unfold gs
    have : ws.idxOf w = i := by
      have := nd.idxOf_getElem i hil
      rw [(List.getElem?_eq_some_iff.mp h1).2] at this
      exact this
    rw [lo1, if_pos rfl, this, List.getD_eq_getElem?_getD, h2]
    rfl
  exact ⟨e, by rw [gs_sw hw h sd1, e]⟩
def GtN (ws t : List Nat) (n : Nat) (ks : List Key) (ds : List SL.D) : Prop := ks.length = ds.length ∧ ks.length ≤ 2 * n + 24 ∧ okL 0 ds = true ∧ ∀ (i w s : Nat), i < n → ws[i]? = some w → t[i]? = some s → lookK ks ds (kS w) = some (.str [s]) ∧ lookK ks ds (kS (swL w)) = some (.str [swL s])
theorem GtN.all (hw : Wls ws) (h : Trn ws t) {ks : List Key} {ds : List SL.D} (g : GtN ws t ws.length ks ds) : Gt ws t ks ds := ⟨g.1, g.2.2.1, fun c hc => by
  obtain ⟨i, s, hi, h1, h2, _⟩ := gs_at hw h hc
  obtain ⟨k1, k2⟩ := g.2.2.2 i _ s hi h1 h2
  obtain ⟨e1, e2⟩ := gs_small hw h h1 h2
  obtain ⟨sd1, lo1, _⟩ := sd_small hw hc
  rcases same_wall hw hc sd1 lo1.symm with e | e
  · rw [← e] at e1 k1
    rw [k1, e1]
  · rw [e, k2, e2]⟩
theorem Gt.ix {n : Nat} {ks : List Key} {ds : List SL.D} (g : Gt ws t ks ds) (hc : Sd ws c) {PP : SL.D → Prop} (h : S[n]? = some (.dct ks ds)) (k : PP (.str [gs ws t c])) : GW (ixG S (.loc n) (.str [c])) PP := gw_ixDl h (g.2.2 c hc) k
end
section
variable {A : Ad} {U S S' : Store} {Q : SL.D → Store → Prop} {X : Ex → Store → Prop} {ws : List Nat} {c : Nat} {bars : List (List Nat)} {F : Nat → List Nat} {P r g L t : List Nat} {n : Nat}
end
section
variable {A : Ad} {U S S' : Store} {Q : SL.D → Store → Prop} {X : Ex → Store → Prop} {ws : List Nat} {c : Nat} {bars : List (List Nat)} {F : Nat → List Nat} {P r g L t x : List Nat} {n : Nat}
theorem gw_listS {a : List Nat} {PP : SL.D → Prop} (h : a.length ≤ 1000000) (k : PP (.lst (signs a))) : GW (list3G S [.str a]) PP := ⟨.lst (signs a), by
  show (match (if a.length ≤ 1000000 then some (SL.D.lst (sgD a)) else none) with | some d => some d | none => _) = _
  rw [if_pos h]
  rfl, k⟩
end
section
variable {A : Ad} {U S S' : Store} {Q : SL.D → Store → Prop} {X : Ex → Store → Prop} {ws : List Nat} {c : Nat} {bars : List (List Nat)} {F : Nat → List Nat} {P r g L L' t x : List Nat} {n : Nat}
end
section
variable {A : Ad} {U S S' : Store} {Q : SL.D → Store → Prop} {X : Ex → Store → Prop} {ws : List Nat} {c : Nat} {bars : List (List Nat)} {F : Nat → List Nat} {P r g L x y : List Nat} {Ts Ps ks ks' : List (List Nat)} {n m : Nat} {v v' : List Nat → Nat}
inductive Sto : List (List Nat) → List Nat → List Nat → Nat → Prop where
  | nil {r : List Nat} : Sto [] r r 0
  | hear {Ts : List (List Nat)} {t r y : List Nat} {m : Nat} (h : Sto Ts r y m) : Sto (Ts ++ [t]) r (wr y t) m
  | lose {Ts : List (List Nat)} {t r y : List Nat} {m : Nat} (h : Sto Ts r y m) : Sto (Ts ++ [t]) r y (m + 1)
structure Lea (Ts : List (List Nat)) (r : List Nat) (most : Int) (ks : List (List Nat)) (v : List Nat → Nat) : Prop where
  nd : ks.Nodup
  ok : ∀ x ∈ ks, ((v x : Nat) : Int) ≤ most ∧ Sto Ts r x (v x)
  le : ∀ x m, Sto Ts r x m → ((m : Nat) : Int) ≤ most → x ∈ ks ∧ v x ≤ m
structure Lew (Ts : List (List Nat)) (r : List Nat) (most : Int) (ks : List (List Nat)) (v : List Nat → Nat) : Prop where
  nd : ks.Nodup
  ok : ∀ x ∈ ks, ((v x : Nat) : Int) ≤ most ∧ Sto Ts r x (v x)
end
section
variable {A : Ad} {U S S' : Store} {Q : SL.D → Store → Prop} {X : Ex → Store → Prop} {ws : List Nat} {c : Nat} {bars : List (List Nat)} {F : Nat → List Nat} {P r g L x y : List Nat} {Ts Ps ks ks' : List (List Nat)} {n m mN : Nat} {v v' : List Nat → Nat}
end
section
variable {ws : List Nat} {c s : Nat} {bars : List (List Nat)} {r g t x y : List Nat} {Ts : List (List Nat)} {n m mN i : Nat}
end
end NC
namespace KL
open PySem PySem.Spec PyProof.Rows L2 LamX
section
variable {X : Cx}
end
end KL
namespace SL
open PySem PySem.Spec PyProof.Rows L2 LamX
section
variable {X : Cx} {W : WX}
end
end SL
namespace SL
open PySem PySem.Spec L2
end SL
namespace NC
open PySem PySem.Spec L2 SL Hal
local macro_rules
  | `(tactic| infer_instance) => `(tactic| first
    | ((with_reducible first
        | refine wf_seq ?_ | refine wf_if ?_ | refine wp_ifM ?_ | refine wp_appN ?_ | refine wf_asg ?_ | refine wf_ret ?_ | refine wf_retN ?_ | refine wf_expr ?_ | refine wf_nxM ?_ | refine wf_ctM ?_ | refine wf_bkM ?_ | refine wf_asgT ?_ | refine wf_raise ?_
        | refine wp_op2 ?_ | refine wp_op1 ?_ | refine wp_callG ?_ | refine wp_cons ?_ | refine wp_nil ?_ | refine wp_c ?_ | refine wp_cmpB ?_ | refine wp_trM ?_ | refine wp_notB ?_ | refine wp_andB ?_ | refine wp_orB ?_ | refine wp_andM ?_ | refine wp_orM ?_ | refine wp_notM ?_ | refine wp_ch ?_ | refine wp_sl ?_ | refine wp_soO ?_ | refine wp_noO ?_ | refine wp_fmt ?_ | refine wp_callKG ?_ | refine wp_yes ?_ | refine wp_mkx ?_ | refine wp_bM ?_ | refine wp_freeze ?_ | refine wf_par ?_ | refine wf_asgU ?_
        | refine gw_addI ?_ | refine gw_subI ?_ | refine gw_ltI ?_ | refine gw_leI ?_ | refine gw_gtI ?_ | refine gw_geI ?_ | refine gw_eqI ?_ | refine gw_neI ?_ | refine gw_eqS ?_ | refine gw_neS ?_ | refine gw_inC ?_ | refine gw_ninC ?_ | refine gw_ltS ?_ | refine gw_inL ?_ | refine gw_ninL ?_ | refine gw_sorted ?_ | refine gw_sortedT ?_ | refine gw_keys ?_ | refine gw_eqB ?_ | refine gw_neB ?_
        | refine gb_ltI ?_ | refine gb_leI ?_ | refine gb_gtI ?_ | refine gb_geI ?_ | refine gb_eqI ?_ | refine gb_neI ?_ | refine gb_eqS ?_ | refine gb_neS ?_ | refine gb_inC ?_ | refine gb_ninC ?_ | refine gb_inL ?_ | refine gb_ninL ?_ | refine gb_bl ?_ | refine gt_bl ?_ | refine gt_int ?_ | refine gt_lst ?_ | refine gt_tup ?_
        | refine gw_asI ?_ | refine gw_slT ?_ | refine gw_slL ?_ | refine gw_lenL ?_ | refine gw_lenT ?_ | refine gw_tuple ?_ | refine gw_tupleT ?_ | refine gw_tupleEnd ?_ | refine gw_lenEnd ?_ | refine gw_all ?_ | refine gw_any ?_ | refine gw_sum ?_ | refine gw_intI ?_ | refine gw_intB ?_ | refine gw_ix0L ?_ | refine gw_ix0T ?_ | refine gw_ix1L ?_ | refine gw_ix1T ?_ | refine gw_ix2L ?_ | refine gw_ix2T ?_))
    | ((with_reducible apply wp_v); (· rfl))
    | (with_reducible refine wp_appA ?_)
    | (with_reducible refine wp_mtS ?_)
    | (refine wp_fO (by rfl) (by rfl) ?_)
    | (refine wp_mO (by rfl) (by rfl) ?_)
    | (with_reducible first | refine gw_addS ?_ | refine gw_addL ?_ | refine gw_addT ?_ | refine gw_mulR ?_ | refine gw_mulL ?_ | refine gw_modI ?_ | refine gw_fdivI ?_ | refine gw_tup ?_ | refine gw_lst ?_ | refine gw_lenS ?_ | refine gw_slTo ?_ | refine gw_slFrom ?_ | refine gw_slFT ?_ | refine gw_slS ?_ | refine gw_pow ?_ | refine gw_swap ?_ | refine gw_isup ?_ | refine gw_upper1 ?_ | refine gw_lower1 ?_ | refine gw_upper ?_ | refine gw_lower ?_ | refine gw_str ?_ | refine gw_mulS ?_)
    | (refine ⟨rfl, ?_⟩))
  | `(tactic| sizeOf_list_dec) => `(tactic| (refine wp_def ?_; simp only [startD, List.map_cons, List.map_nil, List.length_cons, List.length_nil, Nat.reduceAdd, Nat.reduceSub, List.replicate_succ, List.replicate_zero, List.cons_append, List.nil_append, Nat.zero_add]))
section
variable {A : Ad} {S : Store} {Q : SL.D → Store → Prop} {X : Ex → Store → Prop} {ws : List Nat} {c i : Nat} {bars : List (List Nat)} {r g t : List Nat} {Ts Ps : List (List Nat)} {m : Nat}
def hrd (Ps : List (List Nat)) (m : Nat) : List (List Nat) := (Ps.map fun P => List.replicate (m + 1) P).flatten
end
section
variable {A : Ad} {U S S' : Store} {Q : SL.D → Store → Prop} {X : Ex → Store → Prop} {ws : List Nat} {c : Nat} {bars : List (List Nat)} {F : Nat → List Nat} {P r g L x y : List Nat} {Ts Ps ks ks' : List (List Nat)} {n m mN : Nat} {v v' : List Nat → Nat}
end
section
variable {A : Ad} {U S S' : Store} {Q : SL.D → Store → Prop} {X : Ex → Store → Prop} {ws : List Nat} {c : Nat} {bars : List (List Nat)} {F : Nat → List Nat} {P r g L x y : List Nat} {Ts Ps ks ks' : List (List Nat)} {n m : Nat} {lo : Int} {v v' : List Nat → Nat}
end
section
variable {A : Ad} {U S S' : Store} {Q : SL.D → Store → Prop} {X : Ex → Store → Prop} {ws : List Nat} {c : Nat} {bars : List (List Nat)} {F : Nat → List Nat} {P r g L x y : List Nat} {Ts Ps ks ks' : List (List Nat)} {n m : Nat} {lo : Int} {v v' : List Nat → Nat}
end
section
variable {ws : List Nat} {bars : List (List Nat)} {r g t x : List Nat} {Ts : List (List Nat)} {n p i : Nat} {lo : Int}
end
section
variable {ws : List Nat} {bars : List (List Nat)} {r g t x y : List Nat} {Ts ks : List (List Nat)} {n p i k m : Nat} {v : List Nat → Nat}
def bits (n m : Nat) : Nat := ((List.range n).filter (bitB m)).length
end
section
variable {A : Ad} {U S S' : Store} {Q : SL.D → Store → Prop} {X : Ex → Store → Prop} {ws : List Nat} {c : Nat} {bars : List (List Nat)} {F : Nat → List Nat} {P r g L x y : List Nat} {Ts Ps ks ks' : List (List Nat)} {n m : Nat} {v v' : List Nat → Nat}
end
section
variable {A : Ad} {S : Store} {Q : SL.D → Store → Prop} {X : Ex → Store → Prop} {ws : List Nat} {bars : List (List Nat)} {r : List Nat} {Ts Ps L : List (List Nat)} {n m j : Nat} {most : Int}
structure FL (Ts : List (List Nat)) (r : List Nat) (most : Int) (j : Nat) (L : List (List Nat)) : Prop where
  nd : L.Nodup
  ok : ∀ x, x ∈ L ↔ ∃ m, m < j ∧ runM Ts m r = x ∧ ((bits Ts.length m : Nat) : Int) ≤ most
end
section
variable {A : Ad} {U S S' : Store} {Q : SL.D → Store → Prop} {X : Ex → Store → Prop} {ws : List Nat} {c : Nat} {bars : List (List Nat)} {F : Nat → List Nat} {P r g L L' t x : List Nat} {n : Nat}
end
section
variable {A : Ad} {U S S' : Store} {Q : SL.D → Store → Prop} {X : Ex → Store → Prop} {ws : List Nat} {c : Nat} {bars : List (List Nat)} {F : Nat → List Nat} {P r g L L' t x : List Nat} {n : Nat}
theorem asQ_end {xs : List SL.D} : asQ (S ++ [.lst xs]) (.loc S.length) = some xs := by
  have : (S ++ [Cell.lst xs])[S.length]? = some (.lst xs) := by simp
  simp only [asQ, asL, this]
end
section
variable {A : Ad} {U S S' : Store} {Q : SL.D → Store → Prop} {X : Ex → Store → Prop} {ws : List Nat} {c : Nat} {bars : List (List Nat)} {F : Nat → List Nat} {P r g L L' t x : List Nat} {n : Nat}
end
section
variable {A : Ad} {U S S' : Store} {Q : SL.D → Store → Prop} {X : Ex → Store → Prop} {ws : List Nat} {c d : Nat} {bars : List (List Nat)} {F : Nat → List Nat} {P r x y : List Nat} {n : Nat}
def sdB (ws : List Nat) : List Nat → Bool
  | [c] => decide (loL c ∈ ws)
  | _ => false
theorem sdB_iff : sdB ws x = true ↔ ∃ c, x = [c] ∧ Sd ws c := by
  match x with
  | [] => simp [sdB]
  | [c] => simp [sdB, Sd]
  | c :: d :: l => simp [sdB]
theorem is_side_any (ha : ∀ c ∈ x, c < 128) (hl : x.length ≤ 1000) (k : Q (.bl (sdB ws x)) S) : wp (φis_side A [.str ws, .str x] S) Q X := by
  by_cases h1 : x.length = 1
  · match x, h1 with
    | [c], _ => exact is_side_wd (ha c (by simp)) k
  · have e : sdB ws x = false := by
      cases h : sdB ws x with
      | false => rfl
      | true =>
        obtain ⟨c, rfl, _⟩ := sdB_iff.mp h
        simp at h1
    rw [e] at k
    sizeOf_list_dec
    unfold m_is_side
    repeat infer_instance
    have e2 : decide (((x.length : Nat) : Int) = 1) = false := decide_eq_false (by omega)
    rw [e2]
    exact ⟨fun h => (by cases h), fun _ => wp_finS rfl k⟩
theorem strange_is (hw : Wls ws) (k : ∀ z, z ∈ lets → z ∉ ws → Q (.str [z]) S) : wp (φlaw_strange A [.str ws] S) Q X := by
  have hwl := hw.2.2
  sizeOf_list_dec
  unfold m_law_strange
  refine wf_ret ?_
  repeat infer_instance
  refine wp_compK lets dS (fun c => !decide (c ∈ ws)) ?_
  refine wp_srcV ?_
  repeat infer_instance
  refine letters_wd ?_
  refine ⟨rfl, fun _ => rfl, by decide, fun c hc acc => ?_, ?_⟩
  · refine gw_bind ?_
    refine wp_cmpB ?_
    repeat infer_instance
    exact fun _ => wp_v rfl ⟨rfl, rfl, rfl⟩
  cases e : lets.filter fun c => !decide (c ∈ ws) with
  | nil =>
    have := nodup_le (K := lets) (L := ws) (lets_up.imp fun h => Nat.ne_of_lt h) fun c hc => by
      apply Classical.byContradiction
      intro hn
      have : c ∈ lets.filter fun c => !decide (c ∈ ws) := List.mem_filter.mpr ⟨hc, by simp [hn]⟩
      rw [e] at this
      simp at this
    have h26 : lets.length = 26 := by decide
    omega
  | cons z l =>
    obtain ⟨hz, hz2⟩ := List.mem_filter.mp (e ▸ List.mem_cons_self .. : z ∈ lets.filter fun c => !decide (c ∈ ws))
    show GW (ixG S (.lst (dS z :: l.map dS)) (.int 0)) _
    exact gw_ix0L (wp_finS rfl (k z hz (by simpa using hz2)))
end
section
variable {A : Ad} {U S S' : Store} {Q : SL.D → Store → Prop} {X : Ex → Store → Prop} {ws : List Nat} {c d : Nat} {bars : List (List Nat)} {F : Nat → List Nat} {P r x y : List Nat} {n : Nat}
abbrev lamN : Str := "law.<locals>.<lambda>"
theorem up_sd (hw : Wls ws) (h : c ∈ ws ++ ws.map upL) : Sd ws c := by
  rcases List.mem_append.mp h with h | h
  · exact (sd_small hw h).1
  · obtain ⟨z, hz, rfl⟩ := List.mem_map.mp h
    obtain ⟨_, _, _, e, s, _⟩ := sd_small hw hz
    rw [e]
    exact s
end
end NC
namespace SL
open PySem PySem.Spec L2
open PyProof.Rows hiding St
structure HdS where
  /-- class, word, whether the handler takes it -/
  ct : List (Addr × List Nat × Bool)
  i : Nat
  hm : Addr → Addr → MS
inductive Hds (X : Cx) : List ExceptHandler → List HdS → Prop
  | nil : Hds X [] []
  | cons {te : Expr} {any : Value → Option Bool} {n : Str} {i : Nat} {b₀ : Stmt} {suite : List Stmt} {pos' : Pos} {ct : List (Addr × List Nat × Bool)} {hm : Addr → Addr → MS} {es : List ExceptHandler} {hs : List HdS}
      (test : TestAs X te any) (hi : X.N[i]? = some n) (hln : X.env.kindOf n = some .local) (hct : ∀ C w b, (C, w, b) ∈ ct → any (.ref C) = some b)
      (hsu : ∀ (a : Addr) (oe : Obj) (C dd : Addr) (pn : List (Addr × Obj)), (∃ w, (C, w, true) ∈ ct) → Zc (.ref C) (some dd) oe → (∃ vs, oe.data = .fields vs) → PSs (X.suite a ((a, oe) :: pn)) (b₀ :: suite) (tS W0 (hm a dd)))
      (hin : ∀ (a dd : Addr) (ns : List Str) (ds : List D) (δ : DEnv) (S : Store), goneF i (hm a dd (δ.set i (some (.exn a dd ns ds))) S) = goneF i (hm 0 0 (δ.set i (some (.exn 0 0 ns ds))) S))
      (rest : Hds X es hs) : Hds X (.ExceptHandler (some te) (some n) (b₀ :: suite) pos' :: es) (⟨ct, i, hm⟩ :: hs)
section
variable {X : Cx} {body suite : List Stmt} {b₀ : Stmt} {pos pos' : Pos} {tb : WX → TS} {Wout : WX} {D : Ends} {pins : List (Addr × Obj)} {es : List ExceptHandler} {hs : List HdS}
end
section
variable {X : Cx} {W : WX} {pos : Pos} {es : List ExceptHandler} {hs : List HdS}
end
end SL
namespace KL
open PySem PySem.Spec PyProof.Rows L2 LamX
section
variable {X : Cx}
def okN (_ : V) (H : Hp) (Q : VK) : Prop := Q .non H
def okT (z : Str) (v : V) (H : Hp) (Q : VK) : Prop := [V.str z, v].length ≤ sizeLine ∧ ∀ p, H p = none → Q (.ref p) (upd H p (.tup [.str z, v]))
end
section
variable {X : Cx} {pins : List (Addr × Obj)} {σ : L2.St} {H : Hp} {s : Shared}
end
end KL
namespace SL
open PySem PySem.Spec PyProof.Rows L2 LamX
section
variable {X Y : Cx} {W : WX} {es : List ExceptHandler} {hs : List HdS} {j n : Nat} {vf : D → D} {OK : V → Hp → VK → Prop}
end
end SL
namespace NC
open PySem PySem.Spec L2 SL Hal
local macro_rules
  | `(tactic| infer_instance) => `(tactic| first
    | ((with_reducible first
        | refine wf_seq ?_ | refine wf_if ?_ | refine wp_ifM ?_ | refine wp_appN ?_ | refine wf_asg ?_ | refine wf_ret ?_ | refine wf_retN ?_ | refine wf_expr ?_ | refine wf_nxM ?_ | refine wf_ctM ?_ | refine wf_bkM ?_ | refine wf_asgT ?_ | refine wf_raise ?_
        | refine wp_op2 ?_ | refine wp_op1 ?_ | refine wp_callG ?_ | refine wp_cons ?_ | refine wp_nil ?_ | refine wp_c ?_ | refine wp_cmpB ?_ | refine wp_trM ?_ | refine wp_notB ?_ | refine wp_andB ?_ | refine wp_orB ?_ | refine wp_andM ?_ | refine wp_orM ?_ | refine wp_notM ?_ | refine wp_ch ?_ | refine wp_sl ?_ | refine wp_soO ?_ | refine wp_noO ?_ | refine wp_fmt ?_ | refine wp_callKG ?_ | refine wp_yes ?_ | refine wp_mkx ?_ | refine wp_bM ?_ | refine wp_freeze ?_ | refine wf_par ?_ | refine wf_asgU ?_
        | refine gw_addI ?_ | refine gw_subI ?_ | refine gw_ltI ?_ | refine gw_leI ?_ | refine gw_gtI ?_ | refine gw_geI ?_ | refine gw_eqI ?_ | refine gw_neI ?_ | refine gw_eqS ?_ | refine gw_neS ?_ | refine gw_inC ?_ | refine gw_ninC ?_ | refine gw_ltS ?_ | refine gw_inL ?_ | refine gw_ninL ?_ | refine gw_sorted ?_ | refine gw_sortedT ?_ | refine gw_keys ?_ | refine gw_eqB ?_ | refine gw_neB ?_
        | refine gb_ltI ?_ | refine gb_leI ?_ | refine gb_gtI ?_ | refine gb_geI ?_ | refine gb_eqI ?_ | refine gb_neI ?_ | refine gb_eqS ?_ | refine gb_neS ?_ | refine gb_inC ?_ | refine gb_ninC ?_ | refine gb_inL ?_ | refine gb_ninL ?_ | refine gb_bl ?_ | refine gt_bl ?_ | refine gt_int ?_ | refine gt_lst ?_ | refine gt_tup ?_
        | refine gw_asI ?_ | refine gw_slT ?_ | refine gw_slL ?_ | refine gw_lenL ?_ | refine gw_lenT ?_ | refine gw_tuple ?_ | refine gw_tupleT ?_ | refine gw_tupleEnd ?_ | refine gw_lenEnd ?_ | refine gw_all ?_ | refine gw_any ?_ | refine gw_sum ?_ | refine gw_intI ?_ | refine gw_intB ?_ | refine gw_ix0L ?_ | refine gw_ix0T ?_ | refine gw_ix1L ?_ | refine gw_ix1T ?_ | refine gw_ix2L ?_ | refine gw_ix2T ?_))
    | ((with_reducible apply wp_v); (· rfl))
    | (with_reducible refine wp_appA ?_)
    | (with_reducible refine wp_mtS ?_)
    | (refine wp_fO (by rfl) (by rfl) ?_)
    | (refine wp_mO (by rfl) (by rfl) ?_)
    | (with_reducible first | refine gw_addS ?_ | refine gw_addL ?_ | refine gw_addT ?_ | refine gw_mulR ?_ | refine gw_mulL ?_ | refine gw_modI ?_ | refine gw_fdivI ?_ | refine gw_tup ?_ | refine gw_lst ?_ | refine gw_lenS ?_ | refine gw_slTo ?_ | refine gw_slFrom ?_ | refine gw_slFT ?_ | refine gw_slS ?_ | refine gw_pow ?_ | refine gw_swap ?_ | refine gw_isup ?_ | refine gw_upper1 ?_ | refine gw_lower1 ?_ | refine gw_upper ?_ | refine gw_lower ?_ | refine gw_str ?_ | refine gw_mulS ?_)
    | (refine ⟨rfl, ?_⟩))
  | `(tactic| sizeOf_list_dec) => `(tactic| (refine wp_def ?_; simp only [startD, List.map_cons, List.map_nil, List.length_cons, List.length_nil, Nat.reduceAdd, Nat.reduceSub, List.replicate_succ, List.replicate_zero, List.cons_append, List.nil_append, Nat.zero_add]))
section
variable {A : Ad} {U S S' S1 : Store} {Q : SL.D → Store → Prop} {X : Ex → Store → Prop} {ws b : List Nat} {c : Nat} {bars : List (List Nat)} {F : Nat → List Nat} {bd : SL.D}
structure BdAt (S : Store) (bd : SL.D) (bars : List (List Nat)) : Prop where
  ns : ∀ l, bd ≠ .str l
  q : asQ S bd = some (bars.map SL.D.str)
theorem BdAt.lst : BdAt S (.lst (bars.map SL.D.str)) bars := ⟨fun l h => (by cases h), rfl⟩
theorem BdAt.tup : BdAt S (.tup (bars.map SL.D.str)) bars := ⟨fun l h => (by cases h), rfl⟩
theorem BdAt.loc {m : Nat} (h : S[m]? = some (.lst (bars.map SL.D.str))) : BdAt S (.loc m) bars := ⟨fun l h => (by cases h), by unfold asQ; simp only [asL, h]⟩
theorem BdAt.app {g : Store} (h : BdAt S bd bars) : BdAt (S ++ g) bd bars := ⟨h.ns, by
  have := h.q
  unfold asQ at this ⊢
  cases bd with
  | loc m =>
    simp only [asL, asT] at this ⊢
    by_cases hm : m < S.length
    · rw [List.getElem?_append_left hm]; exact this
    · rw [List.getElem?_eq_none (by omega)] at this; cases this
  | _ => exact this⟩
theorem BdAt.iter (h : BdAt S bd bars) : iterD S bd = some (bars.map SL.D.str) := by
  unfold iterD
  split
  · exact absurd rfl (h.ns _)
  · exact h.q
theorem gw_bdSl {j : Nat} {PP : SL.D → Prop} (h : BdAt S bd bars) (k : ∀ d', BdAt S d' (bars.take j) → PP d') : GW (slG S bd none (some (j : Int))) PP := by
  have hq := h.q
  have hl : ∀ ds, asL S bd = some ds → ds = bars.map SL.D.str := fun ds e => by
    unfold asQ at hq; rw [e] at hq; exact Option.some.inj hq
  cases bd with
  | str l => exact absurd rfl (h.ns l)
  | tup ds =>
    obtain rfl : ds = bars.map SL.D.str := Option.some.inj hq
    refine ⟨_, rfl, ?_⟩
    rw [cut_to, ← List.map_take]
    exact k _ BdAt.tup
  | lst ds =>
    obtain rfl : ds = bars.map SL.D.str := Option.some.inj hq
    refine ⟨_, rfl, ?_⟩
    rw [cut_to, ← List.map_take]
    exact k _ BdAt.lst
  | loc m =>
    cases e : asL S (.loc m) with
    | none => unfold asQ at hq; rw [e] at hq; cases hq
    | some ds =>
      obtain rfl := hl ds e
      refine ⟨.lst (cutL (bars.map SL.D.str) none (some (j : Int))), by simp only [slG, e], ?_⟩
      rw [cut_to, ← List.map_take]
      exact k _ BdAt.lst
  | _ => cases hq
theorem gb_bdIn {a : List Nat} {PB : Bool → Prop} (h : BdAt S bd bars) (k : PB (decide (a ∈ bars))) : GW (asB (inG S (.str a) bd)) PB := ⟨_, by unfold inG; rw [inB_strs (xs := bars) h.q h.ns]; rfl, k⟩
theorem gw_bdSort {PP : SL.D → Prop} (h : BdAt S bd bars) (k : PP (.lst ((sortT bars).map SL.D.str))) : GW (sortedG S [bd]) PP := ⟨_, by
  unfold sortedG
  simp only [h.q, asSsMap], k⟩
def barB (ws : List Nat) : List Nat → Bool
  | [x, y] => (decide (loL x ∈ ws) && decide (loL y ∈ ws)) && decide (loL x < loL y)
  | _ => false
theorem barB_iff : barB ws b = true ↔ Br ws b := by
  constructor
  · intro h
    match b, h with
    | [x, y], h =>
      simp only [barB, Bool.and_eq_true, decide_eq_true_eq] at h
      exact ⟨x, y, rfl, h.1.1, h.1.2, h.2⟩
  · rintro ⟨x, y, rfl, h1, h2, h3⟩
    simp only [barB, Bool.and_eq_true, decide_eq_true_eq]
    exact ⟨⟨h1, h2⟩, h3⟩
theorem br_asc (hw : Wls ws) (h : Br ws b) : (∀ c ∈ b, c < 128) ∧ b.length ≤ 1000 := by
  obtain ⟨x, y, rfl, h1, h2, _⟩ := h
  refine ⟨fun c hc => ?_, by simp⟩
  simp only [List.mem_cons, List.not_mem_nil, or_false] at hc
  rcases hc with rfl | rfl
  · exact sd_asc hw h1
  · exact sd_asc hw h2
theorem is_bar_any (ha : ∀ c ∈ b, c < 128) (hl : b.length ≤ 1000) (k : Q (.bl (barB ws b)) S) : wp (φis_bar A [.str ws, .str b] S) Q X := by
  by_cases h2 : b.length = 2
  · match b, h2 with
    | [x, y], _ =>
      have hx1 := ha x (by simp)
      have hy1 := ha y (by simp)
      sizeOf_list_dec
      unfold m_is_bar
      repeat infer_instance
      refine ⟨fun _ => ?_, fun h => (by simp at h)⟩
      repeat infer_instance
      refine wp_compE [x, y] (fun c => .str [c]) (fun c => decide (loL c ∈ ws)) SL.D.bl ?_
      refine wp_srcV (wp_v rfl ⟨rfl, fun _ => rfl, by simp, fun z hz acc => ?_, ?_⟩)
      · refine gw_bind ?_
        repeat infer_instance
        refine is_side_wd ?_ ⟨rfl, rfl, rfl⟩
        simp only [List.mem_cons, List.not_mem_nil, or_false] at hz
        rcases hz with rfl | rfl
        · exact hx1
        · exact hy1
      · have e : ([x, y].map fun c => decide (loL c ∈ ws)).all id = (decide (loL x ∈ ws) && decide (loL y ∈ ws)) := by simp
        repeat infer_instance
        rw [e]
        refine ⟨fun hh => ?_, fun hh => ?_⟩
        · repeat infer_instance
          refine gw_ixS (i := 0) rfl ?_
          repeat infer_instance
          refine gw_ixS (i := 1) rfl ?_
          repeat infer_instance
          have e2 : decide ([loL x] < [loL y]) = decide (loL x < loL y) := decide_eq_decide.mpr lt1
          rw [e2]
          refine wp_finS rfl ?_
          simp only [barB, hh, Bool.true_and] at k
          exact k
        · simp only [barB, hh, Bool.false_and] at k
          rw [hh]
          exact wp_finS rfl k
  · have e : barB ws b = false := by
      cases h : barB ws b with
      | false => rfl
      | true =>
        obtain ⟨x, y, rfl, _⟩ := barB_iff.mp h
        simp at h2
    rw [e] at k
    sizeOf_list_dec
    unfold m_is_bar
    repeat infer_instance
    have e2 : decide (((b.length : Nat) : Int) = 2) = false := decide_eq_false (by omega)
    rw [e2]
    exact ⟨fun h => (by cases h), fun _ => wp_finS rfl k⟩
def badB (ws : List Nat) (bars : List (List Nat)) (j : Nat) : Bool := match bars[j]? with
  | some b => !barB ws b || decide (b ∈ bars.take j)
  | none => false
theorem brs_ok (hb : Brs ws bars) {j : Nat} : badB ws bars j = false := by
  unfold badB
  cases e : bars[j]? with
  | none => rfl
  | some b =>
    simp only
    have h1 : barB ws b = true := barB_iff.mpr (hb.1 b (List.mem_of_getElem? e))
    have h2 : b ∉ bars.take j := fun z => by
      obtain ⟨i, hi, e1⟩ := List.getElem_of_mem z
      have hj := (List.getElem?_eq_some_iff.mp e).1
      rw [List.length_take] at hi
      rw [List.getElem_take] at e1
      have := (List.getElem_inj hb.2).mp (e1.trans (List.getElem?_eq_some_iff.mp e).2.symm)
      omega
    rw [h1, decide_eq_false h2]
    rfl
theorem ok_brs (h : ∀ j < bars.length, badB ws bars j = false) : Brs ws bars := by
  have key : ∀ (j : Nat) (hj : j < bars.length), Br ws bars[j] ∧ bars[j] ∉ bars.take j := fun j hj => by
    have := h j hj
    unfold badB at this
    rw [List.getElem?_eq_getElem hj] at this
    simp only [Bool.or_eq_false_iff, Bool.not_eq_false', decide_eq_false_iff_not] at this
    exact ⟨barB_iff.mp this.1, this.2⟩
  refine ⟨fun b hm => ?_, ?_⟩
  · obtain ⟨j, hj, rfl⟩ := List.getElem_of_mem hm
    exact (key j hj).1
  · refine List.pairwise_iff_getElem.mpr fun i j hi hj hij e => ?_
    refine (key j hj).2 ?_
    rw [← e]
    exact List.mem_take_iff_getElem.mpr ⟨i, by omega, rfl⟩
theorem enmT_len : ∀ (xs : List SL.D) (k : Nat), (enmT k xs).length = xs.length
  | [], _ => rfl
  | x :: xs, k => by simp [enmT, enmT_len xs (k + 1)]
theorem look_barsG_wd (hw : Wls ws) (hB : BdAt S bd bars) (ha : ∀ b ∈ bars, (∀ c ∈ b, c < 128) ∧ b.length ≤ 1000) (hn : bars.length ≤ 1000) (k : Brs ws bars → Q .non S) (kx : ∀ j : Nat, badB ws bars j = true → (∀ i < j, badB ws bars i = false) → X ⟨A.BadBar, ["at", "word"], gx_BadBar [.int (j : Nat)]⟩ S) : wp (φlook_bars A [.str ws, bd] S) Q X := by
  sizeOf_list_dec
  unfold m_look_bars
  refine wf_for (fun j δ S' => S' = S ∧ (∀ i < j, badB ws bars i = false) ∧ ∃ y2 y3, δ = [some (.str ws), some bd, y2, y3]) ?_
  refine wp_srcE ?_
  repeat infer_instance
  refine ⟨_, hB.iter, enmT 0 (bars.map SL.D.str), ?_, ⟨rfl, fun i hi => (by omega), _, _, rfl⟩, ?_, ?_⟩
  · rintro k δ S' ⟨rfl, _⟩
    show (match iterD S' bd with | some xs => if xs.length = (bars.map SL.D.str).length then some (enmT 0 xs) else none | none => none) = _
    rw [hB.iter]
    simp only
    rw [if_pos trivial]
  · rintro j d hd δ S' ⟨rfl, hno, y2, y3, rfl⟩
    obtain ⟨b, eb, rfl⟩ := enmT_get bars 0 j d hd
    have hbm := List.mem_of_getElem? eb
    have hbad : badB ws bars j = (!barB ws b || decide (b ∈ bars.take j)) := by unfold badB; rw [eb]
    rw [Nat.zero_add]
    refine gw_bind ?_
    refine wf_if ?_
    repeat infer_instance
    refine is_bar_any (ha b hbm).1 (ha b hbm).2 ?_
    repeat infer_instance
    refine ⟨fun h => ⟨fun _ => ?_, fun z => (by cases z)⟩, fun h => ?_⟩
    · repeat infer_instance
      exact ⟨⟨rfl, rfl⟩, wp_finXS rfl (kx j (by rw [hbad, h]; rfl) hno)⟩
    · repeat infer_instance
      refine gw_bdSl hB fun d' hd' => ?_
      refine gb_bdIn hd' ?_
      refine ⟨fun h2 => ?_, fun h2 => ?_⟩
      · repeat infer_instance
        exact ⟨⟨rfl, rfl⟩, wp_finXS rfl (kx j (by rw [hbad, h2]; simp) hno)⟩
      · repeat infer_instance
        refine ⟨fun i hi => ?_, _, _, rfl⟩
        rcases Nat.lt_or_ge i j with z | z
        · exact hno i z
        · obtain rfl : i = j := by omega
          rw [hbad, h, h2]; rfl
  · rintro δ S' ⟨rfl, hno, _⟩
    exact wp_finS rfl (k (ok_brs (by rwa [enmT_len, List.length_map] at hno)))
theorem straightG_wd (hB : BdAt S bd bars) (hw : Wls ws) (hb : Brs ws bars) (hn : bars.length ≤ 1000) (k : Q (.dct ((sidN ws).map kS) ((sidN ws).map fun s => .lst ((strt (sortT bars) s).map dS))) S) : wp (φstraight_of A [.str ws, bd] S) Q X := by
  have hnd := sidN_nodup hw
  have hsl := sidN_len ws
  have hl := hw.2.2
  sizeOf_list_dec
  unfold m_straight_of
  refine wf_seq (wf_asg ?_)
  refine wp_compD (fun k ks us S' => ks = ((sidN ws).take k).map kS ∧ us = (List.range k).map (fun i => .loc (S.length + 1 + i)) ∧ S' = S ++ (.dct ks us :: List.replicate k (.lst []))) ?_
  refine wp_srcV ?_
  repeat infer_instance
  refine sides_of_wd hw ⟨rfl, (sidN ws).map dS, rfl, fun _ _ _ _ _ => rfl, ⟨by simp, by simp, by simp⟩, ?_, ?_⟩
  · rintro j d hd ks us S' ⟨rfl, rfl, rfl⟩
    rw [List.getElem?_map] at hd
    cases hx : (sidN ws)[j]? with
    | none => rw [hx] at hd; cases hd
    | some x =>
      rw [hx] at hd
      cases hd
      have hj := (List.getElem?_eq_some_iff.mp hx).1
      refine gw_bind ?_
      repeat infer_instance
      refine wp_lstLM ?_
      repeat infer_instance
      refine ⟨by simp, ?_⟩
      have hno : x ∉ (sidN ws).take j := fun z => by
        obtain ⟨i, hi, e⟩ := List.getElem_of_mem z
        rw [List.length_take] at hi
        rw [List.getElem_take] at e
        have := (List.getElem_inj hnd).mp (e.trans (List.getElem?_eq_some_iff.mp hx).2.symm)
        omega
      have hm : memK (((sidN ws).take j).map kS) (kS x) = false := by rw [memK_map]; exact decide_eq_false hno
      refine ⟨kS x, ((sidN ws).take j).map kS, (List.range j).map (fun i => .loc (S.length + 1 + i)), rfl, ?_, ?_, ?_⟩
      · rw [List.append_assoc, List.getElem?_append_right (Nat.le_refl _)]
        simp
      · rw [List.length_map, List.length_take]
        omega
      · unfold putD
        rw [if_neg (by rw [hm]; simp)]
        have hlen : (S ++ (Cell.dct (((sidN ws).take j).map kS) ((List.range j).map fun i => SL.D.loc (S.length + 1 + i)) :: List.replicate j (.lst []))).length = S.length + 1 + j := by simp; omega
        refine ⟨?_, ?_, ?_⟩
        · rw [List.take_succ, hx]; simp
        · rw [List.range_succ, List.map_append, hlen]; rfl
        · rw [hlen, List.append_assoc, List.set_append_right _ _ (Nat.le_refl _), Nat.sub_self]
          simp [List.replicate_succ']
  · rintro ks us S' ⟨rfl, rfl, rfl⟩
    rw [List.length_map, List.take_length]
    have e0 : S ++ (Cell.dct ((sidN ws).map kS) ((List.range (sidN ws).length).map fun i => SL.D.loc (S.length + 1 + i)) :: List.replicate (sidN ws).length (.lst [])) = stS S (sidN ws) (strt ((sortT bars).take 0)) := by
      unfold stS
      congr 2
      exact List.map_const' .. ▸ (by simp [strt])
    rw [e0]
    refine wf_seq ?_
    refine wf_for (fun j δ S' => S' = stS S (sidN ws) (strt ((sortT bars).take j)) ∧ ∃ y3 y4, δ = [some (.str ws), some (bd), some (.loc S.length), y3, y4]) ?_
    refine wp_srcV ?_
    repeat infer_instance
    refine gw_bdSort (show BdAt (stS S (sidN ws) (strt ((sortT bars).take 0))) bd bars from hB.app) ⟨rfl, ?_⟩
    refine ⟨(sortT bars).map SL.D.str, fun _ _ _ _ => rfl, ⟨rfl, _, _, rfl⟩, ?_, ?_⟩
    · rintro j d hd δ S' ⟨rfl, y3, y4, rfl⟩
      rw [List.getElem?_map] at hd
      cases hx : (sortT bars)[j]? with
      | none => rw [hx] at hd; cases hd
      | some b =>
        rw [hx] at hd
        cases hd
        have hj := (List.getElem?_eq_some_iff.mp hx).1
        have hlen : (sortT bars).length = bars.length := (sortT_perm _).length_eq
        have hbm := (sortT_perm _).mem_iff.mp (List.mem_of_getElem? hx)
        obtain ⟨x, y, rfl, hsx, hsy, _⟩ := hb.1 b hbm
        have e1 : (sortT bars).take (j + 1) = (sortT bars).take j ++ [[x, y]] := by rw [List.take_succ, hx]; rfl
        have hx8 := sd_asc hw hsx
        have hy8 := sd_asc hw hsy
        have hl1 := strt_len ((sortT bars).take j) x
        have hl2 := strt_len ((sortT bars).take j) y
        rw [List.length_take] at hl1 hl2
        refine gw_bind ?_
        refine wf_seq (wf_expr ?_)
        refine app_step hnd ((mem_sidN hw).mpr hsx) (by omega) (fun k => wp_v rfl k) (fun k => ?_) (fun k => ?_) ?_ (z := swL y)
        · repeat infer_instance
          refine gw_ixS (i := 0) rfl k
        · repeat infer_instance
          refine gw_ixS (i := 1) rfl ?_
          repeat infer_instance
          exact other_wd hy8 k
        refine wf_expr ?_
        refine app_step hnd ((mem_sidN hw).mpr hsy) ?_ (fun k => wp_v rfl k) (fun k => ?_) (fun k => ?_) ?_ (z := swL x)
        · rw [List.length_append]
          have : (if x = y then [swL y] else []).length ≤ 1 := by split <;> simp
          omega
        · repeat infer_instance
          refine gw_ixS (i := 1) rfl k
        · repeat infer_instance
          refine gw_ixS (i := 0) rfl ?_
          repeat infer_instance
          exact other_wd hx8 k
        refine ⟨?_, _, _, rfl⟩
        rw [e1]
        congr 1
        funext s
        rw [strt_snoc]
    · rintro δ S' ⟨rfl, y3, y4, rfl⟩
      rw [List.length_map, List.take_length]
      repeat infer_instance
      refine wp_ok (fin_cut (S' := S) ?_ rfl Settles.same) k
      show fz S.length (stS S (sidN ws) (strt (sortT bars))) (.loc S.length) = _
      have ho : ¬ okD S.length (.loc S.length) = true := by simp [okD]
      unfold fz fzN
      rw [if_neg ho]
      simp only [stS_dct]
      rw [allO_of (es := (sidN ws).map fun s => .lst ((strt (sortT bars) s).map dS)) (by simp)]
      intro i d e h1 h2
      rw [List.getElem?_map] at h1 h2
      cases hx : (sidN ws)[i]? with
      | none => rw [hx] at h2; cases h2
      | some x =>
        rw [hx] at h2
        cases h2
        have hi := (List.getElem?_eq_some_iff.mp hx).1
        rw [List.getElem?_range hi] at h1
        cases h1
        have ho2 : ¬ okD S.length (.loc (S.length + 1 + i)) = true := by simp [okD]; omega
        unfold fzN
        rw [if_neg ho2]
        simp only [stS_at hx]
        rw [allO_cl (okL_iff.mpr fun d hd => by
          obtain ⟨z, _, rfl⟩ := List.mem_map.mp hd
          rfl)]
end
section
variable {A : Ad} {U S S' : Store} {Q : SL.D → Store → Prop} {X : Ex → Store → Prop}
inductive Pa (g : Nat → List Nat) (s : Nat) : Nat → List Nat → Prop
  | self : Pa g s s [s]
  | step {t u : Nat} {l : List Nat} (h : Pa g s t l) (e : u ∈ g t) : Pa g s u (l ++ [u])
structure Bf (g : Nat → List Nat) (s : Nat) (K W : List Nat) (ch : Nat → List Nat) : Prop where
  pa : ∀ t ∈ K, Pa g s t (ch t)
  wk : ∀ w ∈ W, w ∈ K
  m1 : W.Pairwise fun a b => (ch a).length ≤ (ch b).length
  m2 : ∀ k ∈ K, k ∉ W → ∀ w ∈ W, (ch k).length ≤ (ch w).length
  m3 : ∀ a ∈ W, ∀ b ∈ W, (ch b).length ≤ (ch a).length + 1
  m4 : ∀ k ∈ K, k ∉ W → ∀ t ∈ g k, t ∈ K ∧ (ch t).length ≤ (ch k).length + 1
  s1 : s ∈ K ∧ (ch s).length = 1
  n1 : ∀ k ∈ K, 1 ≤ (ch k).length
structure Bi (g : Nat → List Nat) (s h : Nat) (K W : List Nat) (ch : Nat → List Nat) : Prop where
  pa : ∀ t ∈ K, Pa g s t (ch t)
  hh : h ∈ K
  wk : ∀ w ∈ W, w ∈ K
  i1 : W.Pairwise fun a b => (ch a).length ≤ (ch b).length
  i2 : ∀ k ∈ K, k ∉ W → ∀ w ∈ W, (ch k).length ≤ (ch w).length
  i3 : ∀ w ∈ W, (ch h).length ≤ (ch w).length
  i5 : ∀ k ∈ K, (ch k).length ≤ (ch h).length + 1
  m4 : ∀ k ∈ K, k ∉ W → k ≠ h → ∀ t ∈ g k, t ∈ K ∧ (ch t).length ≤ (ch k).length + 1
  s1 : s ∈ K ∧ (ch s).length = 1
  n1 : ∀ k ∈ K, 1 ≤ (ch k).length
section
variable {g : Nat → List Nat} {s h t : Nat} {K W l : List Nat} {ch : Nat → List Nat}
theorem Bf.start : Bf g s [s] [s] (fun _ => [s]) where
  pa := fun t ht => by rw [List.mem_singleton.mp ht]; exact .self
  wk := fun w h => h
  m1 := by simp
  m2 := fun k hk hn => absurd hk hn
  m3 := fun _ _ _ _ => by simp
  m4 := fun k hk hn => absurd hk hn
  s1 := ⟨by simp, rfl⟩
  n1 := fun _ _ => Nat.le_refl _
theorem Bf.pop (B : Bf g s K (h :: W) ch) (hh : h ∈ K) (hW : ∀ k ∈ W, k ∈ K) : Bi g s h K W ch := by
  obtain ⟨p1, p2⟩ := List.pairwise_cons.mp B.m1
  refine ⟨B.pa, hh, hW, p2, fun k hk hkW w hw => ?_, p1, fun k hk => ?_, fun k hk hkW hkh => B.m4 k hk (by simp [hkW, hkh]), B.s1, B.n1⟩
  · by_cases e : k = h
    · rw [e]; exact p1 w hw
    · exact B.m2 k hk (by simp [hkW, e]) w (List.mem_cons_of_mem _ hw)
  · by_cases e : k ∈ h :: W
    · exact B.m3 h (by simp) k e
    · have := B.m2 k hk e h (by simp)
      omega
theorem Bi.add (B : Bi g s h K W ch) (ht : t ∉ K) (htg : t ∈ g h) : Bi g s h (K ++ [t]) (W ++ [t]) (fun c => if c = t then ch h ++ [t] else ch c) := by
  generalize hf : (fun c => if c = t then ch h ++ [t] else ch c) = f
  have ne : ∀ k ∈ K, f k = ch k := fun k hk => by
    rw [← hf]
    exact if_neg fun (e : k = t) => ht (by rw [← e]; exact hk)
  have ft : f t = ch h ++ [t] := by rw [← hf]; exact if_pos rfl
  have lt : (f t).length = (ch h).length + 1 := by rw [ft]; simp
  have eh : f h = ch h := ne h B.hh
  have inK : ∀ {k : Nat}, k ∈ K ++ [t] → k ≠ t → k ∈ K := fun {k} hk hkt => by
    rcases List.mem_append.mp hk with z | z
    · exact z
    · exact absurd (List.mem_singleton.mp z) hkt
  constructor
  · intro k hk
    rcases List.mem_append.mp hk with z | z
    · rw [ne k z]; exact B.pa k z
    · rw [List.mem_singleton.mp z, ft]; exact .step (B.pa h B.hh) htg
  · exact List.mem_append_left _ B.hh
  · intro w hw
    rcases List.mem_append.mp hw with z | z
    · exact List.mem_append_left _ (B.wk w z)
    · exact List.mem_append_right _ z
  · rw [List.pairwise_append]
    refine ⟨B.i1.imp_of_mem fun {a b} ha hb hab => ?_, by simp, fun a ha c hc => ?_⟩
    · rw [ne a (B.wk a ha), ne b (B.wk b hb)]; exact hab
    · rw [List.mem_singleton.mp hc, lt, ne a (B.wk a ha)]
      exact B.i5 a (B.wk a ha)
  · intro k hk hkW w hw
    have hkt : k ≠ t := fun e => hkW (by rw [e]; simp)
    have hkK := inK hk hkt
    rw [ne k hkK]
    rcases List.mem_append.mp hw with z | z
    · rw [ne w (B.wk w z)]
      exact B.i2 k hkK (fun y => hkW (List.mem_append_left _ y)) w z
    · rw [List.mem_singleton.mp z, lt]
      exact B.i5 k hkK
  · intro w hw
    rw [eh]
    rcases List.mem_append.mp hw with z | z
    · rw [ne w (B.wk w z)]; exact B.i3 w z
    · rw [List.mem_singleton.mp z, lt]; omega
  · intro k hk
    rw [eh]
    rcases List.mem_append.mp hk with z | z
    · rw [ne k z]; exact B.i5 k z
    · rw [List.mem_singleton.mp z, lt]; exact Nat.le_refl _
  · intro k hk hkW hkh u hu
    have hkt : k ≠ t := fun e => hkW (by rw [e]; simp)
    have hkK := inK hk hkt
    obtain ⟨h1, h2⟩ := B.m4 k hkK (fun y => hkW (List.mem_append_left _ y)) hkh u hu
    rw [ne k hkK, ne u h1]
    exact ⟨List.mem_append_left _ h1, h2⟩
  · rw [ne s B.s1.1]
    exact ⟨List.mem_append_left _ B.s1.1, B.s1.2⟩
  · intro k hk
    rcases List.mem_append.mp hk with z | z
    · rw [ne k z]; exact B.n1 k z
    · rw [List.mem_singleton.mp z, lt]; omega
theorem Bi.fin (B : Bi g s h K W ch) (hW : ∀ k ∈ W, k ∈ K) (ct : ∀ t ∈ g h, t ∈ K) : Bf g s K W ch where
  pa := B.pa
  wk := hW
  m1 := B.i1
  m2 := B.i2
  m3 := fun a ha b hb => by
    have := B.i3 a ha
    have := B.i5 b (hW b hb)
    omega
  m4 := fun k hk hkW t ht => by
    by_cases e : k = h
    · subst e
      exact ⟨ct t ht, B.i5 t (ct t ht)⟩
    · exact B.m4 k hk hkW e t ht
  s1 := B.s1
  n1 := B.n1
theorem Bf.short (B : Bf g s K [] ch) : ∀ t, ∀ l, Pa g s t l → t ∈ K ∧ (ch t).length ≤ l.length := fun t l h => by
  induction h with
  | self => exact ⟨B.s1.1, by rw [B.s1.2]; simp⟩
  | step _ e ih =>
    obtain ⟨h1, h2⟩ := B.m4 _ ih.1 (by simp) _ e
    exact ⟨h1, by rw [List.length_append, List.length_singleton]; omega⟩
end
theorem chainsP_wd {sd : List Nat} {g : Nat → List Nat} {s : Nat} (hg : ∀ k ∈ sd, ∀ t ∈ g k, t ∈ sd) (hs : s ∈ sd) (hN : sd.length ≤ 1000)
    (k : ∀ (K : List Nat) (ch : Nat → List Nat), K.Nodup → (∀ t, t ∈ K ↔ Rg g s t) → (∀ t ∈ K, t ∈ sd) → (∀ t ∈ K, Pa g s t (ch t)) → (∀ t ∈ K, ∀ l, Pa g s t l → (ch t).length ≤ l.length) → Q (.dct (K.map kS) (K.map fun c => .lst ((ch c).map dS))) S) : wp (φchains_from A [.dct (sd.map kS) (sd.map fun s => .lst ((g s).map dS)), .str [s]] S) Q X := by
  sizeOf_list_dec
  unfold m_chains_from
  generalize hst : SL.D.dct (sd.map kS) (sd.map fun s => .lst ((g s).map dS)) = dst
  refine wf_seq (wf_asg ?_)
  refine wp_disp (wp_pcons ?_)
  repeat infer_instance
  refine wp_pnil ⟨[(kS s, .lst [dS s])], rfl, by simp, by simp, ?_⟩
  have e0 : (S ++ [Cell.dct [] []]).set S.length (.dct (mergeD [] [] [(kS s, .lst [dS s])]).1 (mergeD [] [] [(kS s, .lst [dS s])]).2) = S ++ [chC [s] (fun _ => [s])] := by
    rw [List.set_append_right _ _ (Nat.le_refl _), Nat.sub_self]
    rfl
  rw [e0]
  refine wf_seq (wf_asg ?_)
  refine wp_lstLM ?_
  repeat infer_instance
  refine ⟨by simp, ?_⟩
  have e1 : S ++ [chC [s] (fun _ => [s])] ++ [.lst [dS s]] = chS S [s] (fun _ => [s]) [] [s] := by simp [chS]
  rw [e1]
  have e2 : (S ++ [chC [s] (fun _ => [s])]).length = S.length + 1 + ([] : Store).length := by simp
  rw [e2]
  refine wf_seq ?_
  refine wf_while (n := 2 * sd.length + 1) (fun μ δ S' => ∃ K ch gb W y4 y5, δ = [some dst, some (dS s), some (.loc S.length), some (.loc (S.length + 1 + gb.length)), y4, y5] ∧ S' = chS S K ch gb W ∧ ChI sd g s K W ch ∧ (∀ k ∈ K, k ∉ W → ∀ t ∈ g k, t ∈ K) ∧ 2 * (sd.length - K.length) + W.length ≤ μ ∧ μ ≤ 2 * sd.length + 1 ∧ Bf g s K W ch) ?_ ?_
  · refine ⟨[s], _, [], [s], _, _, rfl, rfl, ⟨by simp, by simpa using hs, by simp, by simp, fun k hk => ?_, by simp⟩, ?_, ?_⟩
    · rw [List.mem_singleton.mp hk]; exact .self
    · intro k hk hk2
      exact absurd hk hk2
    · refine ⟨?_, ?_, Bf.start⟩ <;> (simp; try omega)
  · rintro μ δ S' ⟨K, ch, gb, W, y4, y5, rfl, rfl, I, cl, hμ, hμ2, BF⟩
    have hKl := nodup_le I.nd I.sub
    refine wp_trM (wp_v rfl (gt_loc chS_w ?_))
    refine ⟨fun hW => ?_, fun hW => ?_⟩
    · cases W with
      | nil => simp at hW
      | cons h W =>
        refine ⟨μ - 1, by simp at hμ; omega, ?_⟩
        refine wf_seq (wf_asgSL (wp_v rfl ?_))
        refine ⟨(h :: W).map dS, by simp only [asL, chS_w], by simp, ?_⟩
        refine ⟨_, rfl, ?_⟩
        have hh : h ∈ K := I.wk h (by simp)
        rw [chS_len, show ((h :: W).map dS).drop 1 = W.map dS from rfl, chS_star]
        have el : S.length + 1 + gb.length + 1 = S.length + 1 + (gb ++ [Cell.lst ((h :: W).map dS)]).length := by simp; omega
        rw [el]
        generalize gb ++ [Cell.lst ((h :: W).map dS)] = gb2
        refine wf_for (fun j δ S' => ∃ K ch W y5, δ = [some dst, some (dS s), some (.loc S.length), some (.loc (S.length + 1 + gb2.length)), some (dS h), y5] ∧ S' = chS S K ch gb2 W ∧ ChI sd g s K W ch ∧ h ∈ K ∧ (∀ k ∈ K, k ∉ W → k ≠ h → ∀ t ∈ g k, t ∈ K) ∧ (∀ t ∈ (g h).take j, t ∈ K) ∧ 2 * (sd.length - K.length) + W.length ≤ μ - 1 ∧ Bi g s h K W ch ∧ ∀ t ∈ (g h).take j, t ∈ K) ?_
        refine wp_srcV ?_
        repeat infer_instance
        rw [← hst]
        refine gw_ixD (fun s => .lst ((g s).map dS)) (I.sub h hh) ?_
        rw [hst]
        refine ⟨rfl, (g h).map dS, fun _ _ _ _ => rfl, ⟨K, ch, W, _, rfl, rfl, ⟨I.nd, I.sub, fun k hk => I.wk k (List.mem_cons_of_mem _ hk), I.hs, I.rch, I.len⟩, hh, ?_, by simp, by simp at hμ; omega, BF.pop hh fun k hk => I.wk k (List.mem_cons_of_mem _ hk), by simp⟩, ?_, ?_⟩
        · intro k hk hkW hkh
          exact cl k hk (by simp [hkW, hkh])
        · rintro j d hd δ S' ⟨K, ch, W, y5, rfl, rfl, I, hh, cl, ct, hμ, BI, _⟩
          have hKl := nodup_le I.nd I.sub
          rw [List.getElem?_map] at hd
          cases hx : (g h)[j]? with
          | none => rw [hx] at hd; cases hd
          | some t =>
            rw [hx] at hd
            cases hd
            have htg := List.mem_of_getElem? hx
            have etk : (g h).take (j + 1) = (g h).take j ++ [t] := by rw [List.take_succ, hx]; rfl
            refine gw_bind ?_
            refine wf_if ?_
            repeat infer_instance
            refine gb_ninD (l := K) chS_dct ?_
            refine ⟨fun hc => ?_, fun hc => ?_⟩
            · have ht : t ∉ K := by simpa using hc
              refine wf_seq (wf_setD ?_)
              repeat infer_instance
              refine gw_ixDl (d := .lst ((ch h).map dS)) chS_dct (lookK_map (α := Nat) (fun c => .lst ((ch c).map dS)) hh) ?_
              repeat infer_instance
              have hchl := I.len h hh
              refine gw_addL ?_ (by simp only [List.length_map, List.length_cons, List.length_nil]; omega)
              repeat infer_instance
              have ev : (ch h).map dS ++ [dS t] = (ch h ++ [t]).map dS := by simp
              rw [ev]
              refine ⟨_, _, _, kS t, rfl, chS_dct, rfl, by rw [List.length_map]; omega, ?_⟩
              rw [chS_put ht]
              refine wf_expr ?_
              refine wp_lm (wp_v rfl ⟨by simp only [locL, chS_w]; rfl, ?_⟩)
              repeat infer_instance
              refine ⟨S.length + 1 + gb2.length, W.map dS, .non, W.map dS ++ [dS t], by simp only [locL, chS_w], if_pos ?_, ?_⟩
              · rw [List.length_map]
                omega
              rw [chS_app]
              have I2 : ChI sd g s (K ++ [t]) (W ++ [t]) (fun c => if c = t then ch h ++ [t] else ch c) := by
                refine ⟨?_, ?_, ?_, List.mem_append_left _ I.hs, ?_, ?_⟩
                · rw [List.nodup_append]
                  exact ⟨I.nd, by simp, fun a ha b hb e => ht (by rw [List.mem_singleton] at hb; rw [← hb, ← e]; exact ha)⟩
                · intro k hk
                  rcases List.mem_append.mp hk with hk | hk
                  · exact I.sub k hk
                  · rw [List.mem_singleton.mp hk]; exact hg h (I.sub h hh) t htg
                · intro k hk
                  rcases List.mem_append.mp hk with hk | hk
                  · exact List.mem_append_left _ (I.wk k hk)
                  · exact List.mem_append_right _ hk
                · intro k hk
                  rcases List.mem_append.mp hk with hk | hk
                  · exact I.rch k hk
                  · rw [List.mem_singleton.mp hk]; exact .step (I.rch h hh) htg
                · intro k hk
                  rw [List.length_append, List.length_singleton]
                  show (if k = t then ch h ++ [t] else ch k).length ≤ _
                  split
                  · rw [List.length_append, List.length_singleton]; omega
                  · rename_i hkt
                    rcases List.mem_append.mp hk with hk | hk
                    · have := I.len k hk; omega
                    · exact absurd (List.mem_singleton.mp hk) hkt
              have hKl2 := nodup_le I2.nd I2.sub
              rw [List.length_append, List.length_singleton] at hKl2
              refine ⟨K ++ [t], _, W ++ [t], _, rfl, rfl, I2, List.mem_append_left _ hh, ?_, ?_, ?_⟩
              · intro k hk hkW hkh u hu
                have hkt : k ∈ K := by
                  rcases List.mem_append.mp hk with hk | hk
                  · exact hk
                  · exact absurd (List.mem_append_right W hk) hkW
                exact List.mem_append_left _ (cl k hkt (fun z => hkW (List.mem_append_left _ z)) hkh u hu)
              · rw [etk]
                intro u hu
                rcases List.mem_append.mp hu with hu | hu
                · exact List.mem_append_left _ (ct u hu)
                · exact List.mem_append_right _ hu
              · refine ⟨?_, BI.add ht htg, ?_⟩
                · rw [List.length_append, List.length_append, List.length_singleton]
                  omega
                · rw [etk]
                  intro u hu
                  rcases List.mem_append.mp hu with hu | hu
                  · exact List.mem_append_left _ (ct u hu)
                  · exact List.mem_append_right _ hu
            · have ht : t ∈ K := by simpa using hc
              refine wf_nxM ?_
              have key : ∀ u ∈ (g h).take (j + 1), u ∈ K := by
                rw [etk]
                intro u hu
                rcases List.mem_append.mp hu with hu | hu
                · exact ct u hu
                · rw [List.mem_singleton.mp hu]; exact ht
              exact ⟨K, ch, W, _, rfl, rfl, I, hh, cl, key, hμ, BI, key⟩
        · rintro δ S' ⟨K, ch, W, y5, rfl, rfl, I, hh, cl, ct, hμ, BI, _⟩
          rw [List.length_map, List.take_length] at ct
          refine ⟨K, ch, gb2, W, _, _, rfl, rfl, I, ?_, hμ, by omega, BI.fin I.wk ct⟩
          intro k hk hkW
          by_cases e : k = h
          · rw [e]; exact ct
          · exact cl k hk hkW e
    · have hW0 : W = [] := by
        cases W with
        | nil => rfl
        | cons _ _ => simp at hW
      subst hW0
      repeat infer_instance
      refine wp_ok (fin_cut (S' := S) (e := .dct (K.map kS) (K.map fun c => .lst ((ch c).map dS))) ?_ rfl Settles.same) (k K ch I.nd ?_ I.sub BF.pa (fun t _ l hl => (BF.short t l hl).2))
      · show fz S.length (chS S K ch gb []) (.loc S.length) = _
        have ho : ¬ okD S.length (.loc S.length) = true := by simp [okD]
        unfold fz fzN
        rw [if_neg ho]
        have hd := chS_dct (S := S) (K := K) (ch := ch) (gb := gb) (W := [])
        unfold chC at hd
        simp only [hd]
        rw [allO_cl (okL_iff.mpr fun d hd => by
          obtain ⟨z, _, rfl⟩ := List.mem_map.mp hd
          exact okL_up _ _ (okL_iff.mpr fun d hd => by
            obtain ⟨z, _, rfl⟩ := List.mem_map.mp hd
            rfl))]
      · intro t
        constructor
        · exact I.rch t
        · intro h
          induction h with
          | self => exact I.hs
          | step _ e ih => exact cl _ ih (by simp) _ e
inductive Rn (g : Nat → List Nat) (s : Nat) : Nat → Nat → Prop
  | zero : Rn g s 0 s
  | succ {n t u : Nat} (h : Rn g s n t) (e : u ∈ g t) : Rn g s (n + 1) u
variable {g : Nat → List Nat} {s t u n m : Nat} {l : List Nat}
theorem Pa.rn (h : Pa g s t l) : Rn g s (l.length - 1) t ∧ 1 ≤ l.length := by
  induction h with
  | self => exact ⟨.zero, Nat.le_refl _⟩
  | @step t u l _ e ih =>
    rw [List.length_append, List.length_singleton]
    have : l.length + 1 - 1 = (l.length - 1) + 1 := by omega
    rw [this]
    exact ⟨.succ ih.1 e, by omega⟩
theorem Rn.pa (h : Rn g s n t) : ∃ l, Pa g s t l ∧ l.length = n + 1 := by
  induction h with
  | zero => exact ⟨_, .self, rfl⟩
  | succ _ e ih =>
    obtain ⟨l, h1, h2⟩ := ih
    exact ⟨_, .step h1 e, by rw [List.length_append, h2]; rfl⟩
theorem Rn.rg (h : Rn g s n t) : Rg g s t := by
  induction h with
  | zero => exact .self
  | succ _ e ih => exact .step ih e
theorem Pa.ends (h : Pa g s t l) : l[0]? = some s ∧ l[l.length - 1]? = some t := by
  induction h with
  | self => exact ⟨rfl, rfl⟩
  | @step t u l _ e ih =>
    have hl : 0 < l.length := by
      cases l with
      | nil => simp at ih
      | cons _ _ => simp
    refine ⟨by rw [List.getElem?_append_left hl]; exact ih.1, ?_⟩
    rw [List.length_append, List.length_singleton, Nat.add_sub_cancel]
    simp
theorem Pa.edge (h : Pa g s t l) : ∀ (i x y : Nat), l[i]? = some x → l[i + 1]? = some y → y ∈ g x := by
  induction h with
  | self => intro i x y _ h2; simp at h2
  | @step t u l hp e ih =>
    intro i x y h1 h2
    by_cases hi : i + 1 < l.length
    · rw [List.getElem?_append_left (by omega)] at h1
      rw [List.getElem?_append_left hi] at h2
      exact ih i x y h1 h2
    · have hle := (List.getElem?_eq_some_iff.mp h2).1
      rw [List.length_append, List.length_singleton] at hle
      have hi2 : i + 1 = l.length := by omega
      rw [List.getElem?_append_right (by omega), hi2, Nat.sub_self] at h2
      cases h2
      rw [List.getElem?_append_left (by omega), show i = l.length - 1 by omega, hp.ends.2] at h1
      cases h1
      exact e
def Lv (g : Nat → List Nat) (s n t : Nat) : Prop := Rn g s n t ∧ ∀ m, m < n → ¬ Rn g s m t
theorem lv_step (h : Lv g s (n + 1) u) : ∃ t, Lv g s n t ∧ u ∈ g t := by
  cases h.1 with
  | @succ n t u h1 e => exact ⟨t, ⟨h1, fun m hm z => h.2 (m + 1) (by omega) (.succ z e)⟩, e⟩
theorem lv_of (h : Lv g s n t) (e : u ∈ g t) (hn : ∀ m, m ≤ n → ¬ Rn g s m u) : Lv g s (n + 1) u := ⟨.succ h.1 e, fun m hm => hn m (by omega)⟩
end
section
variable {ws : List Nat} {bars : List (List Nat)} {F : Nat → List Nat} {r L : List Nat} {Es : List (List Nat)} {c d w : Nat}
inductive Cel where
  | fix (b : Bool)
  | of (s : Nat)
def Cel.neg : Cel → Cel
  | .fix b => .fix (!b)
  | .of s => .of (swL s)
def Cel.ok (ws : List Nat) : Cel → Prop
  | .fix _ => True
  | .of s => Sd ws s
def celOf (w : Nat) : List Nat → Cel
  | [s] => .of s
  | e => .fix (decide (e = [61, w]))
def EntOk (ws : List Nat) (w : Nat) (e : List Nat) : Prop := (∃ s, e = [s] ∧ Sd ws s) ∨ e = [61, w] ∨ e = [61, swL w]
def atW (ws : List Nat) (Es : List (List Nat)) (w : Nat) : List Nat := Es.getD (ws.idxOf w) []
def cel (ws : List Nat) (Es : List (List Nat)) (w : Nat) : Cel := celOf w (atW ws Es w)
def hol (ws : List Nat) (Es : List (List Nat)) (c : Nat) : Cel := if c = loL c then cel ws Es (loL c) else (cel ws Es (loL c)).neg
structure EsOk (ws : List Nat) (Es : List (List Nat)) : Prop where
  len : Es.length = ws.length
  ok : ∀ (i w : Nat) (e : List Nat), ws[i]? = some w → Es[i]? = some e → EntOk ws w e
theorem EsOk.at (h : EsOk ws Es) (hw : w ∈ ws) : ∃ i, ws[i]? = some w ∧ Es[i]? = some (atW ws Es w) ∧ ws.idxOf w = i ∧ EntOk ws w (atW ws Es w) := by
  have hi := List.idxOf_lt_length_iff.mpr hw
  have e1 : ws[ws.idxOf w]? = some w := by rw [List.getElem?_eq_getElem hi, List.getElem_idxOf]
  have hi2 : ws.idxOf w < Es.length := by rw [h.len]; exact hi
  have e2 : Es[ws.idxOf w]? = some (atW ws Es w) := by
    unfold atW
    rw [List.getD_eq_getElem?_getD, List.getElem?_eq_getElem hi2]
    rfl
  exact ⟨_, e1, e2, rfl, h.ok _ _ _ e1 e2⟩
def nbB (F : Nat → List Nat) : Cel → Cel → Bool
  | .fix false, _ => true
  | _, .fix false => true
  | .fix true, _ => false
  | _, .fix true => false
  | .of a, .of b => decide (swL b ∈ F a)
def tabB (ws : List Nat) (bars : List (List Nat)) (F : Nat → List Nat) (Es : List (List Nat)) : Bool := bars.all fun b => nbB F (hol ws Es (b.getD 0 0)) (hol ws Es (b.getD 1 0))
end
section
variable {A : Ad} {U S S' : Store} {Q : SL.D → Store → Prop} {X : Ex → Store → Prop} {ws : List Nat} {c d : Nat} {bars : List (List Nat)} {F : Nat → List Nat} {P r g t x y : List Nat} {Es : List (List Nat)} {n : Nat} {to hd : SL.D}
end
section
variable {A : Ad} {U S S' : Store} {Q : SL.D → Store → Prop} {X : Ex → Store → Prop} {ws : List Nat} {c d : Nat} {bars : List (List Nat)} {F : Nat → List Nat} {P r g t x y : List Nat} {n : Nat}
end
section
variable {A : Ad} {U S S' : Store} {Q : SL.D → Store → Prop} {X : Ex → Store → Prop} {ws : List Nat} {c : Nat} {bars : List (List Nat)} {F : Nat → List Nat} {P r g L L' t x : List Nat} {n : Nat}
def itn (f : Nat → Nat) : Nat → Nat → Nat
  | 0, x => x
  | n + 1, x => f (itn f n x)
theorem itn_add (f : Nat → Nat) (a : Nat) : ∀ (b x : Nat), itn f (a + b) x = itn f a (itn f b x) := by
  induction a with
  | zero => intro b x; rw [Nat.zero_add]; rfl
  | succ a ih => intro b x; rw [show a + 1 + b = (a + b) + 1 by omega]; show f (itn f (a + b) x) = f (itn f a (itn f b x)); rw [ih]
theorem itn_mul {f : Nat → Nat} {a x : Nat} (h : itn f a x = x) : ∀ b, itn f (a * b) x = x
  | 0 => rfl
  | b + 1 => by rw [Nat.mul_succ, Nat.add_comm, itn_add, itn_mul h b, h]
theorem itn_in {f : Nat → Nat} {W : List Nat} (cl : ∀ x ∈ W, f x ∈ W) {x : Nat} (hx : x ∈ W) : ∀ n, itn f n x ∈ W
  | 0 => hx
  | n + 1 => cl _ (itn_in cl hx n)
theorem itn_canc {f : Nat → Nat} {W : List Nat} (cl : ∀ x ∈ W, f x ∈ W) (inj : ∀ x ∈ W, ∀ y ∈ W, f x = f y → x = y) {x y : Nat} (hx : x ∈ W) (hy : y ∈ W) : ∀ n, itn f n x = itn f n y → x = y
  | 0, h => h
  | n + 1, h => itn_canc cl inj hx hy n (inj _ (itn_in cl hx n) _ (itn_in cl hy n) h)
def orb (f : Nat → Nat) (x n : Nat) : List Nat := (List.range n).map fun i => itn f i x
theorem orb_succ (f : Nat → Nat) (x n : Nat) : orb f x (n + 1) = orb f x n ++ [itn f n x] := by simp [orb, List.range_succ]
theorem orb_len (f : Nat → Nat) (x n : Nat) : (orb f x n).length = n := by simp [orb]
theorem mem_orb {f : Nat → Nat} {x n y : Nat} : y ∈ orb f x n ↔ ∃ i, i < n ∧ itn f i x = y := by simp [orb]
theorem period {f : Nat → Nat} {W : List Nat} (cl : ∀ x ∈ W, f x ∈ W) (inj : ∀ x ∈ W, ∀ y ∈ W, f x = f y → x = y) {x : Nat} (hx : x ∈ W) : ∃ l, 1 ≤ l ∧ l ≤ W.length ∧ itn f l x = x ∧ (orb f x l).Nodup := by
  have key : ∀ m, (orb f x m).Nodup ∨ ∃ l, 1 ≤ l ∧ l < m ∧ itn f l x = x ∧ (orb f x l).Nodup := fun m => by
    induction m with
    | zero => exact .inl List.nodup_nil
    | succ m ih =>
      rcases ih with h | ⟨l, h1, h2, h3, h4⟩
      · by_cases hm : itn f m x ∈ orb f x m
        · obtain ⟨i, hi, e⟩ := mem_orb.mp hm
          have e2 : itn f (m - i) x = x := by
            have : itn f i (itn f (m - i) x) = itn f i x := by rw [← itn_add, show i + (m - i) = m by omega, e]
            exact itn_canc cl inj (itn_in cl hx _) hx i this
          by_cases h0 : i = 0
          · subst h0
            exact .inr ⟨m, by omega, by omega, by rw [Nat.sub_zero] at e2; exact e2, h⟩
          · exfalso
            have h5 : (orb f x m).Nodup := h
            have : itn f (m - i) x = itn f 0 x := e2
            have hp := List.pairwise_map.mp h5
            have := List.pairwise_iff_getElem.mp hp 0 (m - i) (by simp; omega) (by simp; omega) (by omega)
            simp at this
            exact this e2.symm
        · left
          rw [orb_succ]
          exact List.nodup_append.mpr ⟨h, by simp, fun a ha b hb e => hm (by rw [← List.mem_singleton.mp hb, ← e]; exact ha)⟩
      · exact .inr ⟨l, h1, by omega, h3, h4⟩
  rcases key (W.length + 1) with h | ⟨l, h1, h2, h3, h4⟩
  · have := nodup_le h (L := W) fun y hy => by
      obtain ⟨i, _, rfl⟩ := mem_orb.mp hy
      exact itn_in cl hx i
    rw [orb_len] at this
    omega
  · exact ⟨l, h1, by omega, h3, h4⟩
theorem cube3 : ∀ l : Nat, l * l * l ≤ 3 ^ l
  | 0 => by decide
  | 1 => by decide
  | 2 => by decide
  | 3 => by decide
  | l + 4 => by
    have ih := cube3 (l + 3)
    rw [Nat.pow_succ]
    have h1 : (l + 4) * (l + 4) * (l + 4) ≤ (l + 3) * (l + 3) * (l + 3) * 3 := by
      have e1 : (l + 4) * (l + 4) * (l + 4) = (l + 3) * (l + 3) * (l + 3) + 3 * ((l + 3) * (l + 3)) + 3 * (l + 3) + 1 := by
        have ge : ∀ a : Nat, (a + 1) * (a + 1) * (a + 1) = a * a * a + 3 * (a * a) + 3 * a + 1 := fun a => by
          simp only [Nat.add_mul, Nat.mul_add, Nat.one_mul, Nat.mul_one]; omega
        exact ge (l + 3)
      have hq : 3 * ((l + 3) * (l + 3)) ≤ (l + 3) * (l + 3) * (l + 3) := by
        rw [Nat.mul_comm]
        exact Nat.mul_le_mul_left _ (by omega)
      have hq2 : 9 ≤ (l + 3) * (l + 3) := Nat.mul_le_mul (show 3 ≤ l + 3 by omega) (show 3 ≤ l + 3 by omega)
      have hq3 : 3 * (l + 3) ≤ (l + 3) * (l + 3) := Nat.mul_le_mul_right _ (by omega)
      omega
    exact Nat.le_trans h1 (Nat.mul_le_mul_right 3 ih)
theorem order {f : Nat → Nat} : ∀ (m : Nat) {W : List Nat}, W.length ≤ m → W.Nodup → (∀ x ∈ W, f x ∈ W) → (∀ x ∈ W, ∀ y ∈ W, f x = f y → x = y) → ∃ N, 1 ≤ N ∧ N * N * N ≤ 3 ^ W.length ∧ ∀ x ∈ W, itn f N x = x
  | _, [], _, _, _, _ => ⟨1, by decide, by decide, by simp⟩
  | 0, _ :: _, h, _, _, _ => by simp at h
  | m + 1, x :: W, h, nd, cl, inj => by
    obtain ⟨l, h1, h2, h3, h4⟩ := period cl inj (List.mem_cons_self ..)
    generalize hV : x :: W = V at *
    have hxV : x ∈ V := by rw [← hV]; exact List.mem_cons_self ..
    have hsub : ∀ y ∈ orb f x l, y ∈ V := fun y hy => by
      obtain ⟨i, _, rfl⟩ := mem_orb.mp hy
      exact itn_in cl hxV i
    have hpre : ∀ y ∈ V, f y ∈ orb f x l → y ∈ orb f x l := fun y hy hfy => by
      obtain ⟨i, hi, e⟩ := mem_orb.mp hfy
      cases i with
      | zero =>
        have : f (itn f (l - 1) x) = f y := by
          rw [← e]
          show itn f (l - 1 + 1) x = x
          rw [show l - 1 + 1 = l by omega, h3]
        exact mem_orb.mpr ⟨l - 1, by omega, inj _ (itn_in cl hxV _) _ hy this⟩
      | succ i => exact mem_orb.mpr ⟨i, by omega, inj _ (itn_in cl hxV _) _ hy e⟩
    have hlen : (V.filter fun y => decide (y ∉ orb f x l)).length + l = V.length := by
      have hp : (V.filter fun y => decide (y ∈ orb f x l)).Perm (orb f x l) := nodup_perm (nd.filter _) h4 fun y => by
        rw [List.mem_filter]
        exact ⟨fun h => of_decide_eq_true h.2, fun h => ⟨hsub y h, decide_eq_true h⟩⟩
      have key : ∀ (p : Nat → Bool) (V : List Nat), V.length = (V.filter p).length + (V.filter fun y => !p y).length := fun p V => by
        induction V with
        | nil => rfl
        | cons v V ih =>
          rw [List.filter_cons, List.filter_cons]
          cases p v <;> simp [ih] <;> omega
      have e := key (fun y => decide (y ∈ orb f x l)) V
      rw [hp.length_eq, orb_len] at e
      have e2 : (V.filter fun y => !decide (y ∈ orb f x l)) = V.filter fun y => decide (y ∉ orb f x l) := List.filter_congr fun y _ => by simp
      rw [e2] at e
      omega
    obtain ⟨N, n1, n2, n3⟩ := order m (W := V.filter fun y => decide (y ∉ orb f x l)) (by omega) (nd.filter _) (fun y hy => by
      obtain ⟨a, b⟩ := List.mem_filter.mp hy
      have b := of_decide_eq_true b
      exact List.mem_filter.mpr ⟨cl y a, decide_eq_true fun z => b (hpre y a z)⟩) fun y hy z hz e => inj y (List.mem_filter.mp hy).1 z (List.mem_filter.mp hz).1 e
    refine ⟨l * N, Nat.mul_pos (by omega) (by omega), ?_, fun y hy => ?_⟩
    · have e : l * N * (l * N) * (l * N) = (l * l * l) * (N * N * N) := by
        simp only [Nat.mul_assoc, Nat.mul_left_comm, Nat.mul_comm]
      rw [e, ← hlen, Nat.add_comm, Nat.pow_add]
      exact Nat.mul_le_mul (cube3 l) n2
    · by_cases hyo : y ∈ orb f x l
      · obtain ⟨i, _, rfl⟩ := mem_orb.mp hyo
        refine itn_mul ?_ N
        rw [← itn_add, Nat.add_comm, itn_add, h3]
      · rw [Nat.mul_comm]
        exact itn_mul (n3 y (List.mem_filter.mpr ⟨hy, decide_eq_true hyo⟩)) l
end
section
variable {A : Ad} {U S S' : Store} {Q : SL.D → Store → Prop} {X : Ex → Store → Prop} {ws : List Nat} {c : Nat} {bars : List (List Nat)} {F : Nat → List Nat} {P r g L L' t x : List Nat} {n N : Nat}
end
section
variable {A : Ad} {U S S' : Store} {Q : SL.D → Store → Prop} {X : Ex → Store → Prop} {ws : List Nat} {c : Nat} {bars : List (List Nat)} {F : Nat → List Nat} {P r g L L' t t' x : List Nat} {n N : Nat}
end
section
variable {A : Ad} {U S S' : Store} {Q : SL.D → Store → Prop} {X : Ex → Store → Prop} {ws : List Nat} {c d : Nat} {bars : List (List Nat)} {F : Nat → List Nat} {P r g t x y : List Nat} {Ts Ps : List (List Nat)} {n : Nat} {cs : SL.D}
end
end NC
namespace NC
open PySem PySem.Spec L2 SL Hal
local macro_rules
  | `(tactic| infer_instance) => `(tactic| first
    | ((with_reducible first
        | refine wf_seq ?_ | refine wf_asg ?_ | refine wf_ret ?_ | refine wf_retN ?_ | refine wf_expr ?_ | refine wf_nxM ?_ | refine wf_ctM ?_ | refine wf_bkM ?_ | refine wf_asgT ?_ | refine wf_raise ?_
        | refine wp_op2 ?_ | refine wp_op1 ?_ | refine wp_callG ?_ | refine wp_cons ?_ | refine wp_nil ?_ | refine wp_c ?_ | refine wp_cmpB ?_ | refine wp_trM ?_ | refine wp_notB ?_ | refine wp_andB ?_ | refine wp_orB ?_ | refine wp_andM ?_ | refine wp_orM ?_ | refine wp_notM ?_ | refine wp_ch ?_ | refine wp_sl ?_ | refine wp_soO ?_ | refine wp_noO ?_ | refine wp_fmt ?_ | refine wp_callKG ?_ | refine wp_yes ?_ | refine wp_mkx ?_ | refine wp_bM ?_ | refine wp_freeze ?_ | refine wf_par ?_ | refine wf_asgU ?_
        | refine gw_addI ?_ | refine gw_subI ?_ | refine gw_ltI ?_ | refine gw_leI ?_ | refine gw_gtI ?_ | refine gw_geI ?_ | refine gw_eqI ?_ | refine gw_neI ?_ | refine gw_eqS ?_ | refine gw_neS ?_ | refine gw_inC ?_ | refine gw_ninC ?_ | refine gw_ltS ?_ | refine gw_inL ?_ | refine gw_ninL ?_ | refine gw_sorted ?_ | refine gw_keys ?_ | refine gw_eqB ?_ | refine gw_neB ?_
        | refine gb_ltI ?_ | refine gb_leI ?_ | refine gb_gtI ?_ | refine gb_geI ?_ | refine gb_eqI ?_ | refine gb_neI ?_ | refine gb_eqS ?_ | refine gb_neS ?_ | refine gb_inC ?_ | refine gb_ninC ?_ | refine gb_inL ?_ | refine gb_ninL ?_ | refine gb_bl ?_ | refine gt_bl ?_ | refine gt_int ?_ | refine gt_lst ?_ | refine gt_tup ?_
        | refine gw_asI ?_ | refine gw_slT ?_ | refine gw_slL ?_ | refine gw_lenL ?_ | refine gw_lenT ?_ | refine gw_tuple ?_ | refine gw_tupleT ?_ | refine gw_tupleEnd ?_ | refine gw_lenEnd ?_ | refine gw_all ?_ | refine gw_any ?_ | refine gw_sum ?_ | refine gw_intI ?_ | refine gw_intB ?_ | refine gw_ix0L ?_ | refine gw_ix0T ?_ | refine gw_ix1L ?_ | refine gw_ix1T ?_ | refine gw_ix2L ?_ | refine gw_ix2T ?_))
    | ((with_reducible apply wp_v); (· rfl))
    | (with_reducible refine wp_appA ?_)
    | (with_reducible refine wp_mtS ?_)
    | (with_reducible first | refine gw_addS ?_ | refine gw_addL ?_ | refine gw_addT ?_ | refine gw_mulR ?_ | refine gw_mulL ?_ | refine gw_modI ?_ | refine gw_fdivI ?_ | refine gw_tup ?_ | refine gw_lst ?_ | refine gw_lenS ?_ | refine gw_slTo ?_ | refine gw_slFrom ?_ | refine gw_slFT ?_ | refine gw_slS ?_ | refine gw_pow ?_ | refine gw_swap ?_ | refine gw_isup ?_ | refine gw_upper1 ?_ | refine gw_lower1 ?_ | refine gw_upper ?_ | refine gw_lower ?_ | refine gw_str ?_ | refine gw_mulS ?_)
    | (refine ⟨rfl, ?_⟩))
  | `(tactic| sizeOf_list_dec) => `(tactic| (refine wp_def ?_; simp only [startD, List.map_cons, List.map_nil, List.length_cons, List.length_nil, Nat.reduceAdd, Nat.reduceSub, List.replicate_succ, List.replicate_zero, List.cons_append, List.nil_append, Nat.zero_add]))
section
variable {A : Ad} {U S S' : Store} {Q : SL.D → Store → Prop} {X : Ex → Store → Prop} {ws : List Nat} {c : Nat} {bars : List (List Nat)} {F : Nat → List Nat}
theorem toPys_strs : ∀ xs : List (List Nat), toPys (xs.map SL.D.str) = some (xs.map fun l => PyData.str ⟨l.toArray⟩)
  | [] => rfl
  | x :: xs => by simp [toPys, toPy, toPys_strs xs]
theorem canLay_strs : ∀ {xs : List (List Nat)}, (∀ l ∈ xs, ∀ c ∈ l, c < 128) → PyData.canLayAll0 (xs.map fun l => PyData.str ⟨l.toArray⟩) = true
  | [], _ => rfl
  | x :: xs, h => by
    have ih := canLay_strs (xs := xs) fun l hl => h l (List.mem_cons_of_mem _ hl)
    have hx := h x (by simp)
    rw [List.map_cons, PyData.canLayAll0, ih, Bool.and_true]
    show (x.toArray).all (· < 0x110000) = true
    rw [List.all_toArray]
    exact List.all_eq_true.mpr fun c hc => decide_eq_true (by have := hx c hc; omega)
theorem depth_strs : ∀ xs : List (List Nat), PyData.depthAll (xs.map fun l => PyData.str ⟨l.toArray⟩) = 0
  | [] => rfl
  | x :: xs => by
    rw [List.map_cons, PyData.depthAll, depth_strs xs]
    rfl
theorem gb_neNil {xs : List (List Nat)} {PB : Bool → Prop} (h : ∀ l ∈ xs, ∀ c ∈ l, c < 128) (k : PB (!xs.isEmpty)) : GW (asB (neG S (.lst (xs.map SL.D.str)) (.lst []))) PB := ⟨_, by
  have e1 : toPyS S (.lst (xs.map SL.D.str)) = some (.list (xs.map fun l => PyData.str ⟨l.toArray⟩)) := by
    show toPy _ = _
    rw [toPy, toPys_strs]
  have e2 : toPyS S (.lst []) = some (.list []) := rfl
  have s1 : SeqAt.shaped (.list (xs.map fun l => PyData.str ⟨l.toArray⟩)) = true := by
    unfold SeqAt.shaped
    rw [PyData.canLay0, canLay_strs h, PyData.depth, depth_strs]
    rfl
  have s2 : SeqAt.shaped (.list []) = true := by decide
  have e3 : eqB S (.lst (xs.map SL.D.str)) (.lst []) = some xs.isEmpty := by
    show (match toPyS S (.lst (xs.map SL.D.str)), toPyS S (.lst []) with | some p, some q => if SeqAt.shaped p = true ∧ SeqAt.shaped q = true then some (PyData.eqv p q) else none | _, _ => none) = _
    rw [e1, e2]
    simp only
    rw [if_pos ⟨s1, s2⟩]
    cases xs <;> rfl
  unfold neG
  rw [e3]
  rfl, k⟩
def nearL (R : List (List Nat)) (r : List Nat) (k : Nat) : List (List Nat) := if k = 0 then [r] else R.filter fun x => decide (apart r x = k)
theorem mem_near {R : List (List Nat)} {r x : List Nat} {k : Nat} (hr : r ∈ R) (hlen : ∀ y ∈ R, y.length = r.length) (hx : x ∈ R) : x ∈ nearL R r k ↔ apart r x = k := by
  unfold nearL
  split
  · rename_i h
    subst h
    rw [List.mem_singleton]
    constructor
    · rintro rfl; exact apart_self _
    · intro e; exact (apart_zero (hlen x hx).symm e).symm
  · rw [List.mem_filter]
    simp [hx]
theorem near_sub {R : List (List Nat)} {r x : List Nat} {k : Nat} (hr : r ∈ R) (h : x ∈ nearL R r k) : x ∈ R := by
  unfold nearL at h
  split at h
  · rw [List.mem_singleton.mp h]; exact hr
  · exact (List.mem_filter.mp h).1
theorem near_len {R : List (List Nat)} {r : List Nat} {k : Nat} : (nearL R r k).length ≤ R.length + 1 := by
  unfold nearL
  split
  · simp
  · exact Nat.le_succ_of_le (List.length_filter_le _ _)
theorem far_wd {r g : List Nat} (hw : Wls ws) (hb : Brs ws bars) (gd : Good ws bars) (hr : r ∈ lawR ws bars) (hg : g ∈ lawR ws bars) (hRl : (lawR ws bars).length ≤ 4096)
    (k : Q (.int (apart r g : Nat)) S) : wp (φlaw_far A [.lst ((lawR ws bars).map SL.D.str), .str r, .str g] S) Q X := by
  have hwl := hw.2.2
  have hlen : ∀ {x : List Nat}, x ∈ lawR ws bars → x.length = ws.length ∧ ∀ c ∈ x, c < 128 := fun h => ⟨rm_len ((lawR_mem hw).mp h).1, fun c hc => sd_asc hw (rm_sd ((lawR_mem hw).mp h).1 hc)⟩
  have hll : ∀ y ∈ lawR ws bars, y.length = r.length := fun y hy => by rw [(hlen hy).1, (hlen hr).1]
  have hap : apart r g ≤ 12 := by
    have : ∀ a b : List Nat, apart a b ≤ a.length := fun a => by
      induction a with
      | nil => intro b; simp [apart]
      | cons x a ih => intro b; cases b with
        | nil => simp [apart]
        | cons y b => have := ih b; simp only [apart, List.length_cons]; split <;> omega
    have h1 := this r g
    have := (hlen hr).1
    omega
  have n8 : ∀ q, ∀ l ∈ nearL (lawR ws bars) r q, ∀ c ∈ l, c < 128 := fun q l hl => (hlen (near_sub hr hl)).2
  have nne : ∀ q, q ≤ apart r g → nearL (lawR ws bars) r q ≠ [] := fun q hq e => by
    obtain ⟨h, hh, e2⟩ := between hw hb gd hr (apart r g - q) g q hg (by rw [apart_symm]; omega)
    have := (mem_near hr hll hh (k := q)).mpr (by rw [apart_symm]; exact e2)
    rw [e] at this
    simp at this
  sizeOf_list_dec
  unfold m_law_far
  generalize hrd : SL.D.lst ((lawR ws bars).map SL.D.str) = rd
  refine wf_seq (wf_asgT ?_)
  repeat infer_instance
  refine gw_bind ?_
  refine wf_seq ?_
  refine wf_while (n := apart r g) (fun μ δ S' => ∃ (q : Nat) (kn : List (List Nat)) (y6 y7 : Option SL.D), q + μ = apart r g ∧ δ = [some rd, some (.str r), some (.str g), some (.lst (kn.map SL.D.str)), some (.lst ((nearL (lawR ws bars) r q).map SL.D.str)), some (.int (q : Int)), y6, y7] ∧ S' = S ∧ (∀ x ∈ lawR ws bars, x ∈ kn ↔ apart r x ≤ q) ∧ kn.length ≤ 5000 * (q + 1)) ?_ ?_
  · refine ⟨0, [r], none, none, by omega, rfl, rfl, fun x hx => ?_, by simp⟩
    rw [List.mem_singleton]
    constructor
    · rintro rfl; rw [apart_self]; exact Nat.le_refl _
    · intro e; exact (apart_zero (hll x hx).symm (by omega)).symm
  · rintro μ δ S' ⟨q, kn, y6, y7, hq, rfl, rfl, hkn, hknl⟩
    refine wp_andB (wp_cmpB ?_)
    repeat infer_instance
    refine gb_neNil (n8 q) ?_
    have hne : (!(nearL (lawR ws bars) r q).isEmpty) = true := by
      have := nne q (by omega)
      cases e : nearL (lawR ws bars) r q with
      | nil => exact absurd e this
      | cons _ _ => rfl
    rw [hne]
    refine ⟨fun _ => ?_, fun h => (by cases h)⟩
    refine wp_cmpB ?_
    repeat infer_instance
    refine ⟨fun hc => ?_, fun hc => ?_⟩
    · have hni : ¬ apart r g = q := fun e => by
        have := (mem_near hr hll hg).mpr e
        simp [this] at hc
      refine ⟨μ - 1, by omega, ?_⟩
      refine wf_seq (wf_asg ?_)
      refine wp_compF (lawR ws bars) SL.D.str (fun x => if x ∈ nearL (lawR ws bars) r (q + 1) then some x else none) SL.D.str ?_
      refine wp_srcV (wp_v rfl ?_)
      rw [← hrd]
      refine ⟨rfl, fun _ => rfl, by omega, fun x hx acc => ?_, ?_⟩
      · have hx2 := hlen hx
        refine gw_bind ?_
        refine wp_andB (wp_cmpB ?_)
        repeat infer_instance
        refine ⟨fun h1 => ?_, fun h1 => ?_⟩
        · have h1 : x ∉ kn := by simpa using h1
          rw [hkn x hx] at h1
          refine wp_trM ?_
          repeat infer_instance
          refine wp_compE (nearL (lawR ws bars) r q) SL.D.str (fun h => decide ((apart x h : Int) = 1)) SL.D.bl ?_
          have hnl := near_len (R := lawR ws bars) (r := r) (k := q)
          refine wp_srcV (wp_v rfl ⟨rfl, fun _ => rfl, by omega, fun h hh acc2 => ?_, ?_⟩)
          · have hh2 := hlen (near_sub hr hh)
            refine gw_bind ?_
            repeat infer_instance
            refine law_apart_wd (by rw [hx2.1, hh2.1]) (by omega) ?_
            repeat infer_instance
            rfl
          · repeat infer_instance
            rw [any_id]
            have hiff : ((nearL (lawR ws bars) r q).any fun h => decide ((apart x h : Int) = 1)) = true ↔ x ∈ nearL (lawR ws bars) r (q + 1) := by
              rw [mem_near hr hll hx, ← layer hw hb gd hr hx q, List.any_eq_true]
              constructor
              · rintro ⟨h, hh, e⟩
                have hhR := near_sub hr hh
                exact ⟨h1, h, hhR, (mem_near hr hll hhR).mp hh, by have := of_decide_eq_true e; omega⟩
              · rintro ⟨_, h, hhR, e1, e2⟩
                exact ⟨h, (mem_near hr hll hhR).mpr e1, decide_eq_true (by omega)⟩
            refine ⟨fun h => ?_, fun h => ?_⟩
            · repeat infer_instance
              exact ⟨x, if_pos (hiff.mp h), rfl, rfl⟩
            · exact if_neg fun z => by rw [hiff.mpr z] at h; cases h
        · have h1 : x ∈ kn := by simpa using h1
          rw [hkn x hx] at h1
          refine ⟨rfl, fun h => (by cases h), fun _ => if_neg fun z => ?_⟩
          have := (mem_near hr hll hx).mp z
          omega
      have efl : (lawR ws bars).filterMap (fun x => if x ∈ nearL (lawR ws bars) r (q + 1) then some x else none) = nearL (lawR ws bars) r (q + 1) := by
        have e1 : nearL (lawR ws bars) r (q + 1) = (lawR ws bars).filter fun x => decide (apart r x = q + 1) := by unfold nearL; rw [if_neg (by omega)]
        rw [e1]
        have key : ∀ L : List (List Nat), (∀ x ∈ L, x ∈ lawR ws bars) → L.filterMap (fun x => if x ∈ (lawR ws bars).filter (fun x => decide (apart r x = q + 1)) then some x else none) = L.filterMap (fun x => if decide (apart r x = q + 1) = true then some x else none) := fun L hL => by
          induction L with
          | nil => rfl
          | cons x L ih =>
            have hxm := hL x (by simp)
            rw [List.filterMap_cons, List.filterMap_cons, ih fun y hy => hL y (List.mem_cons_of_mem _ hy)]
            have : (x ∈ (lawR ws bars).filter (fun x => decide (apart r x = q + 1))) ↔ decide (apart r x = q + 1) = true := by
              rw [List.mem_filter]; exact ⟨fun h => h.2, fun h => ⟨hxm, h⟩⟩
            by_cases z : decide (apart r x = q + 1) = true
            · rw [if_pos (this.mpr z), if_pos z]
            · rw [if_neg (fun y => z (this.mp y)), if_neg z]
        exact (key _ fun x hx => hx).trans (filterMap_filter _ _)
      rw [efl]
      have hnl := near_len (R := lawR ws bars) (r := r) (k := q + 1)
      refine wf_seq (wf_asg ?_)
      refine wp_op2 ?_
      repeat infer_instance
      rw [← List.map_append, hrd]
      refine ⟨q + 1, kn ++ nearL (lawR ws bars) r (q + 1), _, _, by omega, by rw [show ((q : Int) + 1) = ((q + 1 : Nat) : Int) by omega]; rfl, rfl, fun x hx => ?_, by rw [List.length_append]; omega⟩
      rw [List.mem_append, hkn x hx, mem_near hr hll hx]
      omega
    · have hin : apart r g = q := by
        refine (mem_near hr hll hg).mp ?_
        simpa using hc
      repeat infer_instance
      refine wp_ifM (wp_cmpB ?_)
      repeat infer_instance
      refine gb_neNil (n8 q) ?_
      rw [hne]
      refine ⟨fun _ => ?_, fun h => (by cases h)⟩
      rw [← hin]
      repeat infer_instance
      rw [hin] at k ⊢
      exact wp_finS rfl k
end
end NC
namespace NC
open PySem PySem.Spec L2 SL Hal
local macro_rules
  | `(tactic| infer_instance) => `(tactic| first
    | ((with_reducible first
        | refine wf_seq ?_ | refine wf_if ?_ | refine wp_ifM ?_ | refine wp_appN ?_ | refine wf_asg ?_ | refine wf_ret ?_ | refine wf_retN ?_ | refine wf_expr ?_ | refine wf_nxM ?_ | refine wf_ctM ?_ | refine wf_bkM ?_ | refine wf_asgT ?_ | refine wf_raise ?_
        | refine wp_op2 ?_ | refine wp_op1 ?_ | refine wp_callG ?_ | refine wp_cons ?_ | refine wp_nil ?_ | refine wp_c ?_ | refine wp_cmpB ?_ | refine wp_trM ?_ | refine wp_notB ?_ | refine wp_andB ?_ | refine wp_orB ?_ | refine wp_andM ?_ | refine wp_orM ?_ | refine wp_notM ?_ | refine wp_ch ?_ | refine wp_sl ?_ | refine wp_soO ?_ | refine wp_noO ?_ | refine wp_fmt ?_ | refine wp_callKG ?_ | refine wp_yes ?_ | refine wp_mkx ?_ | refine wp_bM ?_ | refine wp_freeze ?_ | refine wf_par ?_ | refine wf_asgU ?_
        | refine gw_addI ?_ | refine gw_subI ?_ | refine gw_ltI ?_ | refine gw_leI ?_ | refine gw_gtI ?_ | refine gw_geI ?_ | refine gw_eqI ?_ | refine gw_neI ?_ | refine gw_eqS ?_ | refine gw_neS ?_ | refine gw_inC ?_ | refine gw_ninC ?_ | refine gw_ltS ?_ | refine gw_inL ?_ | refine gw_ninL ?_ | refine gw_sorted ?_ | refine gw_sortedT ?_ | refine gw_keys ?_ | refine gw_eqB ?_ | refine gw_neB ?_
        | refine gb_ltI ?_ | refine gb_leI ?_ | refine gb_gtI ?_ | refine gb_geI ?_ | refine gb_eqI ?_ | refine gb_neI ?_ | refine gb_eqS ?_ | refine gb_neS ?_ | refine gb_inC ?_ | refine gb_ninC ?_ | refine gb_inL ?_ | refine gb_ninL ?_ | refine gb_bl ?_ | refine gt_bl ?_ | refine gt_int ?_ | refine gt_lst ?_ | refine gt_tup ?_
        | refine gw_asI ?_ | refine gw_slT ?_ | refine gw_slL ?_ | refine gw_lenL ?_ | refine gw_lenT ?_ | refine gw_tuple ?_ | refine gw_tupleT ?_ | refine gw_tupleEnd ?_ | refine gw_lenEnd ?_ | refine gw_all ?_ | refine gw_any ?_ | refine gw_sum ?_ | refine gw_intI ?_ | refine gw_intB ?_ | refine gw_ix0L ?_ | refine gw_ix0T ?_ | refine gw_ix1L ?_ | refine gw_ix1T ?_ | refine gw_ix2L ?_ | refine gw_ix2T ?_))
    | ((with_reducible apply wp_v); (· rfl))
    | (with_reducible refine wp_appA ?_)
    | (with_reducible refine wp_mtS ?_)
    | (refine wp_fO (by rfl) (by rfl) ?_)
    | (refine wp_mO (by rfl) (by rfl) ?_)
    | (with_reducible first | refine gw_addS ?_ | refine gw_addL ?_ | refine gw_addT ?_ | refine gw_mulR ?_ | refine gw_mulL ?_ | refine gw_modI ?_ | refine gw_fdivI ?_ | refine gw_tup ?_ | refine gw_lst ?_ | refine gw_lenS ?_ | refine gw_slTo ?_ | refine gw_slFrom ?_ | refine gw_slFT ?_ | refine gw_slS ?_ | refine gw_pow ?_ | refine gw_swap ?_ | refine gw_isup ?_ | refine gw_upper1 ?_ | refine gw_lower1 ?_ | refine gw_upper ?_ | refine gw_lower ?_ | refine gw_str ?_ | refine gw_mulS ?_)
    | (refine ⟨rfl, ?_⟩))
  | `(tactic| sizeOf_list_dec) => `(tactic| (refine wp_def ?_; simp only [startD, List.map_cons, List.map_nil, List.length_cons, List.length_nil, Nat.reduceAdd, Nat.reduceSub, List.replicate_succ, List.replicate_zero, List.cons_append, List.nil_append, Nat.zero_add]))
section
variable {A : Ad} {U S S' : Store} {Q : SL.D → Store → Prop} {X : Ex → Store → Prop} {ws : List Nat} {c d : Nat} {bars : List (List Nat)} {F : Nat → List Nat} {P r g t x y e : List Nat} {Es : List (List Nat)} {n : Nat} {to hd dE : SL.D}
def entB (ws : List Nat) (w : Nat) (e : List Nat) : Bool := sdB ws e || decide (e ∈ [[61, w], [61, swL w]])
theorem entB_iff {w : Nat} : entB ws w e = true ↔ EntOk ws w e := by
  unfold entB EntOk
  rw [Bool.or_eq_true, sdB_iff, decide_eq_true_iff]
  simp
def BadT (ws : List Nat) (bars : List (List Nat)) (F : Nat → List Nat) (Es : List (List Nat)) (v : Int) : Prop :=
  (Es.length ≠ ws.length ∧ v = -1) ∨ (Es.length = ws.length ∧ ∃ k : Nat, k < ws.length ∧ v = (k : Int) ∧ entB ws (ws.getD k 0) (Es.getD k []) = false ∧ ∀ j, j < k → entB ws (ws.getD j 0) (Es.getD j []) = true) ∨ (EsOk ws Es ∧ tabB ws bars F Es = false ∧ v = -1)
end
section
variable {A : Ad} {U S S' : Store} {Q : SL.D → Store → Prop} {X : Ex → Store → Prop} {ws : List Nat} {c d : Nat} {bars : List (List Nat)} {F : Nat → List Nat} {P r g t x y e : List Nat} {Es L : List (List Nat)} {n : Nat} {to hd dE : SL.D}
theorem BadT.uniq {v v' : Int} (h : BadT ws bars F Es v) (h' : BadT ws bars F Es v') : v = v' := by
  rcases h with ⟨a, e⟩ | ⟨a, k, hk, e, hb, hp⟩ | ⟨a, b, e⟩ <;> rcases h' with ⟨a', e'⟩ | ⟨a', k', hk', e', hb', hp'⟩ | ⟨a', b', e'⟩
  · rw [e, e']
  · exact absurd a' a
  · exact absurd a'.len a
  · exact absurd a a'
  · have : k = k' := by
      rcases Nat.lt_trichotomy k k' with h | h | h
      · rw [hp' k h] at hb; cases hb
      · exact h
      · rw [hp k' h] at hb'; cases hb'
    rw [e, e', this]
  · exfalso
    have h1 : ws[k]? = some (ws.getD k 0) := by rw [List.getD_eq_getElem?_getD, List.getElem?_eq_getElem hk]; rfl
    have h2 : Es[k]? = some (Es.getD k []) := by rw [List.getD_eq_getElem?_getD, List.getElem?_eq_getElem (by omega)]; rfl
    have := entB_iff.mpr (a'.ok k _ _ h1 h2)
    rw [hb] at this
    cases this
  · exact absurd a.len a'
  · exfalso
    have h1 : ws[k']? = some (ws.getD k' 0) := by rw [List.getD_eq_getElem?_getD, List.getElem?_eq_getElem hk']; rfl
    have h2 : Es[k']? = some (Es.getD k' []) := by rw [List.getD_eq_getElem?_getD, List.getElem?_eq_getElem (by omega)]; rfl
    have := entB_iff.mpr (a.ok k' _ _ h1 h2)
    rw [hb'] at this
    cases this
  · rw [e, e']
theorem sides_op {δ : DEnv} {i j : Nat} {Q : SL.D → Store → Prop} {X : Ex → Store → Prop} (hw : Wls ws) (hv : δ[i]? = some (some (.str ws))) (hj : j < δ.length) (hij : j ≠ i) (k : Q (.lst ((ws ++ ws.map upL).map dS)) S) :
    wp (op2M addG (callG list3G (consM (vM i) nilM)) (compM (srcV (vM i)) (.nm j) yesB (mtS upperG (vM j) nilM) [j]) δ S) Q X := by
  have hwl := hw.2.2
  have hs := wls_asc hw
  refine wp_op2 (wp_callG (wp_cons (wp_v hv (wp_nil ?_))))
  refine gw_listS (by omega) ?_
  refine wp_compE ws dS upL dS ?_
  refine wp_srcV (wp_v hv ⟨rfl, fun _ => rfl, by omega, fun w hwm acc => ?_, ?_⟩)
  · have hl : (wipeD δ [j]).length = δ.length := List.length_set ..
    refine gw_bind ?_
    have hvj : ((wipeD δ [j]).set j (some (dS w)))[j]? = some (some (dS w)) := List.getElem?_set_self (by rw [hl]; exact hj)
    refine wp_mtS (wp_v hvj ⟨rfl, wp_nil ?_⟩)
    have hw1 := hs w hwm
    refine gw_upper1 ?_
    exact ⟨rfl, rfl, rfl⟩
  have e1 : (signs ws).length ≤ 12 := by
    show (ws.map dS).length ≤ 12
    rw [List.length_map]
    omega
  show GW (addG S (.lst (ws.map dS)) (.lst ((ws.map upL).map dS))) _
  refine gw_addL ?_ (by rw [List.length_map, List.length_map, List.length_map]; omega)
  rw [← List.map_append]
  exact k
end
end NC
namespace K03
open PySem PySem.Spec L2 SL Hal NC
local macro_rules
  | `(tactic| infer_instance) => `(tactic| first
    | ((with_reducible first
        | refine wf_seq ?_ | refine wf_if ?_ | refine wp_ifM ?_ | refine wp_appN ?_ | refine wf_asg ?_ | refine wf_ret ?_ | refine wf_retN ?_ | refine wf_expr ?_ | refine wf_nxM ?_ | refine wf_ctM ?_ | refine wf_bkM ?_ | refine wf_asgT ?_ | refine wf_raise ?_
        | refine wp_op2 ?_ | refine wp_op1 ?_ | refine wp_callG ?_ | refine wp_cons ?_ | refine wp_nil ?_ | refine wp_c ?_ | refine wp_cmpB ?_ | refine wp_trM ?_ | refine wp_notB ?_ | refine wp_andB ?_ | refine wp_orB ?_ | refine wp_andM ?_ | refine wp_orM ?_ | refine wp_notM ?_ | refine wp_ch ?_ | refine wp_sl ?_ | refine wp_soO ?_ | refine wp_noO ?_ | refine wp_fmt ?_ | refine wp_callKG ?_ | refine wp_yes ?_ | refine wp_mkx ?_ | refine wp_bM ?_ | refine wp_freeze ?_ | refine wf_par ?_ | refine wf_asgU ?_
        | refine gw_addI ?_ | refine gw_subI ?_ | refine gw_ltI ?_ | refine gw_leI ?_ | refine gw_gtI ?_ | refine gw_geI ?_ | refine gw_eqI ?_ | refine gw_neI ?_ | refine gw_eqS ?_ | refine gw_neS ?_ | refine gw_inC ?_ | refine gw_ninC ?_ | refine gw_ltS ?_ | refine gw_inL ?_ | refine gw_ninL ?_ | refine gw_sorted ?_ | refine gw_sortedT ?_ | refine gw_keys ?_ | refine gw_eqB ?_ | refine gw_neB ?_
        | refine gb_ltI ?_ | refine gb_leI ?_ | refine gb_gtI ?_ | refine gb_geI ?_ | refine gb_eqI ?_ | refine gb_neI ?_ | refine gb_eqS ?_ | refine gb_neS ?_ | refine gb_inC ?_ | refine gb_ninC ?_ | refine gb_inL ?_ | refine gb_ninL ?_ | refine gb_bl ?_ | refine gt_bl ?_ | refine gt_int ?_ | refine gt_lst ?_ | refine gt_tup ?_
        | refine gw_asI ?_ | refine gw_slT ?_ | refine gw_slL ?_ | refine gw_lenL ?_ | refine gw_lenT ?_ | refine gw_tuple ?_ | refine gw_tupleT ?_ | refine gw_tupleEnd ?_ | refine gw_lenEnd ?_ | refine gw_all ?_ | refine gw_any ?_ | refine gw_sum ?_ | refine gw_intI ?_ | refine gw_intB ?_ | refine gw_ix0L ?_ | refine gw_ix0T ?_ | refine gw_ix1L ?_ | refine gw_ix1T ?_ | refine gw_ix2L ?_ | refine gw_ix2T ?_))
    | ((with_reducible apply wp_v); (· rfl))
    | (with_reducible refine wp_appA ?_)
    | (with_reducible refine wp_mtS ?_)
    | (refine wp_fO (by rfl) (by rfl) ?_)
    | (refine wp_mO (by rfl) (by rfl) ?_)
    | (with_reducible first | refine gw_addS ?_ | refine gw_addL ?_ | refine gw_addT ?_ | refine gw_mulR ?_ | refine gw_mulL ?_ | refine gw_modI ?_ | refine gw_fdivI ?_ | refine gw_tup ?_ | refine gw_lst ?_ | refine gw_lenS ?_ | refine gw_slTo ?_ | refine gw_slFrom ?_ | refine gw_slFT ?_ | refine gw_slS ?_ | refine gw_pow ?_ | refine gw_swap ?_ | refine gw_isup ?_ | refine gw_upper1 ?_ | refine gw_lower1 ?_ | refine gw_upper ?_ | refine gw_lower ?_ | refine gw_str ?_ | refine gw_mulS ?_)
    | (refine ⟨rfl, ?_⟩))
  | `(tactic| sizeOf_list_dec) => `(tactic| (refine wp_def ?_; simp only [startD, List.map_cons, List.map_nil, List.length_cons, List.length_nil, Nat.reduceAdd, Nat.reduceSub, List.replicate_succ, List.replicate_zero, List.cons_append, List.nil_append, Nat.zero_add]))
section
variable {A : Ad} {U S S' : Store} {Q : SL.D → Store → Prop} {X : Ex → Store → Prop} {ws b : List Nat} {bars : List (List Nat)} {F : Nat → List Nat} {bd : SL.D} {x y : Nat}
abbrev gB (bars : List (List Nat)) : Nat → List Nat := strt (sortT bars)
theorem lookK_no : ∀ {ks : List Key} {ds : List SL.D} {q : Key}, memK ks q = false → lookK ks ds q = none
  | [], [], _, _ => rfl
  | [], _ :: _, _, _ => rfl
  | _ :: _, [], _, _ => rfl
  | k :: ks, e :: ds, q, h => by
    unfold lookK
    unfold memK at h
    by_cases hk : k = q
    · subst hk; simp at h
    · rw [if_neg hk]
      refine lookK_no ?_
      unfold memK
      simp at h ⊢
      first | exact h.2 | exact fun x hx => h.2 x hx
theorem lookK_non {K : List Nat} {f : Nat → SL.D} (h : y ∉ K) : lookK (K.map kS) (K.map f) (kS y) = none := lookK_no (by rw [memK_map]; exact decide_eq_false h)
theorem ok_ltr (f : List Nat) : okL 0 (f.map dS) = true := okL_iff.mpr fun d hd => by
  obtain ⟨z, _, rfl⟩ := List.mem_map.mp hd
  rfl
theorem gB_sd (hw : Wls ws) (hb : Brs ws bars) {t : Nat} (h : t ∈ gB bars x) : Sd ws t := strt_sd hw hb h
theorem gB_eg (hw : Wls ws) (hb : Brs ws bars) {s t : Nat} (ht : Sd ws t) : t ∈ gB bars s ↔ Eg bars s t := strt_eg hw hb ht
inductive ChO (bars : List (List Nat)) (s t : Nat) : SL.D → Prop
  | non (h : ¬ Rg (gB bars) s t) : ChO bars s t .non
  | lst {l : List Nat} (h : Pa (gB bars) s t l) (m : ∀ l', Pa (gB bars) s t l' → l.length ≤ l'.length) : ChO bars s t (.lst (l.map dS))
theorem chain_ok (hw : Wls ws) (hB : BdAt S bd bars) (hb : Brs ws bars) (hn : bars.length ≤ 1000) (hx : Sd ws x) (hy : Sd ws y) (k : ∀ d, ChO bars x y d → Q d S) : wp (φchain A [.str ws, bd, dS x, dS y] S) Q X := by
  have hl := hw.2.2
  have hsl := sidN_len ws
  sizeOf_list_dec
  unfold m_chain
  refine wf_seq (wf_expr ?_)
  repeat infer_instance
  refine look_walls_wd hw ?_
  refine wf_seq (wf_expr ?_)
  repeat infer_instance
  refine look_barsG_wd hw hB (fun b hm => br_asc hw (hb.1 b hm)) hn (fun _ => ?_) (fun j hj _ => absurd hj (by rw [brs_ok hb]; simp))
  refine wf_seq (wf_if (wp_orB (wp_notB (wp_trM (wp_appA (wp_cons (wp_v rfl (wp_cons (wp_v rfl (wp_nil ⟨rfl, is_side_wd (sd_asc hw hx) (gt_bl ⟨fun z => ?_, fun _ => ?_⟩)⟩))))))))))
  · rw [decide_eq_true (show loL x ∈ ws from hx)] at z; cases z
  refine wp_notB (wp_trM (wp_appA (wp_cons (wp_v rfl (wp_cons (wp_v rfl (wp_nil ⟨rfl, is_side_wd (sd_asc hw hy) (gt_bl ⟨fun z => ?_, fun _ => wf_nxM ?_⟩)⟩)))))))
  · rw [decide_eq_true (show loL y ∈ ws from hy)] at z; cases z
  refine wf_ret (wp_get1 (wp_appA (wp_cons (wp_appA (wp_cons (wp_v rfl (wp_cons (wp_v rfl (wp_nil ⟨rfl, straightG_wd hB hw hb hn ?_⟩)))))))))
  refine wp_cons (wp_v rfl (wp_nil ⟨rfl, ?_⟩))
  refine chainsP_wd (g := strt (sortT bars)) (fun k hk t ht => (mem_sidN hw).mpr (strt_sd hw hb ht)) ((mem_sidN hw).mpr hx) (by omega) fun K ch hKn hK hKs hpa hsh => ⟨rfl, wp_v rfl ?_⟩
  have hKl := nodup_le hKn hKs
  refine ⟨_, rfl, ?_⟩
  show wp (finV S ((lookK (K.map kS) (K.map fun c => SL.D.lst ((ch c).map dS)) (kS y)).getD .non) S) Q X
  by_cases hyK : y ∈ K
  · have e : (lookK (K.map kS) (K.map fun c => SL.D.lst ((ch c).map dS)) (kS y)).getD .non = .lst ((ch y).map dS) := by rw [lookK_map (α := Nat) (fun c => SL.D.lst ((ch c).map dS)) hyK]; rfl
    rw [e]
    exact wp_finS (ok_ltr _) (k _ (.lst (hpa y hyK) (fun l' h => hsh y hyK l' h)))
  · have e : (lookK (K.map kS) (K.map fun c => SL.D.lst ((ch c).map dS)) (kS y)).getD .non = .non := by rw [lookK_non hyK]; rfl
    rw [e]
    exact wp_finS rfl (k _ (.non fun z => hyK ((hK y).mpr z)))
abbrev xSide (A : Ad) : Ex := ⟨A.BadSide, ["word"], gx_BadSide []⟩
theorem chain_bad {t : List Nat} (hw : Wls ws) (hB : BdAt S bd bars) (hb : Brs ws bars) (hn : bars.length ≤ 1000) (ht : ∀ c ∈ t, c < 128) (htl : t.length ≤ 1000) (hno : sdB ws t = false) (hy : Sd ws y) (kx : X (xSide A) S) : wp (φchain A [.str ws, bd, .str t, dS y] S) Q X := by
  sizeOf_list_dec
  unfold m_chain
  refine wf_seq (wf_expr ?_)
  repeat infer_instance
  refine look_walls_wd hw ?_
  refine wf_seq (wf_expr ?_)
  repeat infer_instance
  refine look_barsG_wd hw hB (fun b hm => br_asc hw (hb.1 b hm)) hn (fun _ => ?_) (fun j hj _ => absurd hj (by rw [brs_ok hb]; simp))
  refine wf_seq (wf_if (wp_orB (wp_notB (wp_trM (wp_appA (wp_cons (wp_v rfl (wp_cons (wp_v rfl (wp_nil ⟨rfl, is_side_any ht htl (gt_bl ?_)⟩))))))))))
  rw [hno]
  exact ⟨fun _ => ⟨fun _ => wf_raise (wp_mkx (wp_nil ⟨⟨rfl, rfl⟩, wp_finXS rfl kx⟩)), fun z => (by cases z)⟩, fun z => (by cases z)⟩
theorem chain_bad2 {t : List Nat} (hw : Wls ws) (hB : BdAt S bd bars) (hb : Brs ws bars) (hn : bars.length ≤ 1000) (ht : ∀ c ∈ t, c < 128) (htl : t.length ≤ 1000) (hno : sdB ws t = false) (hx : Sd ws x) (kx : X (xSide A) S) : wp (φchain A [.str ws, bd, dS x, .str t] S) Q X := by
  sizeOf_list_dec
  unfold m_chain
  refine wf_seq (wf_expr ?_)
  repeat infer_instance
  refine look_walls_wd hw ?_
  refine wf_seq (wf_expr ?_)
  repeat infer_instance
  refine look_barsG_wd hw hB (fun b hm => br_asc hw (hb.1 b hm)) hn (fun _ => ?_) (fun j hj _ => absurd hj (by rw [brs_ok hb]; simp))
  refine wf_seq (wf_if (wp_orB (wp_notB (wp_trM (wp_appA (wp_cons (wp_v rfl (wp_cons (wp_v rfl (wp_nil ⟨rfl, is_side_wd (sd_asc hw hx) (gt_bl ⟨fun z => ?_, fun _ => ?_⟩)⟩))))))))))
  · rw [decide_eq_true (show loL x ∈ ws from hx)] at z; cases z
  refine wp_notB (wp_trM (wp_appA (wp_cons (wp_v rfl (wp_cons (wp_v rfl (wp_nil ⟨rfl, is_side_any ht htl (gt_bl ?_)⟩)))))))
  rw [hno]
  exact ⟨fun _ => wf_raise (wp_mkx (wp_nil ⟨⟨rfl, rfl⟩, wp_finXS rfl kx⟩)), fun z => (by cases z)⟩
theorem gw_bdIn {a : List Nat} {PP : SL.D → Prop} (h : BdAt S bd bars) (k : PP (.bl (decide (a ∈ bars)))) : GW (inG S (.str a) bd) PP := ⟨_, by unfold inG; rw [inB_strs (xs := bars) h.q h.ns], k⟩
theorem straight_law {s t : Nat} (hw : Wls ws) (hB : BdAt S bd bars) (ht : Sd ws t) (k : Q (.bl (cB (Eg bars s t))) S) : wp (φlaw_straight A [bd, dS s, dS t] S) Q X := by
  sizeOf_list_dec
  unfold m_law_straight
  refine wf_seq (wf_asg (wp_appA (wp_cons (wp_v rfl (wp_nil ⟨rfl, law_other_wd hw ht ?_⟩)))))
  refine wf_ret (wp_orM (wp_op2 (wp_op2 (wp_v rfl (wp_v rfl (gw_addS (wp_v rfl (gw_bdIn hB (gt_bl ⟨fun h => ?_, fun h => ?_⟩)))))))))
  · rw [h]
    refine wp_finS rfl ?_
    rw [cB_t (show Eg bars s t from .inl (of_decide_eq_true h))] at k
    exact k
  · refine wp_op2 (wp_op2 (wp_v rfl (wp_v rfl (gw_addS (wp_v rfl (gw_bdIn hB (wp_finS rfl ?_)))))))
    have e : decide ([swL t] ++ [s] ∈ bars) = cB (Eg bars s t) := by
      rw [Bool.eq_iff_iff, decide_eq_true_iff, cB_iff]
      exact ⟨fun z => .inr z, fun z => z.resolve_left (of_decide_eq_false h)⟩
    rw [e]
    exact k
theorem rn_sd (hw : Wls ws) (hb : Brs ws bars) (hx : Sd ws x) {n t : Nat} (h : Rn (gB bars) x n t) : Sd ws t := by
  cases h with
  | zero => exact hx
  | succ _ e => exact gB_sd hw hb e
theorem lv_down {g : Nat → List Nat} {s t m n : Nat} (h : Lv g s m t) (hn : n ≤ m) : ∃ u, Lv g s n u := by
  induction m generalizing t with
  | zero => exact ⟨t, by rwa [show n = 0 by omega]⟩
  | succ m ih =>
    by_cases e : n = m + 1
    · exact ⟨t, e ▸ h⟩
    · obtain ⟨u, hu, _⟩ := lv_step h
      exact ih hu (by omega)
theorem rg_lv {g : Nat → List Nat} {s t : Nat} (h : Rg g s t) : ∃ m, Lv g s m t := by
  obtain ⟨m, hm⟩ : ∃ m, Rn g s m t := by
    induction h with
    | self => exact ⟨0, .zero⟩
    | step _ e ih =>
      obtain ⟨m, hm⟩ := ih
      exact ⟨m + 1, .succ hm e⟩
  have key : ∀ m, Rn g s m t → ∃ k, Lv g s k t := fun m => by
    induction m using Nat.strongRecOn with
    | _ m ih =>
      intro hm
      by_cases e : ∃ k, k < m ∧ Rn g s k t
      · obtain ⟨k, hk, hr⟩ := e
        exact ih k hk hr
      · exact ⟨m, hm, fun k hk hr => e ⟨k, hk, hr⟩⟩
  exact key m hm
inductive FarO (bars : List (List Nat)) (s t : Nat) : SL.D → Prop
  | non (h : ¬ Rg (gB bars) s t) : FarO bars s t .non
  | int {n : Nat} (h : Lv (gB bars) s n t) (hn : n ≤ 60) : FarO bars s t (.int (n : Nat))
theorem letters_str (l : List Nat) : l.map dS = (l.map fun c => [c]).map SL.D.str := by rw [List.map_map]; rfl
theorem mem_ltr {l : List Nat} {c : Nat} : [c] ∈ (l.map fun c => [c]) ↔ c ∈ l := by simp
theorem far_wd (hw : Wls ws) (hB : BdAt S bd bars) (hb : Brs ws bars) (hx : Sd ws x) (hy : Sd ws y) (k : ∀ d, FarO bars x y d → Q d S) : wp (φlaw_far A [.str ws, bd, dS x, dS y] S) Q X := by
  have hwl := hw.2.2
  have hLm : ∀ c, c ∈ ws ++ ws.map upL ↔ Sd ws c := fun c => by
    refine ⟨fun h => up_sd hw h, fun h => ?_⟩
    rcases sd_cases hw h with ⟨a, b, e, d⟩ | ⟨a, b, e, d⟩
    · exact List.mem_append_left _ (by rw [← e]; exact h)
    · refine List.mem_append_right _ (List.mem_map.mpr ⟨loL c, h, ?_⟩)
      have := (sd_small hw (show loL c ∈ ws from h)).2.2.2.1
      rw [this, e]; omega
  have hLn : (ws ++ ws.map upL).Nodup := by
    have hwn : ws.Nodup := hw.1.imp fun h => Nat.ne_of_lt h
    rw [List.nodup_append]
    refine ⟨hwn, ?_, fun a ha b hb e => ?_⟩
    · refine List.pairwise_map.mpr (List.Pairwise.imp_of_mem (fun {a b} ha hb h e => h ?_) hwn)
      rw [(sd_small hw ha).2.2.2.1, (sd_small hw hb).2.2.2.1] at e
      have := hw.2.1 a ha
      have := hw.2.1 b hb
      omega
    · obtain ⟨z, hz, rfl⟩ := List.mem_map.mp hb
      rw [(sd_small hw hz).2.2.2.1] at e
      have := hw.2.1 a ha
      have := hw.2.1 z hz
      omega
  have hLl : (ws ++ ws.map upL).length ≤ 24 := by rw [List.length_append, List.length_map]; omega
  sizeOf_list_dec
  unfold m_law_far
  refine wf_seq (wf_asg (sides_op hw rfl (by simp) (by decide) ?_))
  generalize ws ++ ws.map upL = L at hLm hLn hLl ⊢
  refine wf_seq (wf_asgT (wp_callG (wp_cons (wp_callG (wp_cons (wp_v rfl (wp_nil (gw_lst (wp_cons (wp_c (wp_nil (gw_tup ⟨_, rfl, ?_⟩ (by simp))))) (by simp)))))))))
  refine wf_seq (wf_asg (wp_callG (wp_cons (wp_v rfl (wp_nil (gw_lst ?_ (by simp)))))))
  refine wf_seq ?_
  refine wf_while (n := 60) (fun μ δ S' => ∃ (n : Nat) (N Kn : List Nat) (ni : Int) (y8 y9 y10 y11 : Option SL.D), S' = S ∧ δ = [some (.str ws), some bd, some (dS x), some (dS y), some (.lst (L.map dS)), some (.lst (N.map dS)), some (.int ni), some (.lst (Kn.map dS)), y8, y9, y10, y11] ∧ ni = (n : Int) ∧
    (∀ u, u ∈ N ↔ Lv (gB bars) x n u) ∧ (∀ u, u ∈ Kn ↔ ∃ m, m ≤ n ∧ Rn (gB bars) x m u) ∧ Kn.Nodup ∧ N.Nodup ∧ (∀ m, m < n → ¬ Lv (gB bars) x m y) ∧ n + μ = 60 ∧ 2 * (25 - Kn.length) + (if N = [] then 0 else 1) ≤ μ) ?_ ?_
  · refine ⟨0, [x], [x], 0, _, _, _, _, rfl, rfl, rfl, fun u => ?_, fun u => ?_, by simp, by simp, fun m hm => absurd hm (Nat.not_lt_zero _), rfl, by simp⟩
    · rw [List.mem_singleton]
      exact ⟨fun e => e ▸ ⟨.zero, fun m hm => absurd hm (Nat.not_lt_zero _)⟩, fun h => by cases h.1; rfl⟩
    · rw [List.mem_singleton]
      exact ⟨fun e => e ▸ ⟨0, Nat.le_refl _, .zero⟩, fun ⟨m, hm, h⟩ => by
        obtain rfl : m = 0 := by omega
        cases h; rfl⟩
  · rintro μ δ S' ⟨n, N, Kn, ni, y8, y9, y10, y11, rfl, rfl, hni, hN, hK, hKn, hNn, hno, hnm, hμ⟩
    have hNs : ∀ u ∈ N, Sd ws u := fun u hu => rn_sd hw hb hx ((hN u).mp hu).1
    have hNl : N.length ≤ 24 := Nat.le_trans (nodup_le hNn fun u hu => (hLm u).mpr (hNs u hu)) hLl
    have hKl : Kn.length ≤ 24 := Nat.le_trans (nodup_le hKn fun u hu => by
      obtain ⟨m, _, h⟩ := (hK u).mp hu
      exact (hLm u).mpr (rn_sd hw hb hx h)) hLl
    refine wp_cmpB (wp_v rfl (wp_callG (wp_nil (gw_lst (gb_neD 1 1 .rf .rf (Pi.map fun c hc => Pi.s fun z hz => by rw [List.mem_singleton.mp hz]; exact sd_asc hw (hNs c hc)) Pi.nil ⟨fun hne => ?_, fun he => ?_⟩) (by simp)))))
    · have hne : N ≠ [] := fun z => by rw [z, cB_t (show SL.D.lst (([] : List Nat).map dS) = .lst [] from rfl)] at hne; cases hne
      rw [if_neg hne] at hμ
      refine ⟨μ - 1, by omega, ?_⟩
      refine wf_seq (wf_if (wp_cmpB (wp_v rfl (wp_v rfl ?_))))
      rw [letters_str N]
      refine gb_inL ⟨fun hin => ?_, fun hin => wf_nxM ?_⟩
      · have hin := (hN y).mp (mem_ltr.mp (of_decide_eq_true hin))
        refine wf_ret (wp_v rfl (wp_finS rfl ?_))
        rw [hni]
        exact k _ (.int hin (by omega))
      have hin : ¬ Lv (gB bars) x n y := fun z => of_decide_eq_false hin (mem_ltr.mpr ((hN y).mpr z))
      rw [← letters_str N]
      refine wf_seq (wf_asg (wp_compK L dS (fun u => !decide (u ∈ Kn)) ?_))
      refine wp_srcV (wp_v rfl ⟨rfl, fun _ => rfl, by omega, fun u hu acc => ?_, ?_⟩)
      · refine gw_bind ?_
        refine wp_cmpB (wp_v rfl (wp_v rfl ?_))
        rw [letters_str Kn]
        refine gb_ninL ⟨rfl, ?_, fun _ => wp_v rfl ⟨rfl, rfl, rfl⟩⟩
        rw [decide_eq_decide.mpr (mem_ltr (l := Kn) (c := u))]
      have hfl := List.length_filter_le (fun u => !decide (u ∈ Kn)) L
      refine wf_seq (wf_asg (wp_compK (L.filter fun u => !decide (u ∈ Kn)) dS (fun u => cB (∃ h ∈ N, Eg bars h u)) ?_))
      refine wp_srcV (wp_v rfl ⟨rfl, fun _ => rfl, by omega, fun u hu acc => ?_, ?_⟩)
      · have hu' := (hLm u).mp (List.mem_filter.mp hu).1
        refine gw_bind ?_
        refine wp_trM (wp_callG (wp_cons (wp_compE N dS (fun h => cB (Eg bars h u)) SL.D.bl ?_)))
        refine wp_srcV (wp_v rfl ⟨rfl, fun _ => rfl, by omega, fun h hh acc2 => ?_, ?_⟩)
        · refine gw_bind ?_
          refine wp_appA (wp_cons (wp_v rfl (wp_cons (wp_v rfl (wp_cons (wp_v rfl (wp_nil ⟨rfl, straight_law hw hB.app.app hu' ⟨rfl, rfl, rfl⟩⟩)))))))
        refine wp_nil (gw_any (gt_bl ⟨rfl, ?_, fun _ => wp_v rfl ⟨rfl, rfl, rfl⟩⟩))
        rw [Bool.eq_iff_iff, cB_iff]
        simp only [List.any_map, List.any_eq_true, Function.comp, id]
        exact ⟨fun ⟨h, h1, h2⟩ => ⟨h, h1, cB_iff.mp h2⟩, fun ⟨h, h1, h2⟩ => ⟨h, h1, cB_iff.mpr h2⟩⟩
      generalize hN' : (L.filter fun u => !decide (u ∈ Kn)).filter (fun u => cB (∃ h ∈ N, Eg bars h u)) = N'
      have hN'n : N'.Nodup := by rw [← hN']; exact (hLn.filter _).filter _
      have hN'm : ∀ u, u ∈ N' ↔ Lv (gB bars) x (n + 1) u := fun u => by
        rw [← hN', List.mem_filter, List.mem_filter, cB_iff, hLm, Bool.not_eq_true', decide_eq_false_iff_not, hK]
        constructor
        · rintro ⟨⟨h1, h2⟩, h, hh, he⟩
          exact lv_of ((hN h).mp hh) ((gB_eg hw hb h1).mpr he) fun m hm z => h2 ⟨m, hm, z⟩
        · intro h
          obtain ⟨t, ht, e⟩ := lv_step h
          have hu := gB_sd hw hb e
          exact ⟨⟨hu, fun ⟨m, hm, z⟩ => h.2 m (by omega) z⟩, t, (hN t).mpr ht, (gB_eg hw hb hu).mp e⟩
      have hN'l : N'.length ≤ 24 := Nat.le_trans (nodup_le hN'n fun u hu => (hLm u).mpr (rn_sd hw hb hx ((hN'm u).mp hu).1)) hLl
      refine wf_seq (wf_asg (wp_op2 (wp_v rfl (wp_v rfl (gw_addL ?_ (by rw [List.length_map, List.length_map]; omega))))))
      rw [← List.map_append]
      refine wf_asg (wp_op2 (wp_v rfl (wp_c (gw_addI ?_))))
      have hdis : ∀ u ∈ N', u ∉ Kn := fun u hu z => by
        obtain ⟨m, hm, h⟩ := (hK u).mp z
        exact ((hN'm u).mp hu).2 m (by omega) h
      refine ⟨n + 1, N', Kn ++ N', ni + 1, _, _, _, _, rfl, rfl, by omega, hN'm, fun u => ?_, ?_, hN'n, fun m hm z => ?_, by omega, ?_⟩
      · rw [List.mem_append, hK, hN'm]
        constructor
        · rintro (⟨m, hm, h⟩ | h)
          · exact ⟨m, by omega, h⟩
          · exact ⟨n + 1, Nat.le_refl _, h.1⟩
        · rintro ⟨m, hm, h⟩
          by_cases e : ∃ m, m ≤ n ∧ Rn (gB bars) x m u
          · exact .inl e
          · refine .inr ⟨?_, fun q hq z => e ⟨q, by omega, z⟩⟩
            rcases Nat.lt_or_ge n m with z | z
            · rwa [show m = n + 1 by omega] at h
            · exact absurd ⟨m, z, h⟩ e
      · rw [List.nodup_append]
        exact ⟨hKn, hN'n, fun a ha b hb e => hdis b hb (e ▸ ha)⟩
      · rcases Nat.lt_or_ge m n with q | q
        · exact hno m q z
        · rw [show m = n by omega] at z
          exact hin z
      · rw [List.length_append]
        by_cases e : N' = []
        · rw [if_pos e, e, List.length_nil]; omega
        · rw [if_neg e]
          have := List.length_pos_iff.mpr e
          omega
    · have he : N = [] := by
        cases N with
        | nil => rfl
        | cons _ _ => rw [cB_f (fun z => by cases z)] at he; cases he
      refine wf_ret (wp_c (wp_finS rfl (k _ (.non fun hr => ?_))))
      obtain ⟨m, hm⟩ := rg_lv hr
      rcases Nat.lt_or_ge m n with q | q
      · exact hno m q hm
      · obtain ⟨u, hu⟩ := lv_down hm q
        have := (hN u).mpr hu
        rw [he] at this
        cases this
theorem draw_side {δ : DEnv} (hw : Wls ws) (d : Dw U S) (h1 : δ[1]? = some (some (.loc 0))) (h2 : δ[2]? = some (some (.str ws))) (k : ∀ c S', Dw U S' → Sd ws c → Q (dS c) S') : wp (appM 2 (φlaw_of A) (consM (vM 1) (consM (callG lstG (consM (appM 2 (φlaw_of A) (consM (vM 1) (consM (vM 2) nilM)) []) (consM (mtS upperG (appM 2 (φlaw_of A) (consM (vM 1) (consM (vM 2) nilM)) []) nilM) nilM))) nilM)) [] δ S) Q X := by
  have hwl := hw.2.2
  have hne : ws ≠ [] := fun z => by subst z; simp at hwl
  refine wp_appA (wp_cons (wp_v h1 (wp_cons (wp_callG (wp_cons (wp_appA (wp_cons (wp_v h1 (wp_cons (wp_v h2 (wp_nil ⟨rfl, ?_⟩)))))))))))
  refine wd_ofS d (fun a S1 d1 ha => ?_) hne (by omega)
  refine wp_cons (wp_mtS (wp_appA (wp_cons (wp_v h1 (wp_cons (wp_v h2 (wp_nil ⟨rfl, ?_⟩)))))))
  refine wd_ofS d1 (fun b S2 d2 hb => ⟨rfl, wp_nil (gw_upper1 (wp_nil (gw_lst (wp_nil ⟨rfl, ?_⟩) (by simp))) (by have := hw.2.1 b hb; omega))⟩) hne (by omega)
  refine of_wd d2 rfl fun x S3 d3 hx => ?_
  simp only [List.mem_cons, List.not_mem_nil, or_false] at hx
  rcases hx with rfl | rfl
  · exact k a S3 d3 (sd_small hw ha).1
  · refine k (upL b) S3 d3 ?_
    rw [(sd_small hw hb).2.2.2.1]
    exact (sd_small hw hb).2.2.2.2.1
theorem gw_ixLastL {ds : List SL.D} {e : SL.D} {PP : SL.D → Prop} (h1 : 1 ≤ ds.length) (h : ds[ds.length - 1]? = some e) (k : PP e) : GW (ixG S (.lst ds) (.int (-1))) PP := ⟨_, at_last (m := ds.length - 1) (by omega) h, k⟩
variable {κ : List (Str × Addr)} {l0 l1 : LamT}
theorem tab1_dw {T : Store} (h : Dw (.tab A.t_law lamN :: T) S) : ∃ i : Nat, S[i]? = some (.tab A.t_law lamN) := by
  obtain ⟨ns, i, w, s, c, _, rfl⟩ := h
  exact ⟨1, rfl⟩
theorem law_wf {n : Nat} (hn : n = 11) (h : Dw [.tab A.t_law lamN] S) : wf (mlaw A κ l0 l1 (none :: some (.loc 0) :: List.replicate n none) S) noB (fun d _ => d = .bl true) noXs noB noB := by
  subst hn
  show wf (mlaw A κ l0 l1 [none, some (.loc 0), none, none, none, none, none, none, none, none, none, none, none] S) _ _ _ _ _
  unfold mlaw m_law
  refine wf_seq (wf_asg (wp_appA (wp_cons (wp_v rfl (wp_cons (wp_op2 (wp_c (wp_appA (wp_cons (wp_v rfl (wp_cons (wp_c (wp_nil ⟨rfl, ?_⟩)))))))))))))
  refine wd_draw h (by decide) (by decide) fun r S2 d2 hr => gw_addI (wp_nil ⟨rfl, shuts_wd ⟨by omega, by omega⟩ d2 fun ws S3 d3 hw hwm => ?_⟩)
  have hwl := hw.2.2
  have hpl := prs_len hw.2.2.2 ws.length
  refine wf_seq (wf_asg (wp_lstLM (wp_nil ⟨by simp, ?_⟩)))
  refine wf_seq ?_
  refine wf_for (fun k δ S' => ∃ (bars : List (List Nat)) (y4 y5 : Option SL.D) (S4 : Store), δ = [none, some (.loc 0), some (.str ws), some (.loc S4.length), y4, y5, none, none, none, none, none, none, none] ∧ S4.length = S3.length ∧ S' = S4 ++ [.lst (bars.map SL.D.str)] ∧ Dw [.tab A.t_law lamN] S4 ∧ Brs ws bars ∧ bars.length ≤ k) ?_
  refine wp_src1 (wp_q (Q := fun d S' => ∃ m : Nat, d = SL.D.int (m : Int) ∧ m ≤ 15 ∧ (0 < m → 1 < ws.length) ∧ ∃ S4, S' = S4 ++ [Cell.lst []] ∧ Dw [.tab A.t_law lamN] S4) ?_ ?_)
  · refine wp_ifM (wp_cmpB (wp_callG (wp_cons (wp_v rfl (wp_nil (gw_lenS (wp_c (gb_gtI ⟨fun hgt => ?_, fun _ => wp_c ⟨0, rfl, by omega, fun h => absurd h (Nat.lt_irrefl _), _, rfl, d3⟩⟩))))))))
    have hgt := of_decide_eq_true hgt
    refine wp_appA (wp_cons (wp_v rfl (wp_cons (wp_c (wp_nil ⟨rfl, ?_⟩)))))
    refine wd_draw (d3.app (t := [.lst []])) (by decide) (by decide) fun m S4 d4 hm => ?_
    obtain ⟨S5, d5, rfl⟩ := d4.cut
    exact ⟨m, rfl, by omega, fun _ => by omega, S5, rfl, d5⟩
  rintro dm S' ⟨m, rfl, hm10, hlen, S4, rfl, d4⟩
  have e34 : S4.length = S3.length := d4.len.trans d3.len.symm
  rw [← e34]
  refine ⟨_, rfl, by omega, _, fun _ _ _ _ => rng_it _, ⟨[], _, _, S4, rfl, rfl, rfl, d4, ⟨fun b hb => (by cases hb), List.nodup_nil⟩, by simp⟩, ?_, ?_⟩
  · rintro k dk hdk δ S' ⟨bars, y4, y5, S5, rfl, e5, rfl, d5, hb, hbl⟩
    have hk : k < m := by
      have := (List.getElem?_eq_some_iff.mp hdk).1
      rw [List.length_map, List.length_range] at this
      simpa using this
    have hl1 : 1 < ws.length := hlen (by omega)
    refine gw_bind ?_
    have hz : (prs ws ws.length).map SL.D.str ≠ [] := fun z => by
      have hz : prs ws ws.length = [] := by simpa using z
      have hin : [ws[0], ws[1]] ∈ prs ws ws.length := (prs_br hw).mpr ⟨ws[0], ws[1], rfl, (sd_small hw (List.getElem_mem _)).1, (sd_small hw (List.getElem_mem _)).1, by
        rw [(sd_small hw (List.getElem_mem _)).2.1, (sd_small hw (List.getElem_mem _)).2.1]
        exact List.pairwise_iff_getElem.mp hw.1 0 1 (by omega) hl1 (by omega)⟩
      rw [hz] at hin
      cases hin
    refine wf_seq (wf_asg (wp_appA (wp_cons (wp_v rfl (wp_cons (wp_appA (wp_cons (wp_v rfl (wp_nil ⟨rfl, pairs_wd hw (wp_nil ⟨rfl, ?_⟩)⟩)))))))))
    refine of_wd (d5.app (t := [.lst (bars.map SL.D.str)])) (ok_strs _) (fun x S6 d6 hx => ?_) hz (by rw [List.length_map]; omega)
    obtain ⟨b, hbm, rfl⟩ := List.mem_map.mp hx
    obtain ⟨S7, d7, rfl⟩ := d6.cut
    have e7 : S7.length = S5.length := d7.len.trans d5.len.symm
    rw [← e7]
    have hbr := (prs_br hw).mp hbm
    refine wf_if (wp_cmpB (wp_v rfl (wp_v rfl (gb_ninLs (xs := bars) asQ_end (fun l h => by cases h) ⟨fun h2 => ?_, fun h2 => wf_nxM ⟨bars, _, _, S7, rfl, e7.trans e5, rfl, d7, hb, by omega⟩⟩))))
    have h2 : b ∉ bars := by simpa using h2
    refine wf_expr (wp_append rfl (wp_cons (wp_v rfl (wp_nil ⟨S7, _, rfl, rfl, rfl, by rw [List.length_map]; omega, ?_⟩))))
    refine ⟨bars ++ [b], _, _, S7, rfl, e7.trans e5, by rw [List.map_append]; rfl, d7, ⟨fun c hc => ?_, ?_⟩, by rw [List.length_append]; simp; omega⟩
    · rcases List.mem_append.mp hc with z | z
      · exact hb.1 c z
      · rw [List.mem_singleton.mp z]; exact hbr
    · rw [List.nodup_append]
      exact ⟨hb.2, by simp, fun a ha c hc e => by rw [List.mem_singleton.mp hc] at e; exact h2 (e ▸ ha)⟩
  rintro δ S' ⟨bars, y4, y5, S5, rfl, e5, rfl, d5, hb, hbl⟩
  rw [List.length_map, List.length_range, Int.toNat_natCast] at hbl
  have hbn : bars.length ≤ 1000 := by omega
  have hBd : ∀ (S6 t : Store), S6.length = S5.length → BdAt (S6 ++ [Cell.lst (bars.map SL.D.str)] ++ t) (.loc S5.length) bars := fun S6 t e => (BdAt.loc (by rw [← e]; simp)).app
  refine wf_seq ?_
  refine wf_for (fun j δ S' => ∃ (y4 y6 y7 y8 y9 y10 : Option SL.D) (S6 : Store), δ = [none, some (.loc 0), some (.str ws), some (.loc S5.length), y4, y5, y6, y7, y8, y9, y10, none, none] ∧ S' = S6 ++ [.lst (bars.map SL.D.str)] ∧ S6.length = S5.length ∧ Dw [.tab A.t_law lamN] S6) ?_
  refine wp_src1 (wp_c ⟨_, rfl, by decide, _, fun _ _ _ _ => rng_it _, ⟨_, none, none, none, none, none, S5, rfl, rfl, rfl, d5⟩, ?_, ?_⟩)
  · rintro j d hd δ S' ⟨y4, y6, y7, y8, y9, y10, S6, rfl, rfl, e6, d6⟩
    refine gw_bind ?_
    refine wf_seq (wf_asg (draw_side hw (d6.app (t := [.lst (bars.map SL.D.str)])) rfl rfl fun x S7 d7 hx => ?_))
    refine wf_seq (wf_asg (draw_side hw d7 rfl rfl fun y S8 d8 hy => ?_))
    obtain ⟨S9, d9, rfl⟩ := d8.cut
    have e9 : S9.length = S5.length := d9.len.trans d5.len.symm
    have hB := hBd S9 [] e9
    rw [List.append_nil] at hB
    refine wf_seq (wf_asg (wp_appA (wp_cons (wp_v rfl (wp_cons (wp_callG (wp_cons (wp_v rfl (wp_nil ⟨.lst (bars.map SL.D.str), ?_, ?_⟩)))))))))
    · have := hB.q
      show list3G _ [.loc S5.length] = _
      show (match (match asQ (S9 ++ [Cell.lst (bars.map SL.D.str)]) (.loc S5.length) with | some ds => some (SL.D.lst ds) | none => none) with | some d => some d | none => _) = _
      simp only [this]
    refine wp_cons (wp_v rfl (wp_cons (wp_v rfl (wp_nil ⟨rfl, chain_ok hw BdAt.lst hb hbn hx hy fun d1 hd1 => ?_⟩))))
    refine wf_seq (wf_asg (wp_appA (wp_cons (wp_v rfl (wp_cons (wp_v rfl (wp_cons (wp_v rfl (wp_cons (wp_v rfl (wp_nil ⟨rfl, far_wd hw hB hb hx hy fun d2 hd2 => ?_⟩)))))))))))
    cases hd2 with
    | non hno =>
      have e1 : d1 = .non := by
        cases hd1 with
        | non _ => rfl
        | lst h _ => exact absurd h.rn.1.rg hno
      subst e1
      refine wf_seq (wf_if (wp_cmpB (wp_v rfl (wp_c ⟨true, rfl, fun _ => ?_, fun z => (by cases z)⟩))))
      refine wf_seq (wf_if (wp_cmpB (wp_v rfl (wp_c ⟨false, rfl, fun z => (by cases z), fun _ => wf_nxM ?_⟩))))
      exact wf_ctM ⟨_, _, _, _, _, _, S9, rfl, rfl, e9, d9⟩
    | @int n hlv hn60 =>
      obtain ⟨l, rfl, hpa, hmin⟩ : ∃ l : List Nat, d1 = .lst (l.map dS) ∧ Pa (gB bars) x y l ∧ ∀ l', Pa (gB bars) x y l' → l.length ≤ l'.length := by
        cases hd1 with
        | non hno => exact absurd hlv.1.rg hno
        | lst h m => exact ⟨_, rfl, h, m⟩
      have hll : l.length = n + 1 := by
        obtain ⟨l', h1, h2⟩ := hlv.1.pa
        have h3 := hmin l' h1
        obtain ⟨h4, h5⟩ := hpa.rn
        rcases Nat.lt_or_ge (l.length - 1) n with z | z
        · exact absurd h4 (hlv.2 _ z)
        · omega
      obtain ⟨h0, h9⟩ := hpa.ends
      obtain ⟨ni, hni⟩ : ∃ z : Int, z = ((n : Nat) : Int) := ⟨_, rfl⟩
      rw [← hni]
      refine wf_seq (wf_if (wp_cmpB (wp_v rfl (wp_c ⟨false, rfl, fun z => (by cases z), fun _ => wf_nxM ?_⟩))))
      refine wf_seq (wf_if (wp_orB (wp_notB (wp_trM (wp_callG (wp_cons (wp_v rfl (wp_cons (wp_c (wp_nil (gw_isi (nm := "list") (t := "list") (p := true) (gt_bl ⟨fun z => (by cases z), fun _ => ?_⟩))))))))))))
      refine wp_orB (wp_cmpB (wp_callG (wp_cons (wp_v rfl (wp_nil (gw_lenL (wp_op2 (wp_v rfl (wp_c (gw_addI (gb_neI ?_)))))))))))
      rw [List.length_map, decide_eq_true (show ((l.length : Nat) : Int) = ni + 1 by omega)]
      refine ⟨fun z => (by cases z), fun _ => ?_⟩
      refine wp_orB (wp_cmpB (wp_op2 (wp_v rfl (wp_c (gw_ixL (i := 0) (d := dS x) (by rw [List.getElem?_map, h0]; rfl) (wp_v rfl (gb_neS ?_)))))))
      rw [decide_eq_true rfl]
      refine ⟨fun z => (by cases z), fun _ => ?_⟩
      refine wp_cmpB (wp_op2 (wp_v rfl (wp_op1 (wp_c (gw_negI (gw_ixLastL (e := dS y) (by rw [List.length_map]; omega) (by rw [List.length_map, List.getElem?_map, h9]; rfl) (wp_v rfl (gb_neS ?_))))))))
      rw [decide_eq_true rfl]
      refine ⟨fun z => (by cases z), fun _ => wf_nxM ?_⟩
      refine wf_if (wp_notB (wp_trM (wp_callG (wp_cons (wp_compE (List.range n) dI (fun _ => true) SL.D.bl ?_)))))
      refine wp_src1 (wp_v rfl ⟨ni, rfl, by omega, fun t => ?_, by rw [List.length_range]; omega, fun q hq acc => ?_, ?_⟩)
      · rw [rng_it, show ni.toNat = n by omega]
      · have hq := List.mem_range.mp hq
        refine gw_bind ?_
        obtain ⟨a, ha⟩ : ∃ a, l[q]? = some a := ⟨_, List.getElem?_eq_getElem (by omega)⟩
        obtain ⟨b, hb2⟩ : ∃ b, l[q + 1]? = some b := ⟨_, List.getElem?_eq_getElem (by omega)⟩
        have hed := hpa.edge q a b ha hb2
        have hbs := gB_sd hw hb hed
        refine wp_appA (wp_cons (wp_v rfl (wp_cons (wp_op2 (wp_v rfl (wp_v rfl (gw_ixL (i := q) (d := dS a) (by rw [List.getElem?_map, ha]; rfl) ?_)))))))
        refine wp_cons (wp_op2 (wp_v rfl (wp_op2 (wp_v rfl (wp_c (gw_addI ?_))))))
        rw [show ((q : Nat) : Int) + 1 = ((q + 1 : Nat) : Int) by omega]
        refine gw_ixL (i := q + 1) (d := dS b) (by rw [List.getElem?_map, hb2]; rfl) (wp_nil ⟨rfl, straight_law hw (hBd S9 _ e9) hbs ⟨rfl, ?_, rfl⟩⟩)
        rw [cB_t ((gB_eg hw hb hbs).mp hed)]
      refine wp_nil (gw_all (gt_bl ?_))
      rw [show ((List.range n).map fun _ => true).all id = true by rw [List.all_map]; exact List.all_eq_true.mpr fun _ _ => rfl]
      exact ⟨fun z => (by cases z), fun _ => wf_nxM ⟨_, _, _, _, _, _, S9, rfl, rfl, e9, d9⟩⟩
  · rintro δ S' ⟨y4, y6, y7, y8, y9, y10, S6, rfl, rfl, e6, d6⟩
    refine wf_seq (wf_asg (wp_appA (wp_cons (wp_v rfl (wp_cons (wp_callG (wp_cons (wp_c (wp_cons (wp_c (wp_cons (wp_c (wp_cons (wp_c (wp_cons (wp_c (wp_cons (wp_appA (wp_cons (wp_v rfl (wp_nil ⟨rfl, strange_is hw fun z hz1 hz2 => wp_nil (gw_lst (wp_nil ⟨rfl, ?_⟩) (by simp))⟩)))))))))))))))))))))
    have hzl := lets_in z hz1
    refine of_wd (d6.app (t := [.lst (bars.map SL.D.str)])) rfl fun o S7 d7 ho => ?_
    obtain ⟨o, rfl, ho1, ho2, ho3⟩ : ∃ w : List Nat, o = .str w ∧ (∀ c ∈ w, c < 128) ∧ w.length ≤ 2 ∧ sdB ws w = false := by
      have no1 : ∀ c : Nat, loL c ∉ ws → sdB ws [c] = false := fun c hc => decide_eq_false hc
      have nsm : ∀ c : Nat, ¬ (97 ≤ c ∧ c ≤ 122) → c ∉ ws := fun c hc z => hc (hw.2.1 c z)
      simp only [List.mem_cons, List.not_mem_nil, or_false] at ho
      rcases ho with rfl | rfl | rfl | rfl | rfl | rfl
      · exact ⟨_, rfl, by decide, by decide, rfl⟩
      · exact ⟨_, rfl, by decide, by decide, rfl⟩
      · exact ⟨_, rfl, by decide, by decide, no1 _ (nsm _ (by decide))⟩
      · exact ⟨_, rfl, by decide, by decide, no1 _ (nsm _ (by decide))⟩
      · exact ⟨_, rfl, by decide, by decide, no1 _ (nsm _ (by decide))⟩
      · refine ⟨_, rfl, fun c hc => by rw [List.mem_singleton.mp hc]; omega, by simp, no1 _ ?_⟩
        rw [show loL z = z by unfold loL; rw [if_neg (by omega)]]
        exact hz2
    obtain ⟨S8, d8, rfl⟩ := d7.cut
    have e8 : S8.length = S5.length := d8.len.trans d5.len.symm
    have e0 : ws[0]? = some ws[0] := List.getElem?_eq_getElem (by omega)
    have hw0 := hw.2.1 ws[0] (List.getElem_mem _)
    obtain ⟨_, _, _, eu, su, _⟩ := sd_small hw (List.getElem_mem (show 0 < ws.length by omega))
    refine wf_seq (wf_asg (wp_mtS (wp_op2 (wp_v rfl (wp_c (gw_ixS (i := 0) e0 ⟨rfl, wp_nil (gw_upper1 ?_ (by omega))⟩))))))
    rw [eu]
    have TT := tab1_dw (d8.app (t := [.lst (bars.map SL.D.str)]))
    refine wf_ret (wp_andM (wp_ref1 TT ?_))
    refine wp_appA (wp_cons (wp_v rfl (wp_cons (wp_v rfl (wp_cons (wp_v rfl (wp_cons (wp_v rfl (wp_nil ⟨rfl, chain_bad hw (hBd S8 _ e8) hb hbn ho1 (by omega) ho3 su ?_⟩)))))))))
    refine ⟨by simp [ctOf], _, rfl, gw_eqD 1 1 .rf .rf (Pi.consT trivial (Pi.consT (Pi.s (by decide)) Pi.nilT)) (Pi.consT trivial (Pi.consT (Pi.s (by decide)) Pi.nilT)) ?_⟩
    rw [cB_t rfl]
    refine gt_bl ⟨fun _ => ?_, fun z => (by cases z)⟩
    have TT2 : ∃ i : Nat, (S8 ++ [Cell.lst (bars.map SL.D.str)] ++ [Cell.fn κ 0 l0])[i]? = some (.tab A.t_law lamN) := by
      obtain ⟨i, hi⟩ := TT
      exact ⟨i, by rw [List.getElem?_append_left (List.getElem?_eq_some_iff.mp hi).1]; exact hi⟩
    refine wp_ref1 TT2 ?_
    rw [List.append_assoc]
    refine wp_appN (wp_nil (wp_cons (wp_v rfl (wp_cons (wp_v rfl (wp_cons (wp_v rfl (wp_cons (wp_v rfl (wp_nil ⟨⟨rfl, rfl⟩, rfl, chain_bad2 hw (hBd S8 _ e8) hb hbn ho1 (by omega) ho3 su ?_⟩))))))))))
    refine ⟨by simp [ctOf], _, rfl, gw_eqD 1 1 .rf .rf (Pi.consT trivial (Pi.consT (Pi.s (by decide)) Pi.nilT)) (Pi.consT trivial (Pi.consT (Pi.s (by decide)) Pi.nilT)) ?_⟩
    rw [cB_t rfl]
theorem law_true (A : Ad) (κ : List (Str × Addr)) (l0 l1 : LamT) (ns : List Int) (hl : ns.length ≤ 63) : ∃ S', mlaw A κ l0 l1 (none :: some (.loc 0) :: List.replicate 11 none) (drawS ns 0 0 (seedOf ns) 0 :: tabsS [(A.t_law, "law.<locals>.<lambda>")] ) = .rt (.bl true) S' := by
  obtain ⟨d, S', e, rfl⟩ := wf_rt (law_wf (A := A) (κ := κ) (l0 := l0) (l1 := l1) (n := 11) rfl ⟨ns, 0, 0, seedOf ns, 0, by omega, rfl⟩)
  exact ⟨S', e⟩
end
end K03
open PySem PySem.W PySem.Calls PyProof.Rows
theorem PySem.Challenge.cw_nearcall_k03_chains_of_forcing_holds : PySem.Challenge.rw_nearcall_k03_chains_of_forcing.Holds := by
  w_on; o_law
  refine HandSHeadRun.head_any (r := OpenLaw.row PySem.Challenge.rw_nearcall_k03_chains_of_forcing) (q := view (OpenLaw.row PySem.Challenge.rw_nearcall_k03_chains_of_forcing).prog [33]) (H := K03.hk) (ob := K03.ob) (M := 40000) (loose := K03.loose) (d := HandSHeadRun.topDef (OpenLaw.row PySem.Challenge.rw_nearcall_k03_chains_of_forcing).prog 33) (kwd := []) K03.ob_eq
    (by kernel_rfl) (fun s => by kernel_rfl) K03.run (by kernel_rfl) (by kernel_rfl) (by kernel_rfl) (by rfl) (by first | assumption | decide +kernel) (by decide +kernel) ⟨rfl, rfl, rfl, rfl, rfl, by decide +kernel⟩ ?hw ?hc
  case hw => w_witness2
  case hc =>
    refine LamX.walk_ofTsE (l := PySem.Challenge.rw_nearcall_k03_chains_of_forcing) (n := 63) (k := 12) (x := "_law_script") (CX := fun _ => L2.CX0) rfl (by decide) (by kernel_rfl) ⟨rfl, by decide, by decide⟩ ?F (fun _ _ _ _ _ z => z)
    intro w mg fa h Y G hmg0
    obtain ⟨K, KX, c, cT⟩ := Y
    have hmg : mg ("law" : PySem.Str) = some (.ref fa) := by
      have e : (HandSHeadRun.topDef (OpenLaw.row PySem.Challenge.rw_nearcall_k03_chains_of_forcing).prog 33).name = ("law" : PySem.Str) := by kernel_rfl
      rw [← e]
      exact hmg0
    obtain ⟨E, x⟩ := K03.fx_of KX G c
    have e := hmg.symm.trans x.m_law
    cases e
    have b := x.F_law.bindsA (ps := ["_law_script"]) fun _ _ _ _ _ _ us hl => match us, hl with | [_], _ => rfl
    have hE : ∀ p ∈ K03.tfL.map (He.cT K), ∃ q ∈ K03.tfL, He.cT K q = p := fun p hp => List.mem_map.mp hp
    refine ⟨K, KX, _, K03.tfL.map (He.cT K), _, fun p hp => ?_, fun p hp => ?_, fun p hp => ?_, fun s v => b s [v] rfl, fun H a ns hl _ hH hS κ => ⟨a, ns, rfl, hS, hl, K03.law_true _ κ K03.lt_0 K03.lt_1 ns hl, by simp, fun t ht => ?_, fun _ => rfl⟩, fun base _ _ hB => SL.no_out (K03.p_law x (fun p hp => hB _ (List.mem_map_of_mem hp)) (Nat.le_refl _)) fun _ _ _ _ h => h⟩
    · obtain ⟨q, hq, rfl⟩ := hE p hp
      exact cT.empty q hq
    · obtain ⟨q, hq, rfl⟩ := hE p hp
      exact cT.out q hq
    · obtain ⟨q, hq, rfl⟩ := hE p hp
      exact PySem.W.codeHd_of_K KX (cT.hd q hq)
    · simp only [List.mem_cons, List.not_mem_nil, or_false] at ht
      rcases ht with rfl
      all_goals exact LamX.TabS.nil (hH _ (List.mem_map_of_mem (by simp [K03.tfL])))
