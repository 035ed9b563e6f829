import PyProof.Rows.All
import Wide.All
import OpenK.AllK
import Wide.FinOn
import HandS.ForMost
import HandS.Exc
import HandS.ExcInit
import HandS.WordsExc
import HandS.CallSlots
import HandS.IsInst
import HandS.Flow
import HandS.Conv
import HandS.Wide
import HandS.Style
import HandS.StrMore
import HandS.FStr
import HandS.TupAny
import HandS.Deep
import PyProof.StrOps2
import HandS.TupLe
import PyProof.Rows.StrCase
import PyProof.StrBlockL
import HandS.Defaults
import HandS.ExcField
import HandS.ClsMeth
import HandS.Words
import HandS.Head0
import HandS.Head1
import HandS.Head2
import HandS.HeadEnd
import HandS.HeadHook1
import HandS.HeadHook2
import HandS.HeadHook3
import HandS.HeadHook4
import PyProof.CollectIter
import PyProof.WalksMore
import PyProof.ListStr
import KE.DatumOrd
import HandS.SortKw
import PySem.Challenge.RW_nearcall_k27_rows_written_and_read
set_option Elab.async false
set_option linter.all false
set_option maxRecDepth 100000
set_option maxHeartbeats 4000000
/-! SL: values as trees, mutable objects in a store; rules over HandS. -/
namespace SL
open PySem PySem.Spec L2
open PyProof.Rows hiding St

/-- a Python value, as data -/
inductive D where
  | non | bl (b : Bool) | int (i : Int) | str (l : List Nat)
  | tup (xs : List D) | lst (xs : List D) | dct (ks : List Key) (ds : List D) | obj (C : Addr) (ns : List Str) (ds : List D)
  | loc (n : Nat) | raw (v : V) | exn (a dd : Addr) (ns : List Str) (ds : List D)
/-- a mutable object -/
inductive Cell where
  | lst (xs : List D) | dct (ks : List Key) (ds : List D) | obj (C : Addr) (ns : List Str) (ds : List D)
abbrev Store := List Cell
abbrev DEnv := List (Option D)
/-- an exception: its class, its fields -/
structure Ex where
  C : Addr
  ns : List Str
  ds : List D
inductive Res (α : Type) where
  | ok (a : α) (S : Store)
  | exc (x : Ex) (S : Store)
  | stuck
def Res.bind {α β : Type} (r : Res α) (f : α → Store → Res β) : Res β := match r with
  | .ok a S => f a S
  | .exc x S => .exc x S
  | .stuck => .stuck

mutual
def Rep (H : Hp) (ρ : List Addr) : D → V → Prop
  | .non, v => v = .non
  | .bl b, v => v = .bl b
  | .int i, v => v = .int i
  | .str l, v => v = .str ⟨l.toArray⟩
  | .raw u, v => v = u
  | .loc n, v => ∃ a, ρ[n]? = some a ∧ v = .ref a
  | .tup ds, v => ∃ a vs, v = .ref a ∧ H a = some (.tup vs) ∧ a ∉ ρ ∧ Reps H ρ ds vs
  | .lst ds, v => ∃ a vs, v = .ref a ∧ H a = some (.lst vs) ∧ a ∉ ρ ∧ Reps H ρ ds vs
  | .dct ks ds, v => ∃ a vs, v = .ref a ∧ H a = some (.dK (ks.zip vs)) ∧ a ∉ ρ ∧ ks.length = ds.length ∧ Reps H ρ ds vs
  | .obj C ns ds, v => ∃ a dx vs, v = .ref a ∧ H a = some (.ins C dx (ns.zip vs)) ∧ a ∉ ρ ∧ ns.length = ds.length ∧ Reps H ρ ds vs
  | .exn a dd ns ds, v => ∃ vs, v = .ref a ∧ H dd = some (.xd (ns.zip vs)) ∧ dd ∉ ρ ∧ ns.length = ds.length ∧ Reps H ρ ds vs
def Reps (H : Hp) (ρ : List Addr) : List D → List V → Prop
  | [], vs => vs = []
  | d :: ds, vs => ∃ v r, vs = v :: r ∧ Rep H ρ d v ∧ Reps H ρ ds r
end
def RepC (H : Hp) (ρ : List Addr) (a : Addr) : Cell → Prop
  | .lst ds => ∃ vs, H a = some (.lst vs) ∧ Reps H ρ ds vs
  | .dct ks ds => ∃ vs, H a = some (.dK (ks.zip vs)) ∧ ks.length = ds.length ∧ Reps H ρ ds vs
  | .obj C ns ds => ∃ dx vs, H a = some (.ins C dx (ns.zip vs)) ∧ ns.length = ds.length ∧ Reps H ρ ds vs
/-- an exception's class and own dict -/
def RepX (H : Hp) (ρ : List Addr) (x : Ex) (cls : Value) (dd : Option Addr) : Prop :=
  cls = .ref x.C ∧ ∃ d vs, dd = some d ∧ H d = some (.xd (x.ns.zip vs)) ∧ d ∉ ρ ∧ x.ns.length = x.ds.length ∧ Reps H ρ x.ds vs
/-- the store stands in the heap -/
structure StS (H : Hp) (S : Store) (ρ : List Addr) : Prop where
  len : ρ.length = S.length
  nd : ρ.Nodup
  cells : ∀ (n : Nat) (a : Addr) (c : Cell), ρ[n]? = some a → S[n]? = some c → RepC H ρ a c
/-- the slots -/
def EnvS (H : Hp) (ρ : List Addr) (δ : DEnv) (σ : St) : Prop := δ.length = σ.length ∧ ∀ (i : Nat) (d : D), δ[i]? = some (some d) → ∃ v, σ[i]? = some (some v) ∧ Rep H ρ d v
structure StE (σ : St) (H : Hp) (δ : DEnv) (S : Store) (ρ : List Addr) : Prop where
  st : StS H S ρ
  env : EnvS H ρ δ σ
/-- the heap goes on: the store's objects may change, new ones come, all else stands (tables may grow) -/
structure Nx (H : Hp) (ρ : List Addr) (H' : Hp) (ρ' : List Addr) : Prop where
  pre : ∃ t, ρ' = ρ ++ t
  new : ∀ a, a ∈ ρ' → a ∉ ρ → H a = none
  thr : ∀ a, H' a = none → H a = none
  stay : ∀ a o, H a = some o → a ∉ ρ → (∀ ps, o ≠ .tbl ps) → H' a = some o
  tbl : ∀ a ps, H a = some (.tbl ps) → a ∉ ρ → ∃ more, H' a = some (.tbl (ps ++ more))
section
variable {H H' H1 H2 : Hp} {ρ ρ' ρ1 ρ2 : List Addr} {a p : Addr} {o : HO}
theorem Nx.refl (H : Hp) (ρ : List Addr) : Nx H ρ H ρ := ⟨⟨[], by simp⟩, fun a h n => absurd h n, fun a h => h, fun a o h _ _ => h, fun a ps h _ => ⟨#[], by simpa using h⟩⟩
theorem Nx.mem (n : Nx H ρ H' ρ') (h : a ∈ ρ) : a ∈ ρ' := by
  obtain ⟨t, rfl⟩ := n.pre
  exact List.mem_append_left _ h
theorem Nx.notin (n : Nx H ρ H' ρ') (h : H a = some o) (k : a ∉ ρ) : a ∉ ρ' := fun z => by
  have := n.new a z k
  rw [h] at this
  cases this
theorem Nx.at (n : Nx H ρ H' ρ') {i : Nat} (h : ρ[i]? = some a) : ρ'[i]? = some a := by
  obtain ⟨t, rfl⟩ := n.pre
  have hl := (List.getElem?_eq_some_iff.mp h).1
  rw [List.getElem?_append_left hl]
  exact h
theorem Nx.trans (a : Nx H ρ H1 ρ1) (b : Nx H1 ρ1 H2 ρ2) : Nx H ρ H2 ρ2 where
  pre := by
    obtain ⟨t, rfl⟩ := a.pre
    obtain ⟨u, rfl⟩ := b.pre
    exact ⟨t ++ u, by simp⟩
  new := fun x h n => by
    by_cases h1 : x ∈ ρ1
    · exact a.new x h1 n
    · exact a.thr x (b.new x h h1)
  thr := fun x h => a.thr x (b.thr x h)
  stay := fun x o h n t => b.stay x o (a.stay x o h n t) (a.notin h n) t
  tbl := fun x ps h n => by
    obtain ⟨m, e⟩ := a.tbl x ps h n
    obtain ⟨m2, e2⟩ := b.tbl x _ e (a.notin h n)
    exact ⟨m ++ m2, by rw [e2, Array.append_assoc]⟩
/-- something new that is not the store's -/
theorem Nx.alloc (hp : H p = none) : Nx H ρ (upd H p o) ρ where
  pre := ⟨[], by simp⟩
  new := fun a h n => absurd h n
  thr := fun a h => by
    by_cases e : a = p
    · rw [e]; exact hp
    · rw [upd_ne e] at h; exact h
  stay := fun a u h _ _ => by rw [upd_ne (ne_of_none h hp)]; exact h
  tbl := fun a ps h _ => ⟨#[], by rw [upd_ne (ne_of_none h hp), h]; simp⟩
/-- something new of the store's -/
theorem Nx.push (hp : H p = none) : Nx H ρ (upd H p o) (ρ ++ [p]) where
  pre := ⟨[p], rfl⟩
  new := fun a h n => by
    rcases List.mem_append.mp h with h | h
    · exact absurd h n
    · rw [List.mem_singleton.mp h]; exact hp
  thr := (Nx.alloc (ρ := ρ) hp).thr
  stay := (Nx.alloc (ρ := ρ) hp).stay
  tbl := (Nx.alloc (ρ := ρ) hp).tbl
/-- the store's object at a changes -/
theorem Nx.set (ha : a ∈ ρ) (hn : H a ≠ none) : Nx H ρ (upd H a o) ρ where
  pre := ⟨[], by simp⟩
  new := fun b h n => absurd h n
  thr := fun b h => by
    by_cases e : b = a
    · rw [e, upd_same] at h; cases h
    · rw [upd_ne e] at h; exact h
  stay := fun b u h n _ => by rw [upd_ne (fun e => n (by rw [e]; exact ha))]; exact h
  tbl := fun b ps h n => ⟨#[], by rw [upd_ne (fun e => n (by rw [e]; exact ha)), h]; simp⟩
end
section
variable {H H' : Hp} {ρ ρ' : List Addr} {a p : Addr} {o : HO} {xs : List V}
mutual
theorem Rep.mono (n : Nx H ρ H' ρ') : ∀ (d : D) (v : V), Rep H ρ d v → Rep H' ρ' d v
  | .non, v, h => h
  | .bl b, v, h => h
  | .int i, v, h => h
  | .str x, v, h => h
  | .raw u, v, h => h
  | .loc m, v, h => by
    obtain ⟨a, h1, h2⟩ := h
    exact ⟨a, n.at h1, h2⟩
  | .tup ds, v, h => by
    obtain ⟨a, vs, e, h1, k, h2⟩ := h
    exact ⟨a, vs, e, n.stay a _ h1 k (fun ps z => by cases z), n.notin h1 k, Reps.mono n ds vs h2⟩
  | .lst ds, v, h => by
    obtain ⟨a, vs, e, h1, k, h2⟩ := h
    exact ⟨a, vs, e, n.stay a _ h1 k (fun ps z => by cases z), n.notin h1 k, Reps.mono n ds vs h2⟩
  | .dct ks ds, v, h => by
    obtain ⟨a, vs, e, h1, k, l, h2⟩ := h
    exact ⟨a, vs, e, n.stay a _ h1 k (fun ps z => by cases z), n.notin h1 k, l, Reps.mono n ds vs h2⟩
  | .obj C ns ds, v, h => by
    obtain ⟨a, dx, vs, e, h1, k, l, h2⟩ := h
    exact ⟨a, dx, vs, e, n.stay a _ h1 k (fun ps z => by cases z), n.notin h1 k, l, Reps.mono n ds vs h2⟩
  | .exn a dd ns ds, v, h => by
    obtain ⟨vs, e, h1, k, l, h2⟩ := h
    exact ⟨vs, e, n.stay dd _ h1 k (fun ps z => by cases z), n.notin h1 k, l, Reps.mono n ds vs h2⟩
theorem Reps.mono (n : Nx H ρ H' ρ') : ∀ (ds : List D) (vs : List V), Reps H ρ ds vs → Reps H' ρ' ds vs
  | [], vs, h => h
  | d :: ds, vs, h => by
    obtain ⟨v, r, e, h1, h2⟩ := h
    exact ⟨v, r, e, Rep.mono n d v h1, Reps.mono n ds r h2⟩
end
theorem Reps.len : ∀ {ds : List D} {vs : List V}, Reps H ρ ds vs → ds.length = vs.length
  | [], vs, h => by cases h; rfl
  | d :: ds, vs, h => by
    obtain ⟨v, r, rfl, _, h2⟩ := h
    simp [Reps.len h2]
theorem Reps.get : ∀ {ds : List D} {vs : List V} {i : Nat} {v : V}, Reps H ρ ds vs → vs[i]? = some v → ∃ d, ds[i]? = some d ∧ Rep H ρ d v
  | [], vs, i, v, h, e => by cases h; simp at e
  | d :: ds, vs, 0, v, h, e => by
    obtain ⟨v, r, rfl, h1, h2⟩ := h
    simp at e
    subst e
    exact ⟨d, rfl, h1⟩
  | d :: ds, vs, i + 1, v, h, e => by
    obtain ⟨v, r, rfl, h1, h2⟩ := h
    simp at e
    obtain ⟨d', e1, e2⟩ := Reps.get h2 e
    exact ⟨d', by simpa using e1, e2⟩
theorem Reps.getD : ∀ {ds : List D} {vs : List V} {i : Nat} {d : D}, Reps H ρ ds vs → ds[i]? = some d → ∃ v, vs[i]? = some v ∧ Rep H ρ d v
  | [], vs, i, d, h, e => by simp at e
  | d' :: ds, vs, 0, d, h, e => by
    obtain ⟨v, r, rfl, h1, h2⟩ := h
    simp at e
    subst e
    exact ⟨v, rfl, h1⟩
  | d' :: ds, vs, i + 1, d, h, e => by
    obtain ⟨v, r, rfl, h1, h2⟩ := h
    simp at e
    obtain ⟨v', e1, e2⟩ := Reps.getD h2 e
    exact ⟨v', by simpa using e1, e2⟩
theorem Reps.append : ∀ {ds es : List D} {vs us : List V}, Reps H ρ ds vs → Reps H ρ es us → Reps H ρ (ds ++ es) (vs ++ us)
  | [], es, vs, us, h, k => by cases h; exact k
  | d :: ds, es, vs, us, h, k => by
    obtain ⟨v, r, rfl, h1, h2⟩ := h
    exact ⟨v, r ++ us, rfl, h1, Reps.append h2 k⟩
theorem Reps.nil : Reps H ρ [] [] := rfl
theorem Reps.cons {d : D} {v : V} {ds : List D} {vs : List V} (h : Rep H ρ d v) (k : Reps H ρ ds vs) : Reps H ρ (d :: ds) (v :: vs) := ⟨v, vs, rfl, h, k⟩
theorem Reps.one {d : D} {v : V} (h : Rep H ρ d v) : Reps H ρ [d] [v] := ⟨v, [], rfl, h, rfl⟩
theorem Reps.take : ∀ {ds : List D} {vs : List V} (n : Nat), Reps H ρ ds vs → Reps H ρ (ds.take n) (vs.take n)
  | ds, vs, 0, h => rfl
  | [], vs, n + 1, h => by cases h; rfl
  | d :: ds, vs, n + 1, h => by
    obtain ⟨v, r, rfl, h1, h2⟩ := h
    exact ⟨v, _, rfl, h1, Reps.take n h2⟩
theorem Reps.drop : ∀ {ds : List D} {vs : List V} (n : Nat), Reps H ρ ds vs → Reps H ρ (ds.drop n) (vs.drop n)
  | ds, vs, 0, h => h
  | [], vs, n + 1, h => by cases h; rfl
  | d :: ds, vs, n + 1, h => by
    obtain ⟨v, r, rfl, h1, h2⟩ := h
    exact Reps.drop n h2
theorem Reps.set : ∀ {ds : List D} {vs : List V} (n : Nat) {d : D} {v : V}, Reps H ρ ds vs → Rep H ρ d v → Reps H ρ (ds.set n d) (vs.set n v)
  | [], vs, n, d, v, h, k => by cases h; rfl
  | d' :: ds, vs, 0, d, v, h, k => by
    obtain ⟨v', r, rfl, h1, h2⟩ := h
    exact ⟨v, r, rfl, k, h2⟩
  | d' :: ds, vs, n + 1, d, v, h, k => by
    obtain ⟨v', r, rfl, h1, h2⟩ := h
    exact ⟨v', _, rfl, h1, Reps.set n h2 k⟩
theorem Reps.eraseIdx : ∀ {ds : List D} {vs : List V} (n : Nat), Reps H ρ ds vs → Reps H ρ (ds.eraseIdx n) (vs.eraseIdx n)
  | [], vs, n, h => by cases h; rfl
  | d' :: ds, vs, 0, h => by
    obtain ⟨v', r, rfl, h1, h2⟩ := h
    exact h2
  | d' :: ds, vs, n + 1, h => by
    obtain ⟨v', r, rfl, h1, h2⟩ := h
    exact ⟨v', _, rfl, h1, Reps.eraseIdx n h2⟩
theorem Reps.reverse : ∀ {ds : List D} {vs : List V}, Reps H ρ ds vs → Reps H ρ ds.reverse vs.reverse
  | [], vs, h => by cases h; rfl
  | d :: ds, vs, h => by
    obtain ⟨v, r, rfl, h1, h2⟩ := h
    rw [List.reverse_cons, List.reverse_cons]
    exact (Reps.reverse h2).append (Reps.one h1)
theorem RepC.mono {c : Cell} (n : Nx H ρ H' ρ') (e : H' a = H a) (h : RepC H ρ a c) : RepC H' ρ' a c := by
  cases c with
  | lst ds =>
    obtain ⟨vs, h1, h2⟩ := h
    exact ⟨vs, e.trans h1, Reps.mono n _ _ h2⟩
  | dct ks ds =>
    obtain ⟨vs, h1, l, h2⟩ := h
    exact ⟨vs, e.trans h1, l, Reps.mono n _ _ h2⟩
  | obj C ns ds =>
    obtain ⟨dx, vs, h1, l, h2⟩ := h
    exact ⟨dx, vs, e.trans h1, l, Reps.mono n _ _ h2⟩
theorem RepC.ne {c : Cell} (h : RepC H ρ a c) : H a ≠ none := by
  cases c with
  | lst ds => obtain ⟨vs, h1, _⟩ := h; rw [h1]; simp
  | dct ks ds => obtain ⟨vs, h1, _⟩ := h; rw [h1]; simp
  | obj C ns ds => obtain ⟨dx, vs, h1, _⟩ := h; rw [h1]; simp
variable {S : Store}
theorem StS.trk (h : StS H S ρ) (ha : a ∈ ρ) : H a ≠ none := by
  obtain ⟨n, hn, e⟩ := List.getElem_of_mem ha
  have e1 : ρ[n]? = some a := by rw [List.getElem?_eq_getElem hn, e]
  have hS : n < S.length := by rw [← h.len]; exact hn
  exact (h.cells n a _ e1 (List.getElem?_eq_getElem hS)).ne
theorem StS.alloc (h : StS H S ρ) (hp : H p = none) : StS (upd H p o) S ρ :=
  ⟨h.len, h.nd, fun n a c e1 e2 => (h.cells n a c e1 e2).mono (Nx.alloc hp) (upd_ne (fun z => by
    have := (h.cells n a c e1 e2).ne
    rw [z] at this
    exact this hp))⟩
theorem StS.push {c : Cell} (h : StS H S ρ) (hp : H p = none) (hc : RepC (upd H p o) (ρ ++ [p]) p c) : StS (upd H p o) (S ++ [c]) (ρ ++ [p]) := by
  have hpn : p ∉ ρ := fun z => h.trk z hp
  refine ⟨by simp [h.len], ?_, fun n a c' e1 e2 => ?_⟩
  · rw [List.nodup_append]
    refine ⟨h.nd, by simp, fun x hx y hy => ?_⟩
    rw [List.mem_singleton] at hy
    intro z
    subst z
    subst hy
    exact hpn hx
  · by_cases hn : n < ρ.length
    · rw [List.getElem?_append_left hn] at e1
      rw [List.getElem?_append_left (by rw [← h.len]; exact hn)] at e2
      refine (h.cells n a c' e1 e2).mono (Nx.push hp) (upd_ne (fun z => ?_))
      subst z
      exact hpn (List.mem_of_getElem? e1)
    · have hn' : ρ.length ≤ n := Nat.le_of_not_lt hn
      rw [List.getElem?_append_right hn'] at e1
      rw [List.getElem?_append_right (by rw [← h.len]; exact hn')] at e2
      have hz : n - ρ.length = 0 := by
        rcases Nat.eq_zero_or_pos (n - ρ.length) with z | z
        · exact z
        · rw [List.getElem?_eq_none (by simp only [List.length_singleton]; omega)] at e1
          cases e1
      rw [hz] at e1
      rw [← h.len, hz] at e2
      simp at e1 e2
      subst e1
      subst e2
      exact hc
theorem StS.set {c : Cell} {n : Nat} (h : StS H S ρ) (ha : ρ[n]? = some a) (hc : RepC (upd H a o) ρ a c) : StS (upd H a o) (S.set n c) ρ := by
  have hm : a ∈ ρ := List.mem_of_getElem? ha
  have nx : Nx H ρ (upd H a o) ρ := Nx.set hm (h.trk hm)
  refine ⟨by simp [h.len], h.nd, fun m b c' e1 e2 => ?_⟩
  by_cases hmn : m = n
  · subst hmn
    rw [ha] at e1
    cases e1
    have hl : m < S.length := by rw [← h.len]; exact (List.getElem?_eq_some_iff.mp ha).1
    rw [List.getElem?_set_self hl] at e2
    cases e2
    exact hc
  · rw [List.getElem?_set_ne (fun z => hmn z.symm)] at e2
    refine (h.cells m b c' e1 e2).mono nx (upd_ne (fun z => hmn ?_))
    subst z
    exact (List.getElem?_inj (List.getElem?_eq_some_iff.mp e1).1 h.nd).mp (e1.trans ha.symm)
theorem EnvS.mono {δ : DEnv} {σ : St} (n : Nx H ρ H' ρ') (h : EnvS H ρ δ σ) : EnvS H' ρ' δ σ := ⟨h.1, fun i d e => by
  obtain ⟨v, e1, r⟩ := h.2 i d e
  exact ⟨v, e1, Rep.mono n _ _ r⟩⟩
theorem EnvS.set {δ : DEnv} {σ : St} {d : D} {v : V} (i : Nat) (h : EnvS H ρ δ σ) (r : Rep H ρ d v) : EnvS H ρ (δ.set i (some d)) (σ.set i (some v)) := by
  refine ⟨by simp [h.1], fun j d' e => ?_⟩
  by_cases hj : j = i
  · subst hj
    by_cases hl : j < δ.length
    · rw [List.getElem?_set_self hl] at e
      cases e
      exact ⟨v, by rw [List.getElem?_set_self (by rw [← h.1]; exact hl)], r⟩
    · rw [List.getElem?_eq_none (by simpa using hl)] at e
      cases e
  · rw [List.getElem?_set_ne (fun z => hj z.symm)] at e ⊢
    exact h.2 j d' e
theorem EnvS.unset {δ : DEnv} {σ : St} {w : Option V} (i : Nat) (h : EnvS H ρ δ σ) : EnvS H ρ (δ.set i none) (σ.set i w) := by
  refine ⟨by simp [h.1], fun j d' e => ?_⟩
  by_cases hj : j = i
  · subst hj
    by_cases hl : j < δ.length
    · rw [List.getElem?_set_self hl] at e
      cases e
    · rw [List.getElem?_eq_none (by simpa using hl)] at e
      cases e
  · rw [List.getElem?_set_ne (fun z => hj z.symm)] at e ⊢
    exact h.2 j d' e
theorem StE.next {σ : St} {δ : DEnv} {S' : Store} (I : StE σ H δ S ρ) (n : Nx H ρ H' ρ') (h : StS H' S' ρ') : StE σ H' δ S' ρ' := ⟨h, I.env.mono n⟩
end

/-! ### readings that follow the trees -/
section
variable (W : WX) {α β : Type} (R : Hp → List Addr → α → β → Prop)
def RunG (σ : St) (H : Hp) (ρ : List Addr) (r : Res α) (Q : β → Hp → Prop) : Prop := match r with
  | .ok a S' => ∀ b H' ρ', Nx H ρ H' ρ' → StS H' S' ρ' → R H' ρ' a b → Q b H'
  | .exc x S' => ∀ c dd H' ρ', Nx H ρ H' ρ' → StS H' S' ρ' → RepX H' ρ' x c dd → W c dd σ H'
  | .stuck => False
def tG (m : DEnv → Store → Res α) : St → Hp → (β → Hp → Prop) → Prop := fun σ H Q => ∃ δ S ρ, StE σ H δ S ρ ∧ RunG W R σ H ρ (m δ S) Q
end
abbrev tE (W : WX) (m : DEnv → Store → Res D) : TE := tG W (Rep) m
abbrev tA (W : WX) (m : DEnv → Store → Res (List D)) : TA := tG W (Reps) m
abbrev EqR : Hp → List Addr → Bool → Bool → Prop := fun _ _ a b => a = b
abbrev tT (W : WX) (m : DEnv → Store → Res Bool) : TT := tG W EqR m
section
variable {W : WX} {α β α2 β2 : Type} {R : Hp → List Addr → α → β → Prop} {R2 : Hp → List Addr → α2 → β2 → Prop} {σ : St} {H : Hp} {δ : DEnv} {S : Store} {ρ : List Addr}
/-- one, then another -/
theorem bindG {m1 : DEnv → Store → Res α} {k : α → Store → Res α2} {Q : β2 → Hp → Prop} {P : β → Hp → Prop} (I : StE σ H δ S ρ) (h : RunG W R2 σ H ρ ((m1 δ S).bind k) Q)
    (hk : ∀ a b S1 H1 ρ1, Nx H ρ H1 ρ1 → StE σ H1 δ S1 ρ1 → R H1 ρ1 a b → RunG W R2 σ H1 ρ1 (k a S1) Q → P b H1) : tG W R m1 σ H P := by
  refine ⟨δ, S, ρ, I, ?_⟩
  cases e : m1 δ S with
  | ok a S1 =>
    rw [e] at h
    intro b H1 ρ1 n st r
    refine hk a b S1 H1 ρ1 n (I.next n st) r ?_
    have h' : RunG W R2 σ H ρ (k a S1) Q := h
    cases e2 : k a S1 with
    | ok a2 S2 =>
      rw [e2] at h'
      exact fun b2 H2 ρ2 n2 st2 r2 => h' b2 H2 ρ2 (n.trans n2) st2 r2
    | exc x S2 =>
      rw [e2] at h'
      exact fun c dd H2 ρ2 n2 st2 r2 => h' c dd H2 ρ2 (n.trans n2) st2 r2
    | stuck =>
      rw [e2] at h'
      exact h'
  | exc x S1 =>
    rw [e] at h
    exact h
  | stuck =>
    rw [e] at h
    exact h
theorem RunG.ok {a : α} {b : β} {Q : β → Hp → Prop} (h : RunG W R σ H ρ (.ok a S) Q) (st : StS H S ρ) (r : R H ρ a b) : Q b H := h b H ρ (Nx.refl H ρ) st r
theorem RunG.okN {a : α} {b : β} {Q : β → Hp → Prop} {H' : Hp} {ρ' : List Addr} (h : RunG W R σ H ρ (.ok a S) Q) (n : Nx H ρ H' ρ') (st : StS H' S ρ') (r : R H' ρ' a b) : Q b H' := h b H' ρ' n st r
theorem RunG.imp {r : Res α} {Q Q' : β → Hp → Prop} (h : RunG W R σ H ρ r Q) (hq : ∀ b H', Q b H' → Q' b H') : RunG W R σ H ρ r Q' := by
  cases r with
  | ok a S' => exact fun b H' ρ' n st rr => hq _ _ (h b H' ρ' n st rr)
  | exc x S' => exact h
  | stuck => exact h
end
theorem PE.weak {X : Cx} {e : Expr} {t t' : TE} (h : PE X e t) (hw : ∀ σ H Q, t' σ H Q → t σ H Q) : PE X e t' := ⟨fun pins s σ H Q I q => h.run pins s σ H Q I (hw _ _ _ q)⟩
theorem PT.weak {X : Cx} {e : Expr} {t t' : TT} (h : PT X e t) (hw : ∀ σ H Q, t' σ H Q → t σ H Q) : PT X e t' := ⟨fun pins s σ H Q I q => h.run pins s σ H Q I (hw _ _ _ q)⟩
theorem PW.weak {X : Cx} {e : Expr} {t t' : TT} (h : PW X e t) (hw : ∀ σ H Q, t' σ H Q → t σ H Q) : PW X e t' := ⟨fun w pins s σ H Q I q => h.run w pins s σ H Q I (hw _ _ _ q)⟩
theorem PA.weak {X : Cx} {es : List Expr} {t t' : TA} (h : PA X es t) (hw : ∀ σ H Q, t' σ H Q → t σ H Q) : PA X es t' := ⟨fun p pins s σ H Q I q => h.run p pins s σ H Q I (hw _ _ _ q)⟩
theorem PS.weak {X : Cx} {e : Stmt} {t t' : TS} (h : PS X e t) (hw : ∀ D σ H, t' D σ H → t D σ H) : PS X e t' := ⟨fun pins s σ H D I q => h.run pins s σ H D I (hw _ _ _ q)⟩
theorem PSs.weak {X : Cx} {e : List Stmt} {t t' : TS} (h : PSs X e t) (hw : ∀ D σ H, t' D σ H → t D σ H) : PSs X e t' := ⟨fun pins s σ H D I q => h.run pins s σ H D I (hw _ _ _ q)⟩
end SL

/-! SL: expressions, one. -/
namespace SL
open PySem PySem.Spec L2
open PyProof.Rows hiding St

abbrev ME := DEnv → Store → Res D
abbrev MB := DEnv → Store → Res Bool
abbrev MA := DEnv → Store → Res (List D)
def RO {α : Type} (o : Option α) (S : Store) : Res α := match o with
  | some a => .ok a S
  | none => .stuck
@[simp] theorem RO_some {α : Type} (a : α) (S : Store) : RO (some a) S = .ok a S := rfl
@[simp] theorem RO_none {α : Type} (S : Store) : RO (none : Option α) S = .stuck := rfl
@[simp] theorem bind_ok {α β : Type} (a : α) (S : Store) (f : α → Store → Res β) : (Res.ok a S).bind f = f a S := rfl
@[simp] theorem bind_exc {α β : Type} (x : Ex) (S : Store) (f : α → Store → Res β) : (Res.exc x S : Res α).bind f = .exc x S := rfl
@[simp] theorem bind_stuck {α β : Type} (f : α → Store → Res β) : (Res.stuck : Res α).bind f = .stuck := rfl
def vM (i : Nat) : ME := fun δ S => match δ[i]? with
  | some (some d) => .ok d S
  | _ => .stuck
def cM (d : D) : ME := fun _ S => .ok d S
def op2M (g : Store → D → D → Option D) (ma mb : ME) : ME := fun δ S => (ma δ S).bind fun x S1 => (mb δ S1).bind fun y S2 => RO (g S2 x y) S2
def op1M (g : Store → D → Option D) (ma : ME) : ME := fun δ S => (ma δ S).bind fun x S1 => RO (g S1 x) S1
def nilM : MA := fun _ S => .ok [] S
def consM (ma : ME) (mr : MA) : MA := fun δ S => (ma δ S).bind fun x S1 => (mr δ S1).bind fun r S2 => .ok (x :: r) S2
def callG (g : Store → List D → Option D) (ms : MA) : ME := fun δ S => (ms δ S).bind fun xs S1 => RO (g S1 xs) S1

/-! ### what an operation on values gives -/
section
variable {X : Cx} {W : WX} {a b e : Expr} {es : List Expr} {ma mb me : ME} {ms : MA} {pos : Pos}
/-- a value's fate, for a pure operation -/
abbrev KD (H : Hp) (ρ : List Addr) (S : Store) (z : D) (Q : VK) : Prop := ∀ w H', Nx H ρ H' ρ → StS H' S ρ → Rep H' ρ z w → Q w H'
theorem KD.now {H : Hp} {ρ : List Addr} {S : Store} {z : D} {Q : VK} (k : KD H ρ S z Q) (st : StS H S ρ) {w : V} (r : Rep H ρ z w) : Q w H := k w H (Nx.refl H ρ) st r
theorem KD.lst {H : Hp} {ρ : List Addr} {S : Store} {ds : List D} {vs : List V} {Q : VK} (k : KD H ρ S (.lst ds) Q) (st : StS H S ρ) (r : Reps H ρ ds vs) {p : Addr} (hp : H p = none) : Q (.ref p) (upd H p (.lst vs)) :=
  k (.ref p) _ (Nx.alloc hp) (st.alloc hp) ⟨p, vs, rfl, upd_same, fun z => st.trk z hp, Reps.mono (Nx.alloc hp) _ _ r⟩
theorem KD.tup {H : Hp} {ρ : List Addr} {S : Store} {ds : List D} {vs : List V} {Q : VK} (k : KD H ρ S (.tup ds) Q) (st : StS H S ρ) (r : Reps H ρ ds vs) {p : Addr} (hp : H p = none) : Q (.ref p) (upd H p (.tup vs)) :=
  k (.ref p) _ (Nx.alloc hp) (st.alloc hp) ⟨p, vs, rfl, upd_same, fun z => st.trk z hp, Reps.mono (Nx.alloc hp) _ _ r⟩
def OpSnd (r : R2) (g : Store → D → D → Option D) : Prop := ∀ (H : Hp) (ρ : List Addr) (S : Store) (x y z : D) (v u : V) (Q : VK), StS H S ρ → Rep H ρ x v → Rep H ρ y u → g S x y = some z → KD H ρ S z Q → r v u H Q
def UnSnd (r : V → Hp → VK → Prop) (g : Store → D → Option D) : Prop := ∀ (H : Hp) (ρ : List Addr) (S : Store) (x z : D) (v : V) (Q : VK), StS H S ρ → Rep H ρ x v → g S x = some z → KD H ρ S z Q → r v H Q
def CaSnd (r : List V → Hp → VK → Prop) (g : Store → List D → Option D) : Prop := ∀ (H : Hp) (ρ : List Addr) (S : Store) (xs : List D) (z : D) (vs : List V) (Q : VK), StS H S ρ → Reps H ρ xs vs → g S xs = some z → KD H ρ S z Q → r vs H Q
def MtSnd (r : V → List V → Hp → VK → Prop) (g : Store → D → List D → Option D) : Prop := ∀ (H : Hp) (ρ : List Addr) (S : Store) (x : D) (xs : List D) (z : D) (v : V) (vs : List V) (Q : VK), StS H S ρ → Rep H ρ x v → Reps H ρ xs vs → g S x xs = some z → KD H ρ S z Q → r v vs H Q
theorem RunG.ro {α β : Type} {R : Hp → List Addr → α → β → Prop} {σ : St} {H : Hp} {ρ : List Addr} {o : Option α} {S : Store} {Q : β → Hp → Prop} (h : RunG W R σ H ρ (RO o S) Q) : ∃ a, o = some a ∧ ∀ b H' ρ', Nx H ρ H' ρ' → StS H' S ρ' → R H' ρ' a b → Q b H' := by
  cases o with
  | none => exact False.elim h
  | some a => exact ⟨a, rfl, h⟩
theorem OpSnd.tE {r : R2} {g : Store → D → D → Option D} (s : OpSnd r g) (σ : St) (H : Hp) (Q : VK) (h : tE W (op2M g ma mb) σ H Q) : tOp r (tE W ma) (tE W mb) σ H Q := by
  obtain ⟨δ, S, ρ, I, h⟩ := h
  refine bindG I h fun x v S1 H1 ρ1 n1 I1 r1 h1 => ?_
  refine bindG I1 h1 fun y u S2 H2 ρ2 n2 I2 r2 h2 => ?_
  obtain ⟨z, e, k⟩ := h2.ro
  exact s H2 ρ2 S2 x y z v u Q I2.st (Rep.mono n2 _ _ r1) r2 e fun w H' n st r => k w H' ρ2 n st r
theorem pd_op {op : Operator} {r : R2} {g : Store → D → D → Option D} (ho : OpR X (binaryOp op) r) (s : OpSnd r g) (ha : PE X a (tE W ma)) (hb : PE X b (tE W mb)) : PE X (.BinOp a op b pos) (tE W (op2M g ma mb)) :=
  PE.weak (pe_op ho ha hb) s.tE
theorem pd_cmp {op : CmpOp} {r : R2} {g : Store → D → D → Option D} (ho : OpR X (compareOp op) r) (s : OpSnd r g) (ha : PE X a (tE W ma)) (hb : PE X b (tE W mb)) (hm : behindInMarks op b = false := by first | exact nomark _ | rfl) : PE X (.Compare a [op] [b] pos) (tE W (op2M g ma mb)) :=
  PE.weak (pe_cmpR ho ha hb hm) s.tE
/-- a bool's value -/
def asB (o : Option D) : Option Bool := match o with
  | some (.bl b) => some b
  | _ => none
def cmpB (g : Store → D → D → Option D) (ma mb : ME) : MB := fun δ S => (ma δ S).bind fun x S1 => (mb δ S1).bind fun y S2 => RO (asB (g S2 x y)) S2
theorem pd_cmpT {op : CmpOp} {r : R2} {g : Store → D → D → Option D} (ho : OpR X (compareOp op) r) (s : OpSnd r g) (ha : PE X a (tE W ma)) (hb : PE X b (tE W mb)) (hm : behindInMarks op b = false := by first | exact nomark _ | rfl) : PT X (.Compare a [op] [b] pos) (tT W (cmpB g ma mb)) := by
  refine PT.weak (pt_cmpR ho ha hb hm) fun σ H Q h => ?_
  obtain ⟨δ, S, ρ, I, h⟩ := h
  refine bindG I h fun x v S1 H1 ρ1 n1 I1 r1 h1 => ?_
  refine bindG I1 h1 fun y u S2 H2 ρ2 n2 I2 r2 h2 => ?_
  obtain ⟨z, e, k⟩ := h2.ro
  cases eg : g S2 x y with
  | none => rw [eg] at e; cases e
  | some d =>
    rw [eg] at e
    cases d with
    | bl c =>
      have ez : c = z := Option.some.inj e
      subst ez
      exact s H2 ρ2 S2 x y (.bl c) v u _ I2.st (Rep.mono n2 _ _ r1) r2 eg fun w H' n st r => ⟨c, r, k c H' ρ2 n st rfl⟩
    | _ => cases e
theorem pd_un {op : UnaryOp} {r : V → Hp → VK → Prop} {g : Store → D → Option D} (ho : UnR X (unaryOp op) r) (s : UnSnd r g) (ha : PE X a (tE W ma)) : PE X (.UnaryOp op a pos) (tE W (op1M g ma)) := by
  refine PE.weak (pe_un ho ha) fun σ H Q h => ?_
  obtain ⟨δ, S, ρ, I, h⟩ := h
  refine bindG I h fun x v S1 H1 ρ1 n1 I1 r1 h1 => ?_
  obtain ⟨z, e, k⟩ := h1.ro
  exact s H1 ρ1 S1 x z v Q I1.st r1 e fun w H' n st r => k w H' ρ1 n st r

/-! ### names, constants -/
theorem tE_var {i : Nat} (σ : St) (H : Hp) (Q : VK) (h : tE W (vM i) σ H Q) : tVar i σ H Q := by
  obtain ⟨δ, S, ρ, I, h⟩ := h
  unfold vM at h
  split at h
  · rename_i d e
    obtain ⟨v, e1, r⟩ := I.env.2 i d e
    exact ⟨v, e1, h.ok I.st r⟩
  · exact False.elim h
theorem pd_var (i : Nat) {x : Str} {pos : Pos} (hN : X.N[i]? = some x := by rfl) (hv : Vis X.env.scope x := by first | exact Or.inl rfl | exact Or.inr (Or.inl rfl) | exact Or.inr (Or.inr rfl)) (hd : (x == ("__debug__" : Str)) = false := by decide)
    (hcd : (x == ("__classdict__" : Str)) = false := by decide) : PE X (.Name x pos) (tE W (vM i)) := PE.weak (pe_var hN hv hd hcd) tE_var
theorem tE_c {d : D} {v : V} (hr : ∀ H ρ, Rep H ρ d v) (σ : St) (H : Hp) (Q : VK) (h : tE W (cM d) σ H Q) : tC v σ H Q := by
  obtain ⟨δ, S, ρ, I, h⟩ := h
  exact RunG.ok h I.st (hr _ _)
theorem pd_int {i : Int} {j : Nat} : PE X (.Constant (.int i) j pos) (tE W (cM (.int i))) := PE.weak pe_int (tE_c fun _ _ => rfl)
theorem pd_bl {b : Bool} {j : Nat} : PE X (.Constant (.bool b) j pos) (tE W (cM (.bl b))) := PE.weak pe_bl (tE_c fun _ _ => rfl)
theorem pd_non {j : Nat} : PE X (.Constant .none j pos) (tE W (cM .non)) := PE.weak pe_non (tE_c fun _ _ => rfl)
theorem pd_str {x : Str} {j : Nat} (l : List Nat) (hx : x = ⟨l.toArray⟩ := by decide +kernel) : PE X (.Constant (.str x) j pos) (tE W (cM (.str l))) := PE.weak pe_str (tE_c fun _ _ => by rw [hx]; rfl)
/-- a module's int, text -/
theorem pd_globI {x : Str} {i : Int} {t : Tok} (hm : X.mg x = some (.int i t)) (hg : Gl X x := by rfl) (hd : (x == ("__debug__" : Str)) = false := by decide) : PE X (.Name x pos) (tE W (cM (.int i))) := PE.weak (pe_glob (v := V.int i) hg hm ⟨t, rfl⟩ hd) (tE_c fun _ _ => rfl)
theorem pd_globS {x y : Str} {t : Tok} (l : List Nat) (hm : X.mg x = some (.str y t)) (hy : y = ⟨l.toArray⟩ := by decide +kernel) (hg : Gl X x := by rfl) (hd : (x == ("__debug__" : Str)) = false := by decide) : PE X (.Name x pos) (tE W (cM (.str l))) := PE.weak (pe_glob (v := V.str y) hg hm ⟨t, rfl⟩ hd) (tE_c fun _ _ => by rw [hy]; rfl)
/-- a class, a function of the module -/
theorem pd_globR {x : Str} {f : Addr} (hm : X.mg x = some (.ref f)) (hg : Gl X x := by rfl) (hd : (x == ("__debug__" : Str)) = false := by decide) : PE X (.Name x pos) (tE W (cM (.raw (.ref f)))) := PE.weak (pe_glob (v := V.ref f) hg hm rfl hd) (tE_c fun _ _ => rfl)
/-- a built-in type as a value -/
theorem pd_ty {x : Str} {n : String} (hm : X.mg x = none) (hv : bootBuiltins x = some (.type n) := by decide +kernel) (hg : Gl X x := by rfl) (hn : x ≠ "__name__" := by decide) (hd : (x == ("__debug__" : Str)) = false := by decide) : PE X (.Name x pos) (tE W (cM (.raw (.ty n)))) := PE.weak (pe_bltn (v := V.ty n) hg hm hv rfl hn hd) (tE_c fun _ _ => rfl)

/-! ### arguments, displays -/
theorem pd_nil : PA X [] (tA W nilM) := PA.weak pa_nil fun σ H Q h => by
  obtain ⟨δ, S, ρ, I, h⟩ := h
  exact RunG.ok h I.st Reps.nil
theorem pd_cons (ha : PE X e (tE W me)) (hr : PA X es (tA W ms)) (hs : starEach (e :: es) X.env = (false, eval e X.env) :: starEach es X.env := by rfl) : PA X (e :: es) (tA W (consM me ms)) := by
  refine PA.weak (pa_cons ha hr hs) fun σ H Q h => ?_
  obtain ⟨δ, S, ρ, I, h⟩ := h
  refine bindG I h fun x v S1 H1 ρ1 n1 I1 r1 h1 => ?_
  refine bindG I1 h1 fun xs vs S2 H2 ρ2 n2 I2 r2 h2 => ?_
  exact RunG.ok h2 I2.st (Reps.cons (Rep.mono n2 _ _ r1) r2)
def tupG (_ : Store) (xs : List D) : Option D := if xs.length ≤ 100000 then some (.tup xs) else none
def lstG (_ : Store) (xs : List D) : Option D := if xs.length ≤ 100000 then some (.lst xs) else none
theorem sz5 {n : Nat} (h : n ≤ 100000) : n ≤ sizeLine := Nat.le_trans h (by decide)
theorem pd_tup {x1} (h : PA X es (tA W ms)) : PE X (.Tuple es x1 pos) (tE W (callG tupG ms)) := by
  refine PE.weak (pe_tup h) fun σ H Q h => ?_
  obtain ⟨δ, S, ρ, I, h⟩ := h
  refine bindG I h fun xs vs S1 H1 ρ1 n1 I1 r1 h1 => ?_
  obtain ⟨z, e, k⟩ := h1.ro
  unfold tupG at e
  split at e
  · rename_i hl
    cases e
    refine ⟨by rw [← r1.len]; exact sz5 hl, fun p hp => ?_⟩
    exact KD.tup (Q := Q) (fun w H' n st r => k w H' ρ1 n st r) I1.st r1 hp
  · cases e
theorem pd_lst (h : PA X es (tA W ms)) : PE X (.List es pos) (tE W (callG lstG ms)) := by
  refine PE.weak (pe_lst h) fun σ H Q h => ?_
  obtain ⟨δ, S, ρ, I, h⟩ := h
  refine bindG I h fun xs vs S1 H1 ρ1 n1 I1 r1 h1 => ?_
  obtain ⟨z, e, k⟩ := h1.ro
  unfold lstG at e
  split at e
  · rename_i hl
    cases e
    refine ⟨by rw [← r1.len]; exact sz5 hl, fun p hp => ?_⟩
    exact KD.lst (Q := Q) (fun w H' n st r => k w H' ρ1 n st r) I1.st r1 hp
  · cases e
/-- a display as a new object of the store -/
def lstLM (ms : MA) : ME := fun δ S => (ms δ S).bind fun xs S1 => if xs.length ≤ 100000 then .ok (.loc S1.length) (S1 ++ [.lst xs]) else .stuck
theorem pd_lstL (h : PA X es (tA W ms)) : PE X (.List es pos) (tE W (lstLM ms)) := by
  refine PE.weak (pe_lst h) fun σ H Q h => ?_
  obtain ⟨δ, S, ρ, I, h⟩ := h
  refine bindG I h fun xs vs S1 H1 ρ1 n1 I1 r1 h1 => ?_
  split at h1
  · rename_i hl
    refine ⟨by rw [← r1.len]; exact sz5 hl, fun p hp => ?_⟩
    refine RunG.okN h1 (Nx.push hp) (I1.st.push hp ⟨vs, upd_same, Reps.mono (Nx.push hp) _ _ r1⟩) ⟨p, ?_, rfl⟩
    rw [← I1.st.len]
    simp
  · exact False.elim h1
end

/-! ### what is seen through the store -/
def asL (S : Store) : D → Option (List D)
  | .lst ds => some ds
  | .loc n => match S[n]? with
    | some (.lst ds) => some ds
    | _ => none
  | _ => none
def asT : D → Option (List D)
  | .tup ds => some ds
  | _ => none
/-- a list or a tuple -/
def asQ (S : Store) (d : D) : Option (List D) := match asL S d with
  | some ds => some ds
  | none => asT d
section
variable {H : Hp} {ρ : List Addr} {S : Store} {d : D} {ds : List D} {v : V}
theorem asL_rep (st : StS H S ρ) (r : Rep H ρ d v) (h : asL S d = some ds) : ∃ a vs, v = .ref a ∧ H a = some (.lst vs) ∧ Reps H ρ ds vs := by
  cases d with
  | lst es =>
    cases h
    obtain ⟨a, vs, rfl, h1, _, h2⟩ := r
    exact ⟨a, vs, rfl, h1, h2⟩
  | loc n =>
    obtain ⟨a, ha, rfl⟩ := r
    simp only [asL] at h
    split at h
    · rename_i ds' e
      cases h
      obtain ⟨vs, h1, h2⟩ := st.cells n a _ ha e
      exact ⟨a, vs, rfl, h1, h2⟩
    · cases h
  | _ => cases h
theorem asT_rep (r : Rep H ρ d v) (h : asT d = some ds) : ∃ a vs, v = .ref a ∧ H a = some (.tup vs) ∧ Reps H ρ ds vs := by
  cases d with
  | tup es =>
    cases h
    obtain ⟨a, vs, rfl, h1, _, h2⟩ := r
    exact ⟨a, vs, rfl, h1, h2⟩
  | _ => cases h
theorem asQ_rep {K : PySem.W.Frag} (st : StS H S ρ) (r : Rep H ρ d v) (h : asQ S d = some ds) : ∃ a vs, v = .ref a ∧ (SqL K H a vs ∨ SqT K H a vs) ∧ Reps H ρ ds vs := by
  unfold asQ at h
  split at h
  · rename_i e
    cases h
    obtain ⟨a, vs, h0, h1, h2⟩ := asL_rep st r e
    exact ⟨a, vs, h0, .inl (.inl (.inl h1)), h2⟩
  · obtain ⟨a, vs, h0, h1, h2⟩ := asT_rep r h
    exact ⟨a, vs, h0, .inr (.inl (.inl h1)), h2⟩
end
end SL

/-! SL: operators. -/
namespace SL
open PySem PySem.Spec L2
open PyProof.Rows hiding St
theorem str_app (a b : List Nat) : (⟨a.toArray⟩ : Str) ++ (⟨b.toArray⟩ : Str) = ⟨(a ++ b).toArray⟩ := by
  show (⟨a.toArray ++ b.toArray⟩ : Str) = _
  simp
theorem str_len (a : List Nat) : (⟨a.toArray⟩ : Str).length = a.length := by
  show a.toArray.size = _
  simp
theorem str_inj {a b : List Nat} : ((⟨a.toArray⟩ : Str) = ⟨b.toArray⟩) ↔ a = b := by
  constructor
  · intro h
    have := congrArg (fun s : Str => s.cps.toList) h
    simpa using this
  · rintro rfl
    rfl
section
variable {X : Cx}
/-! ### + - * // % ** -/
def addG (S : Store) (x y : D) : Option D := match x, y with
  | .int i, .int j => some (.int (i + j))
  | .str a, .str b => if a.length + b.length ≤ 1000000 then some (.str (a ++ b)) else none
  | .tup a, .tup b => if a.length + b.length ≤ 1000000 then some (.tup (a ++ b)) else none
  | x, y => match asL S x, asL S y with
    | some a, some b => if a.length + b.length ≤ 1000000 then some (.lst (a ++ b)) else none
    | _, _ => none
theorem sz6 {n : Nat} (h : n ≤ 1000000) : n ≤ sizeLine := Nat.le_trans h (by decide)
def rAddA (K : PySem.W.Frag) : R2 := fun x y H Q => (∃ i j, x = .int i ∧ y = .int j ∧ Q (.int (i + j)) H) ∨ ((∃ i j, x = .str i ∧ y = .str j ∧ i.length + j.length ≤ sizeLine ∧ Q (.str (i ++ j)) H) ∨ (rCatA K x y H Q ∨ rCat x y H Q))
theorem op_addA : OpR X (binaryOp .Add) (rAddA X.K) := OpR.or op_add (OpR.or op_add_str (OpR.or op_catA op_cat))
theorem snd_add {K : PySem.W.Frag} : OpSnd (rAddA K) addG := by
  intro H ρ S x y z v u Q st rx ry e k
  unfold addG at e
  split at e
  · cases e
    cases rx
    cases ry
    exact .inl ⟨_, _, rfl, rfl, k.now st rfl⟩
  · rename_i a b
    split at e
    · rename_i hl
      cases e
      cases rx
      cases ry
      refine .inr (.inl ⟨_, _, rfl, rfl, by rw [str_len, str_len]; exact sz6 hl, ?_⟩)
      rw [str_app]
      exact k.now st rfl
    · cases e
  · rename_i a b
    split at e
    · rename_i hl
      cases e
      obtain ⟨p, vs, rfl, h1, n1, r1⟩ := rx
      obtain ⟨q, us, rfl, h2, n2, r2⟩ := ry
      refine .inr (.inr (.inl ⟨p, q, vs, us, rfl, rfl, .inl (.inl h1), .inl (.inl h2), by rw [← r1.len, ← r2.len]; exact sz6 hl, fun hx => ?_, fun hx hy => ?_, fun hx hy a' ha => ?_⟩))
      · refine k.now st ⟨q, us, rfl, h2, n2, ?_⟩
        subst hx
        have := r1.len
        cases a with
        | nil => exact r2
        | cons _ _ => simp at this
      · refine k.now st ⟨p, vs, rfl, h1, n1, ?_⟩
        subst hy
        have := r2.len
        cases b with
        | nil => rw [List.append_nil]; exact r1
        | cons _ _ => simp at this
      · exact KD.tup k st (r1.append r2) ha
    · cases e
  · split at e
    · rename_i a b ea eb
      split at e
      · rename_i hl
        cases e
        obtain ⟨p, vs, rfl, h1, r1⟩ := asL_rep st rx ea
        obtain ⟨q, us, rfl, h2, r2⟩ := asL_rep st ry eb
        refine .inr (.inr (.inr ⟨p, q, vs, us, rfl, rfl, h1, h2, by rw [← r1.len, ← r2.len]; exact sz6 hl, fun a' ha => ?_⟩))
        exact KD.lst k st (r1.append r2) ha
      · cases e
    · cases e
def subG (_ : Store) (x y : D) : Option D := match x, y with
  | .int i, .int j => some (.int (i - j))
  | _, _ => none
theorem snd_sub : OpSnd (rI0 fun i j => .int (i - j)) subG := by
  intro H ρ S x y z v u Q st rx ry e k
  unfold subG at e
  split at e
  · cases e
    cases rx
    cases ry
    exact ⟨_, _, rfl, rfl, k.now st rfl⟩
  · cases e
/-- text * int -/
theorem foldl_rep (a : Array Nat) : ∀ (k : Nat) (acc : Array Nat), ((List.replicate k a).foldl (· ++ ·) acc).toList = acc.toList ++ (List.replicate k a.toList).flatten
  | 0, acc => by simp
  | k + 1, acc => by
    rw [List.replicate_succ, List.foldl_cons, foldl_rep a k, List.replicate_succ, List.flatten_cons, Array.toList_append, List.append_assoc]
def rMulS : R2 := fun x y H Q => ∃ (l : List Nat) (k : Int), x = .str ⟨l.toArray⟩ ∧ y = .int k ∧ 0 ≤ k ∧ k ≤ 1000000 ∧ l.length * k.toNat ≤ 1000000 ∧ Q (.str ⟨(List.replicate k.toNat l).flatten.toArray⟩) H
theorem op_mulS : OpR X (binaryOp .Mult) rMulS := by
  intro pins s σ H x y v u Q I rx ry h
  obtain ⟨l, k, rfl, rfl, h0, h1, h2, q⟩ := h
  obtain ⟨t, rfl⟩ := rx
  obtain ⟨t', rfl⟩ := ry
  refine PySem.P.mul_str ?_ (fun hn hx => ?_) (fun hn hx => ?_) ?_
  · have a1 : ¬ k < -(2 ^ 63 : Int) := by omega
    have a2 : ¬ k ≥ 2 ^ 63 := by omega
    rw [decide_eq_false a1, decide_eq_false a2]; rfl
  · rw [str_len]
    have hk : 1 ≤ k := by omega
    intro hz
    have : (2 ^ 63 - 1 : Int) / k ≥ l.length := by
      refine (Int.le_ediv_iff_mul_le (by omega)).mpr ?_
      have e : (l.length : Int) * k = ((l.length * k.toNat : Nat) : Int) := by
        rw [Int.natCast_mul, Int.toNat_of_nonneg h0]
      rw [e]
      omega
    omega
  · rw [str_len]
    show decide (_ > _) = false
    refine decide_eq_false ?_
    have := sz6 h2
    omega
  · by_cases hn : k < 1
    · rw [if_pos hn]
      have e0 : k.toNat = 0 := by omega
      rw [e0] at q
      refine ⟨by decide, V.str ⟨#[]⟩, H, I.tok _, ⟨_, rfl⟩, by simpa using q⟩
    · rw [if_neg hn]
      split
      · rename_i hx
        refine ⟨V.str ⟨l.toArray⟩, H, I, ⟨t, rfl⟩, ?_⟩
        have e : (List.replicate k.toNat l).flatten = l := by
          rcases Bool.or_eq_true_iff.mp hx with z | z
          · have : k = 1 := by simpa using z
            subst this
            simp
          · rw [str_len] at z
            have : l = [] := by simpa using z
            subst this
            simp
        rw [e] at q
        exact q
      · have e : (⟨(List.replicate k.toNat (⟨l.toArray⟩ : Str).cps).foldl (· ++ ·) #[]⟩ : Str) = ⟨(List.replicate k.toNat l).flatten.toArray⟩ := by
          have := foldl_rep l.toArray k.toNat #[]
          simp only [List.nil_append] at this
          congr 1
          apply Array.toList_inj.mp
          rw [this]
        rw [e]
        refine ⟨?_, V.str ⟨(List.replicate k.toNat l).flatten.toArray⟩, H, I.tok _, ⟨_, rfl⟩, q⟩
        rw [str_len]
        have : (List.replicate k.toNat l).flatten.length = l.length * k.toNat := by
          rw [List.length_flatten, List.map_replicate, List.sum_replicate_nat, Nat.mul_comm]
        rw [this]
        exact sz6 h2
abbrev mulOk (i j : Int) : Prop := ((-(2 ^ 64) < i ∧ i < 2 ^ 64) ∨ (-(2 ^ 64) < j ∧ j < 2 ^ 64)) ∨ i.natAbs.log2 + j.natAbs.log2 < 1000000
def mulG (S : Store) (x y : D) : Option D := match x, y with
  | .int i, .int j => if mulOk i j then some (.int (i * j)) else none
  | .str l, .int k => if 0 ≤ k ∧ k ≤ 1000000 ∧ l.length * k.toNat ≤ 1000000 then some (.str (List.replicate k.toNat l).flatten) else none
  | x, .int k => match asL S x with
    | some a => if 0 ≤ k ∧ k ≤ 1000000 ∧ a.length * k.toNat ≤ 1000000 then some (.lst (List.replicate k.toNat a).flatten) else none
    | none => none
  | _, _ => none
def rMulA : R2 := fun x y H Q => (rI CMul (fun i j => .int (i * j)) x y H Q ∨ rI CMulW (fun i j => .int (i * j)) x y H Q) ∨ (rMulS x y H Q ∨ rRep x y H Q)
theorem op_mulA : OpR X (binaryOp .Mult) rMulA := OpR.or (OpR.or op_mul op_mulW) (OpR.or op_mulS op_rep)
theorem Reps.rep {H : Hp} {ρ : List Addr} {ds : List D} {vs : List V} (r : Reps H ρ ds vs) : ∀ k : Nat, Reps H ρ (List.replicate k ds).flatten (List.replicate k vs).flatten
  | 0 => by simpa using Reps.nil
  | k + 1 => by
    rw [List.replicate_succ, List.replicate_succ, List.flatten_cons, List.flatten_cons]
    exact r.append (Reps.rep r k)
theorem snd_mul : OpSnd rMulA mulG := by
  intro H ρ S x y z v u Q st rx ry e k
  unfold mulG at e
  split at e
  · split at e
    · rename_i hc
      cases e
      cases rx
      cases ry
      rcases hc with hc | hc
      · exact .inl (.inl ⟨_, _, rfl, rfl, hc, k.now st rfl⟩)
      · exact .inl (.inr ⟨_, _, rfl, rfl, hc, k.now st rfl⟩)
    · cases e
  · split at e
    · rename_i hc
      cases e
      cases rx
      cases ry
      exact .inr (.inl ⟨_, _, rfl, rfl, hc.1, hc.2.1, hc.2.2, k.now st rfl⟩)
    · cases e
  · split at e
    · rename_i a ea
      split at e
      · rename_i hc
        cases e
        obtain ⟨p, vs, rfl, h1, r1⟩ := asL_rep st rx ea
        cases ry
        refine .inr (.inr ⟨p, _, vs, rfl, rfl, h1, by omega, by omega, ?_, fun a' ha => ?_⟩)
        · rw [← r1.len]; exact sz6 hc.2.2
        · exact KD.lst k st (r1.rep _) ha
      · cases e
    · cases e
  · cases e
def fdivG (_ : Store) (x y : D) : Option D := match x, y with
  | .int i, .int j => if 0 < j ∧ j.natAbs.log2 < 9000 then some (.int (i / j)) else none
  | _, _ => none
theorem snd_fdiv : OpSnd (rI CDivW fun i j => .int (i / j)) fdivG := by
  intro H ρ S x y z v u Q st rx ry e k
  unfold fdivG at e
  split at e
  · split at e
    · rename_i hc
      cases e
      cases rx
      cases ry
      exact ⟨_, _, rfl, rfl, hc, k.now st rfl⟩
    · cases e
  · cases e
def modG (_ : Store) (x y : D) : Option D := match x, y with
  | .int i, .int j => if 0 < j then some (.int (i % j)) else none
  | _, _ => none
theorem snd_mod : OpSnd (rI (fun _ j => 0 < j) fun i j => .int (i % j)) modG := by
  intro H ρ S x y z v u Q st rx ry e k
  unfold modG at e
  split at e
  · split at e
    · rename_i hc
      cases e
      cases rx
      cases ry
      exact ⟨_, _, rfl, rfl, hc, k.now st rfl⟩
    · cases e
  · cases e
def powG (_ : Store) (x y : D) : Option D := match x, y with
  | .int i, .int j => if 0 ≤ j ∧ j ≤ 1000000 ∧ i.natAbs < 2 ^ 64 then some (.int (i ^ j.toNat)) else none
  | _, _ => none
theorem snd_pow : OpSnd (rI CPow fun i j => .int (i ^ j.toNat)) powG := by
  intro H ρ S x y z v u Q st rx ry e k
  unfold powG at e
  split at e
  · split at e
    · rename_i hc
      cases e
      cases rx
      cases ry
      exact ⟨_, _, rfl, rfl, hc, k.now st rfl⟩
    · cases e
  · cases e
def negG (_ : Store) (x : D) : Option D := match x with
  | .int i => some (.int (-i))
  | _ => none
theorem snd_neg : UnSnd (rU fun i => .int (-i)) negG := by
  intro H ρ S x z v Q st rx e k
  unfold negG at e
  split at e
  · cases e
    cases rx
    exact ⟨_, rfl, k.now st rfl⟩
  · cases e
end
end SL

/-! SL: comparisons, tests. -/
namespace SL
open PySem PySem.Spec L2
open PyProof.Rows hiding St
section
variable {X : Cx} {W : WX} {a b c e : Expr} {es rest : List Expr} {ma mb mc me : ME} {na nb : MB} {ms : MA} {pos : Pos}
/-! ### < <= > >= -/
/-- order of texts -/
abbrev ltT (a b : List Nat) : Bool := decide (a < b)
def ltG (_ : Store) (x y : D) : Option D := match x, y with
  | .int i, .int j => some (.bl (decide (i < j)))
  | .str a, .str b => some (.bl (decide (a < b)))
  | _, _ => none
def leG (_ : Store) (x y : D) : Option D := match x, y with
  | .int i, .int j => some (.bl (decide (i ≤ j)))
  | .str a, .str b => some (.bl (!decide (b < a)))
  | _, _ => none
def gtG (_ : Store) (x y : D) : Option D := match x, y with
  | .int i, .int j => some (.bl (decide (j < i)))
  | .str a, .str b => some (.bl (decide (b < a)))
  | _, _ => none
def geG (_ : Store) (x y : D) : Option D := match x, y with
  | .int i, .int j => some (.bl (decide (j ≤ i)))
  | .str a, .str b => some (.bl (!decide (a < b)))
  | _, _ => none
def rLtA : R2 := fun x y H Q => rI0 (fun i j => .bl (decide (i < j))) x y H Q ∨ ∃ i j, x = .str i ∧ y = .str j ∧ Q (.bl (decide (i.cps.toList < j.cps.toList))) H
def rLeA : R2 := fun x y H Q => rI0 (fun i j => .bl (decide (i ≤ j))) x y H Q ∨ ∃ i j, x = .str i ∧ y = .str j ∧ Q (.bl (!decide (j.cps.toList < i.cps.toList))) H
def rGtA : R2 := fun x y H Q => rI0 (fun i j => .bl (decide (j < i))) x y H Q ∨ ∃ i j, x = .str i ∧ y = .str j ∧ Q (.bl (decide (j.cps.toList < i.cps.toList))) H
def rGeA : R2 := fun x y H Q => rI0 (fun i j => .bl (decide (j ≤ i))) x y H Q ∨ ∃ i j, x = .str i ∧ y = .str j ∧ Q (.bl (!decide (i.cps.toList < j.cps.toList))) H
theorem op_ltA : OpR X (compareOp .Lt) rLtA := OpR.or op_lt op_lt_str
theorem op_leA : OpR X (compareOp .LtE) rLeA := OpR.or op_le op_le_str
theorem op_gtA : OpR X (compareOp .Gt) rGtA := OpR.or op_gt op_gt_str
theorem op_geA : OpR X (compareOp .GtE) rGeA := OpR.or op_ge op_ge_str
theorem snd_lt : OpSnd rLtA ltG := by
  intro H ρ S x y z v u Q st rx ry e k
  unfold ltG at e
  split at e
  · cases e; cases rx; cases ry
    exact .inl ⟨_, _, rfl, rfl, k.now st rfl⟩
  · cases e; cases rx; cases ry
    exact .inr ⟨_, _, rfl, rfl, k.now st rfl⟩
  · cases e
theorem snd_le : OpSnd rLeA leG := by
  intro H ρ S x y z v u Q st rx ry e k
  unfold leG at e
  split at e
  · cases e; cases rx; cases ry
    exact .inl ⟨_, _, rfl, rfl, k.now st rfl⟩
  · cases e; cases rx; cases ry
    exact .inr ⟨_, _, rfl, rfl, k.now st rfl⟩
  · cases e
theorem snd_gt : OpSnd rGtA gtG := by
  intro H ρ S x y z v u Q st rx ry e k
  unfold gtG at e
  split at e
  · cases e; cases rx; cases ry
    exact .inl ⟨_, _, rfl, rfl, k.now st rfl⟩
  · cases e; cases rx; cases ry
    exact .inr ⟨_, _, rfl, rfl, k.now st rfl⟩
  · cases e
theorem snd_ge : OpSnd rGeA geG := by
  intro H ρ S x y z v u Q st rx ry e k
  unfold geG at e
  split at e
  · cases e; cases rx; cases ry
    exact .inl ⟨_, _, rfl, rfl, k.now st rfl⟩
  · cases e; cases rx; cases ry
    exact .inr ⟨_, _, rfl, rfl, k.now st rfl⟩
  · cases e
/-! ### == != : data -/
theorem dec_str {a b : List Nat} : decide (V.str ⟨a.toArray⟩ = V.str ⟨b.toArray⟩) = decide (a = b) := decide_eq_decide.mpr ⟨fun h => str_inj.mp (V.str.inj h), fun h => congrArg V.str (str_inj.mpr h)⟩
theorem dec_int {a b : Int} : decide (V.int a = V.int b) = decide (a = b) := decide_eq_decide.mpr ⟨fun h => V.int.inj h, fun h => congrArg V.int h⟩
mutual
def toPy : D → Option PyData
  | .non => some .none
  | .bl b => some (.bool b)
  | .int i => some (.int i)
  | .str l => some (.str ⟨l.toArray⟩)
  | .tup ds => match toPys ds with
    | some ps => some (.tuple ps)
    | none => none
  | .lst ds => match toPys ds with
    | some ps => some (.list ps)
    | none => none
  | _ => none
def toPys : List D → Option (List PyData)
  | [] => some []
  | d :: ds => match toPy d, toPys ds with
    | some p, some ps => some (p :: ps)
    | _, _ => none
end
def toPyS (S : Store) (d : D) : Option PyData := match d with
  | .loc _ => match asL S d with
    | some ds => match toPys ds with
      | some ps => some (.list ps)
      | none => none
    | none => none
  | d => toPy d
mutual
theorem toPy_dp {K : PySem.W.Frag} {H : Hp} {ρ : List Addr} : ∀ (d : D) (v : V) (p : PyData), toPy d = some p → Rep H ρ d v → Dp K H v p
  | .non, v, p, e, r => by cases e; cases r; exact .non
  | .bl b, v, p, e, r => by cases e; cases r; exact .bl b
  | .int i, v, p, e, r => by cases e; cases r; exact .int i
  | .str l, v, p, e, r => by cases e; cases r; exact .str _
  | .tup ds, v, p, e, r => by
    obtain ⟨a, vs, rfl, h1, _, r1⟩ := r
    simp only [toPy] at e
    split at e
    · rename_i ps ep
      cases e
      exact .tup (.inl (.inl h1)) (toPys_dp ds vs ps ep r1)
    · cases e
  | .lst ds, v, p, e, r => by
    obtain ⟨a, vs, rfl, h1, _, r1⟩ := r
    simp only [toPy] at e
    split at e
    · rename_i ps ep
      cases e
      exact .lst (.inl (.inl h1)) (toPys_dp ds vs ps ep r1)
    · cases e
  | .dct _ _, v, p, e, r => by cases e
  | .obj _ _ _, v, p, e, r => by cases e
  | .loc _, v, p, e, r => by cases e
  | .raw _, v, p, e, r => by cases e
  | .exn _ _ _ _, v, p, e, r => by cases e
theorem toPys_dp {K : PySem.W.Frag} {H : Hp} {ρ : List Addr} : ∀ (ds : List D) (vs : List V) (ps : List PyData), toPys ds = some ps → Reps H ρ ds vs → DpAll K H vs ps
  | [], vs, ps, e, r => by cases e; cases r; exact .nil
  | d :: ds, vs, ps, e, r => by
    obtain ⟨v, us, rfl, h1, h2⟩ := r
    simp only [toPys] at e
    split at e
    · rename_i p ps' e1 e2
      cases e
      exact .cons (toPy_dp d v p e1 h1) (toPys_dp ds us ps' e2 h2)
    · cases e
end
theorem toPyS_dp {K : PySem.W.Frag} {H : Hp} {ρ : List Addr} {S : Store} {d : D} {v : V} {p : PyData} (st : StS H S ρ) (e : toPyS S d = some p) (r : Rep H ρ d v) : Dp K H v p := by
  cases d with
  | loc n =>
    simp only [toPyS] at e
    split at e
    · rename_i ds ea
      split at e
      · rename_i ps ep
        cases e
        obtain ⟨a, vs, rfl, h1, r1⟩ := asL_rep st r ea
        exact .lst (.inl (.inl h1)) (toPys_dp ds vs ps ep r1)
      · cases e
    · cases e
  | _ => exact toPy_dp _ v p e r
def eqB (S : Store) (x y : D) : Option Bool := match x, y with
  | .str a, .str b => some (decide (a = b))
  | .int i, .int j => some (decide (i = j))
  | x, y => match toPyS S x, toPyS S y with
    | some p, some q => if SeqAt.shaped p = true ∧ SeqAt.shaped q = true then some (PyData.eqv p q) else none
    | _, _ => none
def eqG (S : Store) (x y : D) : Option D := match eqB S x y with
  | some b => some (.bl b)
  | none => none
def neG (S : Store) (x y : D) : Option D := match eqB S x y with
  | some b => some (.bl (!b))
  | none => none
def rEqA (K : PySem.W.Frag) : R2 := fun x y H Q => rEq x y H Q ∨ rEqD K x y H Q
def rNeA (K : PySem.W.Frag) : R2 := fun x y H Q => rNe x y H Q ∨ rNeD K x y H Q
theorem op_eqA (hu : X.A.units + 64 < cLine) : OpR X (compareOp .Eq) (rEqA X.K) := OpR.or op_eq (op_eqD hu)
theorem op_neA (hu : X.A.units + 64 < cLine) : OpR X (compareOp .NotEq) (rNeA X.K) := OpR.or op_ne (op_neD hu)
theorem snd_eq {K : PySem.W.Frag} : OpSnd (rEqA K) eqG := by
  intro H ρ S x y z v u Q st rx ry e k
  unfold eqG at e
  split at e
  · rename_i b eb
    cases e
    unfold eqB at eb
    split at eb
    · cases eb; cases rx; cases ry
      refine .inl ⟨rfl, ?_⟩
      rw [dec_str]
      exact k.now st rfl
    · cases eb; cases rx; cases ry
      refine .inl ⟨rfl, ?_⟩
      rw [dec_int]
      exact k.now st rfl
    · split at eb
      · rename_i p q ep eq
        split at eb
        · rename_i hs
          cases eb
          exact .inr ⟨p, q, toPyS_dp st ep rx, toPyS_dp st eq ry, hs.1, hs.2, k.now st rfl⟩
        · cases eb
      · cases eb
  · cases e
theorem snd_ne {K : PySem.W.Frag} : OpSnd (rNeA K) neG := by
  intro H ρ S x y z v u Q st rx ry e k
  unfold neG at e
  split at e
  · rename_i b eb
    cases e
    unfold eqB at eb
    split at eb
    · cases eb; cases rx; cases ry
      refine .inl ⟨rfl, ?_⟩
      rw [dec_str]
      exact k.now st rfl
    · cases eb; cases rx; cases ry
      refine .inl ⟨rfl, ?_⟩
      rw [dec_int]
      exact k.now st rfl
    · split at eb
      · rename_i p q ep eq
        split at eb
        · rename_i hs
          cases eb
          exact .inr ⟨p, q, toPyS_dp st ep rx, toPyS_dp st eq ry, hs.1, hs.2, k.now st rfl⟩
        · cases eb
      · cases eb
  · cases e
/-! ### is None, is True -/
def isN : D → Bool
  | .non => true
  | _ => false
def isB (S : Store) (x y : D) : Option Bool := match y with
  | .non => match x with
    | .raw _ => none
    | x => some (isN x)
  | .bl b => match x with
    | .bl a => some (decide (a = b))
    | _ => none
  | _ => none
def isG (S : Store) (x y : D) : Option D := match isB S x y with
  | some b => some (.bl b)
  | none => none
def isntG (S : Store) (x y : D) : Option D := match isB S x y with
  | some b => some (.bl (!b))
  | none => none
def rIsA : R2 := fun x y H Q => (y = .non ∧ Q (.bl (decide (x = .non))) H) ∨ ∃ a b, x = .bl a ∧ y = .bl b ∧ Q (.bl (decide (a = b))) H
def rNotA : R2 := fun x y H Q => (y = .non ∧ Q (.bl (!decide (x = .non))) H) ∨ ∃ a b, x = .bl a ∧ y = .bl b ∧ Q (.bl (!decide (a = b))) H
theorem op_isA : OpR X (compareOp .Is) rIsA := OpR.or op_isN op_is_bl
theorem op_isntA : OpR X (compareOp .IsNot) rNotA := OpR.or op_notN op_isnot_bl
theorem isN_rep {H : Hp} {ρ : List Addr} {x : D} {v : V} (r : Rep H ρ x v) (h : ∀ u, x ≠ .raw u) : decide (v = .non) = isN x := by
  cases x with
  | non => cases r; rfl
  | bl _ => cases r; rfl
  | int _ => cases r; rfl
  | str _ => cases r; rfl
  | tup _ => obtain ⟨a, vs, rfl, _⟩ := r; rfl
  | lst _ => obtain ⟨a, vs, rfl, _⟩ := r; rfl
  | dct _ _ => obtain ⟨a, vs, rfl, _⟩ := r; rfl
  | obj _ _ _ => obtain ⟨a, d, vs, rfl, _⟩ := r; rfl
  | loc _ => obtain ⟨a, _, rfl⟩ := r; rfl
  | raw u => exact absurd rfl (h u)
  | exn _ _ _ _ => obtain ⟨vs, rfl, _⟩ := r; rfl
theorem snd_is : OpSnd rIsA isG := by
  intro H ρ S x y z v u Q st rx ry e k
  unfold isG at e
  split at e
  · rename_i b eb
    cases e
    unfold isB at eb
    split at eb
    · split at eb
      · cases eb
      · rename_i x' hx
        cases eb
        cases ry
        refine .inl ⟨rfl, ?_⟩
        rw [isN_rep rx hx]
        exact k.now st rfl
    · split at eb
      · cases eb
        cases rx
        cases ry
        exact .inr ⟨_, _, rfl, rfl, k.now st rfl⟩
      · cases eb
    · cases eb
  · cases e
theorem snd_isnt : OpSnd rNotA isntG := by
  intro H ρ S x y z v u Q st rx ry e k
  unfold isntG at e
  split at e
  · rename_i b eb
    cases e
    unfold isB at eb
    split at eb
    · split at eb
      · cases eb
      · rename_i x' hx
        cases eb
        cases ry
        refine .inl ⟨rfl, ?_⟩
        rw [isN_rep rx hx]
        exact k.now st rfl
    · split at eb
      · cases eb
        cases rx
        cases ry
        exact .inr ⟨_, _, rfl, rfl, k.now st rfl⟩
      · cases eb
    · cases eb
  · cases e
/-! ### in, not in -/
/-- a flat thing as V -/
def flV : D → Option V
  | .non => some .non
  | .bl b => some (.bl b)
  | .int i => some (.int i)
  | .str l => some (.str ⟨l.toArray⟩)
  | _ => none
theorem flV_rep {H : Hp} {ρ : List Addr} {x : D} {v w : V} (r : Rep H ρ x v) (h : flV x = some w) : v = w ∧ flatV v = true := by
  cases x with
  | non => cases h; cases r; exact ⟨rfl, rfl⟩
  | bl _ => cases h; cases r; exact ⟨rfl, rfl⟩
  | int _ => cases h; cases r; exact ⟨rfl, rfl⟩
  | str _ => cases h; cases r; exact ⟨rfl, rfl⟩
  | _ => cases h
def flVs : List D → Option (List V)
  | [] => some []
  | d :: ds => match flV d, flVs ds with
    | some v, some vs => some (v :: vs)
    | _, _ => none
theorem flVs_rep {H : Hp} {ρ : List Addr} : ∀ {ds : List D} {vs ws : List V}, Reps H ρ ds vs → flVs ds = some ws → vs = ws ∧ vs.all flatV = true
  | [], vs, ws, r, h => by cases r; cases h; exact ⟨rfl, rfl⟩
  | d :: ds, vs, ws, r, h => by
    obtain ⟨v, us, rfl, h1, h2⟩ := r
    simp only [flVs] at h
    split at h
    · rename_i w ws' e1 e2
      cases h
      obtain ⟨rfl, f1⟩ := flV_rep h1 e1
      obtain ⟨rfl, f2⟩ := flVs_rep h2 e2
      exact ⟨rfl, by rw [List.all_cons, f1, f2]; rfl⟩
    · cases h
/-- a key is there -/
def memK (ks : List Key) (k : Key) : Bool := ks.any fun q => decide (q = k)
/-- a dict -/
def asDct (S : Store) : D → Option (List Key × List D)
  | .dct ks ds => some (ks, ds)
  | .loc n => match S[n]? with
    | some (.dct ks ds) => some (ks, ds)
    | _ => none
  | _ => none
def keyD : D → Option Key
  | .int i => some (.inl i)
  | .str l => some (.inr ⟨l.toArray⟩)
  | _ => none
theorem asDct_rep {H : Hp} {ρ : List Addr} {S : Store} {d : D} {v : V} {ks : List Key} {ds : List D} (st : StS H S ρ) (r : Rep H ρ d v) (h : asDct S d = some (ks, ds)) : ∃ a vs, v = .ref a ∧ H a = some (.dK (ks.zip vs)) ∧ ks.length = ds.length ∧ Reps H ρ ds vs := by
  cases d with
  | dct ks' es =>
    cases h
    obtain ⟨a, vs, rfl, h1, _, l, h2⟩ := r
    exact ⟨a, vs, rfl, h1, l, h2⟩
  | loc n =>
    obtain ⟨a, ha, rfl⟩ := r
    simp only [asDct] at h
    split at h
    · rename_i ks' ds' e
      cases h
      obtain ⟨vs, h1, l, h2⟩ := st.cells n a _ ha e
      exact ⟨a, vs, rfl, h1, l, h2⟩
    · cases h
  | _ => cases h
theorem keyD_rep {H : Hp} {ρ : List Addr} {x : D} {v : V} {k : Key} (r : Rep H ρ x v) (h : keyD x = some k) : v = kV k := by
  cases x with
  | int _ => cases h; cases r; rfl
  | str _ => cases h; cases r; rfl
  | _ => cases h
theorem valV_zip_isSome : ∀ {ks : List Key} {vs : List V} {k : Key}, ks.length = vs.length → (valV (ks.zip vs) k).isSome = memK ks k
  | [], [], k, _ => rfl
  | [], _ :: _, _, h => by cases h
  | _ :: _, [], _, h => by cases h
  | q :: ks, v :: vs, k, h => by
    have ih := valV_zip_isSome (ks := ks) (vs := vs) (k := k) (by simpa using h)
    rw [List.zip_cons_cons]
    by_cases e : q = k
    · rw [valV_pos (show ((q, v) : Key × V).1 = k from e)]
      simp [memK, e]
    · have : valV ((q, v) :: ks.zip vs) k = valV (ks.zip vs) k := by simp [valV, List.find?_cons, e]
      rw [this, ih]
      simp [memK, e]
def inB (S : Store) (x y : D) : Option Bool := match y with
  | .str z => match x with
    | .str [c] => some (decide (c ∈ z))
    | .str l => some (!(Builtin.Str.occurrences (⟨z.toArray⟩ : Str) (⟨l.toArray⟩ : Str) 0 (⟨z.toArray⟩ : Str).length 1).isEmpty)
    | _ => none
  | y => match asQ S y with
    | some ds => match flV x, flVs ds with
      | some v, some vs => some (inV v vs)
      | _, _ => none
    | none => match asDct S y, keyD x with
      | some (ks, _), some k => some (memK ks k)
      | _, _ => none
def inG (S : Store) (x y : D) : Option D := match inB S x y with
  | some b => some (.bl b)
  | none => none
def ninG (S : Store) (x y : D) : Option D := match inB S x y with
  | some b => some (.bl (!b))
  | none => none
def rInA (K : PySem.W.Frag) : R2 := fun x y H Q => (∃ (c : Nat) (z : Str), x = .str ⟨#[c]⟩ ∧ y = .str z ∧ Q (.bl (decide (c ∈ z.cps.toList))) H) ∨
  ((∃ i j, x = .str i ∧ y = .str j ∧ Q (.bl (!(Builtin.Str.occurrences j i 0 j.length 1).isEmpty)) H) ∨ (rIn K false x y H Q ∨ ∃ a o, y = .ref a ∧ DGet H a x o ∧ Q (.bl o.isSome) H))
def rNinA (K : PySem.W.Frag) : R2 := fun x y H Q => (∃ (c : Nat) (z : Str), x = .str ⟨#[c]⟩ ∧ y = .str z ∧ Q (.bl (!decide (c ∈ z.cps.toList))) H) ∨
  ((∃ i j, x = .str i ∧ y = .str j ∧ Q (.bl (!(!(Builtin.Str.occurrences j i 0 j.length 1).isEmpty))) H) ∨ (rIn K true x y H Q ∨ ∃ a o, y = .ref a ∧ DGet H a x o ∧ Q (.bl (!o.isSome)) H))
theorem op_inD1 (hu : X.A.units + 1 < cLine) : OpR X (compareOp .In) (fun x y H Q => ∃ a o, y = .ref a ∧ DGet H a x o ∧ Q (.bl o.isSome) H) := by
  intro pins s σ H x y v u Q I rx ry h
  obtain ⟨a, o, rfl, g, q⟩ := h
  cases ry
  exact d_in hu I g rx fun s' I' => ⟨.bl o.isSome, H, I', rfl, q⟩
theorem op_ninD1 (hu : X.A.units + 1 < cLine) : OpR X (compareOp .NotIn) (fun x y H Q => ∃ a o, y = .ref a ∧ DGet H a x o ∧ Q (.bl (!o.isSome)) H) := by
  intro pins s σ H x y v u Q I rx ry h
  obtain ⟨a, o, rfl, g, q⟩ := h
  cases ry
  exact d_notIn hu I g rx fun s' I' => ⟨.bl (!o.isSome), H, I', rfl, q⟩
theorem op_inA (hu : X.A.units + 64 < cLine) : OpR X (compareOp .In) (rInA X.K) := OpR.or op_in_sign (OpR.or op_in_str (OpR.or op_in_seq (op_inD1 (by omega))))
theorem op_ninA (hu : X.A.units + 64 < cLine) : OpR X (compareOp .NotIn) (rNinA X.K) := OpR.or op_notIn_sign (OpR.or op_notin_str (OpR.or op_notIn_seq (op_ninD1 (by omega))))
theorem snd_in {K : PySem.W.Frag} : OpSnd (rInA K) inG := by
  intro H ρ S x y z v u Q st rx ry e k
  unfold inG at e
  split at e
  · rename_i b eb
    cases e
    unfold inB at eb
    split at eb
    · split at eb
      · cases eb; cases rx; cases ry
        exact .inl ⟨_, _, rfl, rfl, by simpa using k.now st rfl⟩
      · cases eb; cases rx; cases ry
        exact .inr (.inl ⟨_, _, rfl, rfl, k.now st rfl⟩)
      · cases eb
    · split at eb
      · rename_i ds ed
        split at eb
        · rename_i v' vs' e1 e2
          cases eb
          obtain ⟨a, vs, rfl, hq, rs⟩ := asQ_rep (K := K) st ry ed
          obtain ⟨rfl, f1⟩ := flV_rep rx e1
          obtain ⟨rfl, f2⟩ := flVs_rep rs e2
          exact .inr (.inr (.inl ⟨a, vs, rfl, hq, f1, f2, k.now st rfl⟩))
        · cases eb
      · split at eb
        · rename_i ks ds' k' e1 e2
          cases eb
          obtain ⟨a, vs, rfl, h1, l, r1⟩ := asDct_rep st ry e1
          have ek := keyD_rep rx e2
          subst ek
          refine .inr (.inr (.inr ⟨a, _, rfl, DGet.k h1, ?_⟩))
          rw [valV_zip_isSome (by rw [l, r1.len])]
          exact k.now st rfl
        · cases eb
  · cases e
theorem snd_nin {K : PySem.W.Frag} : OpSnd (rNinA K) ninG := by
  intro H ρ S x y z v u Q st rx ry e k
  unfold ninG at e
  split at e
  · rename_i b eb
    cases e
    unfold inB at eb
    split at eb
    · split at eb
      · cases eb; cases rx; cases ry
        exact .inl ⟨_, _, rfl, rfl, by simpa using k.now st rfl⟩
      · cases eb; cases rx; cases ry
        exact .inr (.inl ⟨_, _, rfl, rfl, k.now st rfl⟩)
      · cases eb
    · split at eb
      · rename_i ds ed
        split at eb
        · rename_i v' vs' e1 e2
          cases eb
          obtain ⟨a, vs, rfl, hq, rs⟩ := asQ_rep (K := K) st ry ed
          obtain ⟨rfl, f1⟩ := flV_rep rx e1
          obtain ⟨rfl, f2⟩ := flVs_rep rs e2
          exact .inr (.inr (.inl ⟨a, vs, rfl, hq, f1, f2, k.now st rfl⟩))
        · cases eb
      · split at eb
        · rename_i ks ds' k' e1 e2
          cases eb
          obtain ⟨a, vs, rfl, h1, l, r1⟩ := asDct_rep st ry e1
          have ek := keyD_rep rx e2
          subst ek
          refine .inr (.inr (.inr ⟨a, _, rfl, DGet.k h1, ?_⟩))
          rw [valV_zip_isSome (by rw [l, r1.len])]
          exact k.now st rfl
        · cases eb
  · cases e
end
end SL

/-! SL: truth, and/or, subscripts, slices. -/
namespace SL
open PySem PySem.Spec L2
open PyProof.Rows hiding St
section
variable {X : Cx} {W : WX} {a b c e : Expr} {es rest : List Expr} {ma mb mc me : ME} {na nb : MB} {ms : MA} {pos : Pos}
/-! ### truth -/
def truthB (S : Store) (x : D) : Option Bool := match x with
  | .non => some false
  | .bl b => some b
  | .int i => some (i != 0)
  | .str l => if l.length ≤ 1000000 then some (l.length != 0) else none
  | .lst ds => some (!ds.isEmpty)
  | .tup ds => some (!ds.isEmpty)
  | .dct ks _ => some (!ks.isEmpty)
  | .loc n => match S[n]? with
    | some (.lst ds) => some (!ds.isEmpty)
    | some (.dct ks _) => some (!ks.isEmpty)
    | _ => none
  | _ => none
theorem Reps.emp {H : Hp} {ρ : List Addr} {ds : List D} {vs : List V} (r : Reps H ρ ds vs) : ds.isEmpty = vs.isEmpty := by
  cases ds with
  | nil => cases r; rfl
  | cons d ds => obtain ⟨v, us, rfl, _⟩ := r; rfl
theorem zip_emp {α β : Type} : ∀ {ks : List α} {vs : List β}, ks.length = vs.length → (ks.zip vs).isEmpty = ks.isEmpty
  | [], _, _ => rfl
  | _ :: _, [], h => by cases h
  | _ :: _, _ :: _, _ => rfl
theorem truth_rep {K : PySem.W.Frag} {H : Hp} {ρ : List Addr} {S : Store} {x : D} {v : V} {c : Bool} (st : StS H S ρ) (r : Rep H ρ x v) (h : truthB S x = some c) : TruV K v H c := by
  cases x with
  | non => cases h; cases r; rfl
  | bl _ => cases h; cases r; rfl
  | int _ => cases h; cases r; rfl
  | str l =>
    cases r
    simp only [truthB] at h
    split at h
    · rename_i hl
      cases h
      refine ⟨by rw [str_len]; exact sz6 hl, ?_⟩
      rw [str_len]
      cases hz : l.length with
      | zero => rfl
      | succ n => simp; omega
    · cases h
  | tup ds =>
    cases h
    obtain ⟨a, vs, rfl, h1, _, r1⟩ := r
    exact .inr (.inl ⟨vs, .inl (.inl h1), by rw [r1.emp]⟩)
  | lst ds =>
    cases h
    obtain ⟨a, vs, rfl, h1, _, r1⟩ := r
    exact .inl ⟨vs, .inl (.inl h1), by rw [r1.emp]⟩
  | dct ks ds =>
    cases h
    obtain ⟨a, vs, rfl, h1, _, l, r1⟩ := r
    exact .inr (.inr ⟨_, h1, by rw [zip_emp (by rw [l, r1.len])]⟩)
  | loc n =>
    obtain ⟨a, ha, rfl⟩ := r
    simp only [truthB] at h
    split at h
    · rename_i ds e
      cases h
      obtain ⟨vs, h1, r1⟩ := st.cells n a _ ha e
      exact .inl ⟨vs, .inl (.inl h1), by rw [r1.emp]⟩
    · rename_i ks ds e
      cases h
      obtain ⟨vs, h1, l, r1⟩ := st.cells n a _ ha e
      exact .inr (.inr ⟨_, h1, by rw [zip_emp (by rw [l, r1.len])]⟩)
    · cases h
  | _ => cases h
def trM (ma : ME) : MB := fun δ S => (ma δ S).bind fun x S1 => RO (truthB S1 x) S1
theorem pd_truth (ha : PE X a (tE W ma)) (he : ∀ whole, isTrue a X.env whole = (do let v ← whole; standAt a.pos; holding [v] (truthy v)) := by intro _; rfl) : PT X a (tT W (trM ma)) := by
  refine PT.weak (pt_truth ha he) fun σ H Q h => ?_
  obtain ⟨δ, S, ρ, I, h⟩ := h
  refine bindG I h fun x v S1 H1 ρ1 n1 I1 r1 h1 => ?_
  obtain ⟨c, ec, k⟩ := h1.ro
  exact ⟨c, truth_rep I1.st r1 ec, k c H1 ρ1 (Nx.refl _ _) I1.st rfl⟩
def andB (na nb : MB) : MB := fun δ S => (na δ S).bind fun c S1 => if c = true then nb δ S1 else .ok false S1
def orB (na nb : MB) : MB := fun δ S => (na δ S).bind fun c S1 => if c = true then .ok true S1 else nb δ S1
def notB (na : MB) : MB := fun δ S => (na δ S).bind fun c S1 => .ok (!c) S1
theorem tT_and {na nb : MB} (σ : St) (H : Hp) (Q : Bool → Hp → Prop) (h : tT W (andB na nb) σ H Q) : tAnd (tT W na) (tT W nb) σ H Q := by
  obtain ⟨δ, S, ρ, I, h⟩ := h
  refine bindG I h fun c c' S1 H1 ρ1 n1 I1 r1 h1 => ?_
  cases r1
  show if c = true then _ else _
  cases c with
  | true => rw [if_pos rfl] at h1 ⊢; exact ⟨δ, S1, ρ1, I1, h1⟩
  | false => rw [if_neg Bool.false_ne_true] at h1 ⊢; exact RunG.ok h1 I1.st rfl
theorem tT_or {na nb : MB} (σ : St) (H : Hp) (Q : Bool → Hp → Prop) (h : tT W (orB na nb) σ H Q) : tOr (tT W na) (tT W nb) σ H Q := by
  obtain ⟨δ, S, ρ, I, h⟩ := h
  refine bindG I h fun c c' S1 H1 ρ1 n1 I1 r1 h1 => ?_
  cases r1
  show if c = true then _ else _
  cases c with
  | true => rw [if_pos rfl] at h1 ⊢; exact RunG.ok h1 I1.st rfl
  | false => rw [if_neg Bool.false_ne_true] at h1 ⊢; exact ⟨δ, S1, ρ1, I1, h1⟩
theorem pw_dand (ha : PT X a (tT W na)) (hb : PW X (.BoolOp .And (b :: rest) pos) (tT W nb)) : PW X (.BoolOp .And (a :: b :: rest) pos) (tT W (andB na nb)) := PW.weak (pw_and ha hb) tT_and
theorem pw_dand1 (ha : PT X a (tT W na)) : PW X (.BoolOp .And [a] pos) (tT W na) := pw_and1 ha
theorem pw_dor (ha : PT X a (tT W na)) (hb : PW X (.BoolOp .Or (b :: rest) pos) (tT W nb)) : PW X (.BoolOp .Or (a :: b :: rest) pos) (tT W (orB na nb)) := PW.weak (pw_or ha hb) tT_or
theorem pw_dor1 (ha : PT X a (tT W na)) : PW X (.BoolOp .Or [a] pos) (tT W na) := pw_or1 ha
theorem pd_bopT {op : BoolOp} (h : PW X (.BoolOp op es pos) (tT W na)) : PT X (.BoolOp op es pos) (tT W na) := h.pt
theorem pd_notT (ha : PT X a (tT W na)) : PT X (.UnaryOp .Not a pos) (tT W (notB na)) := by
  refine PT.weak (pt_not ha) fun σ H Q h => ?_
  obtain ⟨δ, S, ρ, I, h⟩ := h
  refine bindG I h fun c c' S1 H1 ρ1 n1 I1 r1 h1 => ?_
  cases r1
  exact RunG.ok h1 I1.st rfl
/-- as values -/
def andM (ma mb : ME) : ME := fun δ S => (ma δ S).bind fun x S1 => match truthB S1 x with
  | some true => mb δ S1
  | some false => .ok x S1
  | none => .stuck
def orM (ma mb : ME) : ME := fun δ S => (ma δ S).bind fun x S1 => match truthB S1 x with
  | some false => mb δ S1
  | some true => .ok x S1
  | none => .stuck
def notM (ma : ME) : ME := fun δ S => (ma δ S).bind fun x S1 => match truthB S1 x with
  | some c => .ok (.bl (!c)) S1
  | none => .stuck
theorem pd_and (ha : PE X a (tE W ma)) (hb : PE X (.BoolOp .And (b :: rest) pos) (tE W mb)) : PE X (.BoolOp .And (a :: b :: rest) pos) (tE W (andM ma mb)) := by
  refine PE.weak (pe_andT ha hb) fun σ H Q h => ?_
  obtain ⟨δ, S, ρ, I, h⟩ := h
  refine bindG I h fun x v S1 H1 ρ1 n1 I1 r1 h1 => ?_
  split at h1
  · rename_i e
    refine ⟨true, truth_rep I1.st r1 e, ?_⟩
    rw [if_pos rfl]
    exact ⟨δ, S1, ρ1, I1, h1⟩
  · rename_i e
    refine ⟨false, truth_rep I1.st r1 e, ?_⟩
    rw [if_neg Bool.false_ne_true]
    exact RunG.ok h1 I1.st r1
  · exact False.elim h1
theorem pd_or (ha : PE X a (tE W ma)) (hb : PE X (.BoolOp .Or (b :: rest) pos) (tE W mb)) : PE X (.BoolOp .Or (a :: b :: rest) pos) (tE W (orM ma mb)) := by
  refine PE.weak (pe_orT ha hb) fun σ H Q h => ?_
  obtain ⟨δ, S, ρ, I, h⟩ := h
  refine bindG I h fun x v S1 H1 ρ1 n1 I1 r1 h1 => ?_
  split at h1
  · rename_i e
    refine ⟨false, truth_rep I1.st r1 e, ?_⟩
    rw [if_neg Bool.false_ne_true]
    exact ⟨δ, S1, ρ1, I1, h1⟩
  · rename_i e
    refine ⟨true, truth_rep I1.st r1 e, ?_⟩
    rw [if_pos rfl]
    exact RunG.ok h1 I1.st r1
  · exact False.elim h1
theorem pd_one {op : BoolOp} (h : PE X a (tE W ma)) : PE X (.BoolOp op [a] pos) (tE W ma) := pe_one h
theorem pd_not (ha : PE X a (tE W ma)) : PE X (.UnaryOp .Not a pos) (tE W (notM ma)) := by
  refine PE.weak (pe_notT ha) fun σ H Q h => ?_
  obtain ⟨δ, S, ρ, I, h⟩ := h
  refine bindG I h fun x v S1 H1 ρ1 n1 I1 r1 h1 => ?_
  split at h1
  · rename_i c e
    exact ⟨c, truth_rep I1.st r1 e, RunG.ok h1 I1.st rfl⟩
  · exact False.elim h1
def ifM (nc : MB) (ma mb : ME) : ME := fun δ S => (nc δ S).bind fun c S1 => if c = true then ma δ S1 else mb δ S1
theorem pd_ifExp {nc : MB} (hc : PT X c (tT W nc)) (ha : PE X a (tE W ma)) (hb : PE X b (tE W mb)) : PE X (.IfExp c a b pos) (tE W (ifM nc ma mb)) := by
  refine PE.weak (pe_ifExp hc ha hb) fun σ H Q h => ?_
  obtain ⟨δ, S, ρ, I, h⟩ := h
  refine bindG I h fun c c' S1 H1 ρ1 n1 I1 r1 h1 => ?_
  cases r1
  show if c = true then _ else _
  cases c with
  | true => rw [if_pos rfl] at h1 ⊢; exact ⟨δ, S1, ρ1, I1, h1⟩
  | false => rw [if_neg Bool.false_ne_true] at h1 ⊢; exact ⟨δ, S1, ρ1, I1, h1⟩
/-! ### a < b < c -/
def chM (g g' : Store → D → D → Option D) (ma mb mc : ME) : ME := fun δ S => (ma δ S).bind fun x S1 => (mb δ S1).bind fun y S2 => match asB (g S2 x y) with
  | some true => (mc δ S2).bind fun z S3 => RO (g' S3 y z) S3
  | some false => .ok (.bl false) S2
  | none => .stuck
theorem asB_some {o : Option D} {c : Bool} (h : asB o = some c) : o = some (.bl c) := by
  unfold asB at h
  split at h
  · cases h; rfl
  · cases h
theorem tE_chain {r r' : R2} {g g' : Store → D → D → Option D} (s : OpSnd r g) (s' : OpSnd r' g') (σ : St) (H : Hp) (Q : VK) (h : tE W (chM g g' ma mb mc) σ H Q) : tChain r r' (tE W ma) (tE W mb) (tE W mc) σ H Q := by
  obtain ⟨δ, S, ρ, I, h⟩ := h
  refine bindG I h fun x v S1 H1 ρ1 n1 I1 r1 h1 => ?_
  refine bindG I1 h1 fun y u S2 H2 ρ2 n2 I2 r2 h2 => ?_
  split at h2
  · rename_i e
    refine s H2 ρ2 S2 x y (.bl true) v u _ I2.st (Rep.mono n2 _ _ r1) r2 (asB_some e) fun w H3 n3 st3 r3 => ?_
    cases r3
    refine ⟨true, rfl, ?_⟩
    rw [if_pos rfl]
    have h2' := h2
    have I3 := I2.next n3 st3
    refine bindG (W := W) I3 (R2 := Rep) (k := fun z S3 => RO (g' S3 y z) S3) (Q := Q) ?_ fun z t S4 H4 ρ4 n4 I4 r4 h4 => ?_
    · revert h2'
      cases (mc δ S2).bind fun z S3 => RO (g' S3 y z) S3 with
      | ok a S' => exact fun hh b H' ρ' n st r => hh b H' ρ' (n3.trans n) st r
      | exc x S' => exact fun hh b d H' ρ' n st r => hh b d H' ρ' (n3.trans n) st r
      | stuck => exact fun hh => hh
    · obtain ⟨z', e', k⟩ := h4.ro
      exact s' H4 ρ4 S4 y z z' u t Q I4.st (Rep.mono (n3.trans n4) _ _ r2) r4 e' fun w H' n st r => k w H' ρ4 n st r
  · rename_i e
    refine s H2 ρ2 S2 x y (.bl false) v u _ I2.st (Rep.mono n2 _ _ r1) r2 (asB_some e) fun w H3 n3 st3 r3 => ?_
    cases r3
    refine ⟨false, rfl, ?_⟩
    rw [if_neg Bool.false_ne_true]
    exact RunG.okN h2 n3 st3 rfl
  · exact False.elim h2
theorem pd_chain {op op' : CmpOp} {r r' : R2} {g g' : Store → D → D → Option D} (ho : OpR X (compareOp op) r) (ho' : OpR X (compareOp op') r') (s : OpSnd r g) (s' : OpSnd r' g') (ha : PE X a (tE W ma)) (hb : PE X b (tE W mb)) (hc : PE X c (tE W mc))
    (hm : lastMarks [op, op'] [b, c] = false := by with_unfolding_all rfl) : PE X (.Compare a [op, op'] [b, c] pos) (tE W (chM g g' ma mb mc)) := PE.weak (pe_chain ho ho' ha hb hc hm) (tE_chain s s')
def bM (ma : ME) : MB := fun δ S => (ma δ S).bind fun x S1 => RO (asB (some x)) S1
theorem pd_chainT {op op' : CmpOp} {r r' : R2} {g g' : Store → D → D → Option D} (ho : OpR X (compareOp op) r) (ho' : OpR X (compareOp op') r') (s : OpSnd r g) (s' : OpSnd r' g') (ha : PE X a (tE W ma)) (hb : PE X b (tE W mb)) (hc : PE X c (tE W mc))
    (hm : lastMarks [op, op'] [b, c] = false := by with_unfolding_all rfl) : PT X (.Compare a [op, op'] [b, c] pos) (tT W (bM (chM g g' ma mb mc))) := by
  refine PT.weak (pt_chain ho ho' ha hb hc hm) fun σ H Q h => ?_
  refine tE_chain (W := W) s s' σ H _ ?_
  obtain ⟨δ, S, ρ, I, h⟩ := h
  refine bindG I h fun x v S1 H1 ρ1 n1 I1 r1 h1 => ?_
  obtain ⟨c, ec, k⟩ := h1.ro
  have := asB_some ec
  cases this
  cases r1
  exact ⟨c, rfl, k c H1 ρ1 (Nx.refl _ _) I1.st rfl⟩
/-! ### subscripts -/
def lookK {α : Type} : List Key → List α → Key → Option α
  | k :: ks, d :: ds, q => if k = q then some d else lookK ks ds q
  | _, _, _ => none
theorem lookK_rep {H : Hp} {ρ : List Addr} : ∀ {ks : List Key} {ds : List D} {vs : List V} {q : Key} {d : D}, Reps H ρ ds vs → lookK ks ds q = some d → ∃ v, valV (ks.zip vs) q = some v ∧ Rep H ρ d v
  | [], _, _, _, _, _, h => by cases h
  | _ :: _, [], _, _, _, _, h => by cases h
  | k :: ks, d' :: ds, vs, q, d, r, h => by
    obtain ⟨v, us, rfl, h1, h2⟩ := r
    rw [List.zip_cons_cons]
    unfold lookK at h
    split at h
    · rename_i e
      cases h
      exact ⟨v, by rw [valV_pos (show ((k, v) : Key × V).1 = q from e)], h1⟩
    · rename_i e
      obtain ⟨w, e1, r1⟩ := lookK_rep h2 h
      refine ⟨w, ?_, r1⟩
      rw [← e1]
      simp [valV, List.find?_cons, e]
def ixG (S : Store) (x y : D) : Option D := match x, y with
  | .str l, .int i => if l.length ≤ 1000000 then (match atI l i with
      | some c => some (.str [c])
      | none => none) else none
  | x, y => match asDct S x, keyD y with
    | some (ks, ds), some k => lookK ks ds k
    | _, _ => match asQ S x, y with
      | some ds, .int i => atI ds i
      | _, _ => none
def rIxA (K : PySem.W.Frag) : R2 := fun x y H Q => rIxS x y H Q ∨ ((∃ a v, x = .ref a ∧ DGet H a y (some v) ∧ Q v H) ∨ (rIxL K x y H Q ∨ rIxT K x y H Q))
theorem ix_dict (hu : X.A.units + 1 < cLine) : IxR X (fun x y H Q => ∃ a v, x = .ref a ∧ DGet H a y (some v) ∧ Q v H) := by
  intro value slice pins s σ H x y v u Q I rx ry h hs
  obtain ⟨a, w, rfl, g, q⟩ := h
  cases rx
  exact tail_any (dict_typeIs I g) PySem.F.slot_dict_getitem.lookup (d_getItem hu I g ry fun w' s' I' rw' => ⟨w, H, I', rw', q⟩) hs
theorem ix_A (hu : X.A.units + 64 < cLine) : IxR X (rIxA X.K) := IxR.or ix_str (IxR.or (ix_dict (by omega)) (IxR.or ix_list ix_tup))
theorem atI_reps {H : Hp} {ρ : List Addr} {ds : List D} {vs : List V} {i : Int} {d : D} (r : Reps H ρ ds vs) (h : atI ds i = some d) : ∃ v, atI vs i = some v ∧ Rep H ρ d v := by
  unfold atI at h ⊢
  rw [r.len] at h
  cases e : ixN vs.length i with
  | none => rw [e] at h; cases h
  | some j =>
    rw [e] at h
    exact Reps.getD r h
theorem snd_ix {K : PySem.W.Frag} : OpSnd (rIxA K) ixG := by
  intro H ρ S x y z v u Q st rx ry e k
  unfold ixG at e
  split at e
  · rename_i l i
    split at e
    · rename_i hl
      split at e
      · rename_i c ec
        cases e; cases rx; cases ry
        exact .inl ⟨_, _, c, rfl, rfl, by rw [str_len]; exact sz6 hl, by simpa using ec, k.now st rfl⟩
      · cases e
    · cases e
  · split at e
    · rename_i ks ds q e1 e2
      obtain ⟨a, vs, rfl, h1, l, r1⟩ := asDct_rep st rx e1
      have ek := keyD_rep ry e2
      subst ek
      obtain ⟨w, e3, r3⟩ := lookK_rep r1 e
      exact .inr (.inl ⟨a, w, rfl, by have := DGet.k (k := q) h1; rw [e3] at this; exact this, k.now st r3⟩)
    · split at e
      · rename_i ds i ed o1 o2
        obtain ⟨a, vs, rfl, hq, rs⟩ := asQ_rep (K := K) st rx ed
        cases ry
        obtain ⟨w, e1, r1⟩ := atI_reps rs e
        rcases hq with hq | hq
        · exact .inr (.inr (.inl ⟨a, vs, i, w, rfl, rfl, hq, e1, k.now st r1⟩))
        · exact .inr (.inr (.inr ⟨a, vs, i, w, rfl, rfl, hq, e1, k.now st r1⟩))
      · cases e
theorem pd_ix (hu : X.A.units + 64 < cLine) (ha : PE X a (tE W ma)) (hb : PE X b (tE W mb)) (hs : PlainIx b := by exact fun _ _ => rfl) : PE X (.Subscript a b pos) (tE W (op2M ixG ma mb)) := PE.weak (pe_ix (ix_A hu) ha hb hs) snd_ix.tE
/-! ### slices -/
abbrev MO := DEnv → Store → Res (Option Int)
abbrev tO (W : WX) (m : MO) : TO := tG W (fun _ _ a b => a = b) m
theorem PO.weak {X : Cx} {e : Option Expr} {t t' : TO} (h : PO X e t) (hw : ∀ σ H Q, t' σ H Q → t σ H Q) : PO X e t' := ⟨fun pins s σ H Q I q => h.run pins s σ H Q I (hw _ _ _ q)⟩
def noO : MO := fun _ S => .ok none S
def asI : D → Option Int
  | .int i => some i
  | _ => none
def soO (ma : ME) : MO := fun δ S => (ma δ S).bind fun x S1 => match asI x with
  | some i => .ok (some i) S1
  | none => .stuck
theorem po_dno : PO X none (tO W noO) := PO.weak po_none fun σ H Q h => by
  obtain ⟨δ, S, ρ, I, h⟩ := h
  exact RunG.ok h I.st rfl
theorem po_dso (ha : PE X a (tE W ma)) : PO X (some a) (tO W (soO ma)) := PO.weak (po_some ha) fun σ H Q h => by
  obtain ⟨δ, S, ρ, I, h⟩ := h
  refine bindG I h fun x v S1 H1 ρ1 n1 I1 r1 h1 => ?_
  split at h1
  · rename_i i e
    cases x with
    | int j => cases e; cases r1; exact ⟨i, rfl, RunG.ok h1 I1.st rfl⟩
    | _ => cases e
  · exact False.elim h1
def cutL {α : Type} (xs : List α) (lo hi : Option Int) : List α := (xs.drop (HT.sIx xs.length 0 lo)).take (HT.sIx xs.length xs.length hi - HT.sIx xs.length 0 lo)
def slG (S : Store) (x : D) (lo hi : Option Int) : Option D := match x with
  | .str l => if l.length ≤ 1000000 then some (.str (cutL l lo hi)) else none
  | .tup ds => some (.tup (cutL ds lo hi))
  | x => match asL S x with
    | some ds => some (.lst (cutL ds lo hi))
    | none => none
def slM (ma : ME) (ml mh : MO) : ME := fun δ S => (ma δ S).bind fun x S1 => (ml δ S1).bind fun lo S2 => (mh δ S2).bind fun hi S3 => RO (slG S3 x lo hi) S3
def rSlD (K : PySem.W.Frag) : V → Option Int → Option Int → Hp → VK → Prop := fun x lo hi H Q => rSlS x lo hi H Q ∨ (rSlL K x lo hi H Q ∨ L2.rSlA K x lo hi H Q)
theorem sl_D : SlR X (rSlD X.K) := SlR.or sl_str (SlR.or sl_list sl_tupA)
theorem cutL_reps {H : Hp} {ρ : List Addr} {ds : List D} {vs : List V} (r : Reps H ρ ds vs) (lo hi : Option Int) : Reps H ρ (cutL ds lo hi) (cutV vs lo hi) := by
  unfold cutL cutV
  rw [r.len]
  exact (r.drop _).take _
theorem cut_str (l : List Nat) (lo hi : Option Int) : cutS ⟨l.toArray⟩ lo hi = ⟨(cutL l lo hi).toArray⟩ := by
  unfold cutS cutL
  rw [str_len]
theorem cutV_whole {vs : List V} {lo hi : Option Int} (h : HT.sIx vs.length 0 lo = 0 ∧ HT.sIx vs.length vs.length hi = vs.length) : cutV vs lo hi = vs := by
  unfold cutV
  rw [h.1, h.2]
  simp
theorem pd_sl {p2 : Pos} {lo hi : Option Expr} {ml mh : MO} (ha : PE X a (tE W ma)) (hl : PO X lo (tO W ml)) (hh : PO X hi (tO W mh)) : PE X (.Subscript a (.Slice lo hi none p2) pos) (tE W (slM ma ml mh)) := by
  refine PE.weak (pe_slice sl_D ha hl hh) fun σ H Q h => ?_
  obtain ⟨δ, S, ρ, I, h⟩ := h
  refine bindG I h fun x v S1 H1 ρ1 n1 I1 r1 h1 => ?_
  refine bindG I1 h1 fun lo' lo S2 H2 ρ2 n2 I2 e1 h2 => ?_
  refine bindG I2 h2 fun hi' hi S3 H3 ρ3 n3 I3 e2 h3 => ?_
  subst e1 e2
  obtain ⟨z, e, k⟩ := h3.ro
  have rx := Rep.mono (n2.trans n3) _ _ r1
  have kd : KD H3 ρ3 S3 z Q := fun w H' n st r => k w H' ρ3 n st r
  unfold slG at e
  split at e
  · rename_i l
    split at e
    · rename_i hl
      cases e
      cases rx
      refine .inl ⟨_, rfl, by rw [str_len]; exact sz6 hl, ?_⟩
      rw [cut_str]
      exact kd.now I3.st rfl
    · cases e
  · rename_i ds
    cases e
    obtain ⟨a', vs, rfl, h1', na, rs⟩ := rx
    refine .inr (.inr ⟨a', vs, rfl, .inl (.inl h1'), fun hw => ?_, fun hw p hp => ?_⟩)
    · have := cutL_reps rs lo' hi'
      rw [cutV_whole hw] at this
      exact kd.now I3.st ⟨a', vs, rfl, h1', na, this⟩
    · exact KD.tup kd I3.st (cutL_reps rs lo' hi') hp
  · split at e
    · rename_i ds ed
      cases e
      obtain ⟨a', vs, rfl, h1', rs⟩ := asL_rep I3.st rx ed
      exact .inr (.inl ⟨a', vs, rfl, .inl (.inl h1'), fun p hp => KD.lst kd I3.st (cutL_reps rs lo' hi') hp⟩)
    · cases e
end
end SL

/-! SL: calls of built-ins, of methods of texts, of own defs. -/
namespace SL
open PySem PySem.Spec L2
open PyProof.Rows hiding St
section
variable {X : Cx} {W : WX} {a b c e o : Expr} {es rest : List Expr} {ma mb mc me mo : ME} {ms : MA} {p pos apos cpos : Pos} {x : Str}
theorem CaSnd.tE {r : List V → Hp → VK → Prop} {g : Store → List D → Option D} (s : CaSnd r g) (σ : St) (H : Hp) (Q : VK) (h : tE W (callG g ms) σ H Q) : tCB r (tA W ms) σ H Q := by
  obtain ⟨δ, S, ρ, I, h⟩ := h
  refine bindG I h fun xs vs S1 H1 ρ1 n1 I1 r1 h1 => ?_
  obtain ⟨z, e, k⟩ := h1.ro
  exact s H1 ρ1 S1 xs z vs Q I1.st r1 e fun w H' n st r => k w H' ρ1 n st r
theorem pd_callB {id : String} {r : List V → Hp → VK → Prop} {g : Store → List D → Option D} (hc : CallR X (.builtin id) r) (s : CaSnd r g) (hm : X.mg x = none) (ha : PA X (e :: es) (tA W ms)) (hg : Gl X x := by rfl) (hv : bootBuiltins x = some (.builtin id) := by decide +kernel)
    (hn : x ≠ "__name__" := by decide) (hdb : (x == ("__debug__" : Str)) = false := by decide)
    (he : starEach (e :: es) X.env = (false, eval e X.env) :: starEach es X.env := by rfl) (hpl : (backTo pos (starEach es X.env)).any (·.1) = false := by rfl) : PE X (.Call (.Name x p) (e :: es) [] pos) (tE W (callG g ms)) :=
  PE.weak (pe_callB hc hg hm hv ha hn hdb he hpl) s.tE
theorem pd_callTy {T : String} {r : List V → Hp → VK → Prop} {g : Store → List D → Option D} (hc : CallR X (.type T) r) (s : CaSnd r g) (hm : X.mg x = none) (ha : PA X (e :: es) (tA W ms)) (hg : Gl X x := by rfl) (hv : bootBuiltins x = some (.type T) := by decide +kernel)
    (hn : x ≠ "__name__" := by decide) (hdb : (x == ("__debug__" : Str)) = false := by decide)
    (he : starEach (e :: es) X.env = (false, eval e X.env) :: starEach es X.env := by rfl) (hpl : (backTo pos (starEach es X.env)).any (·.1) = false := by rfl) : PE X (.Call (.Name x p) (e :: es) [] pos) (tE W (callG g ms)) :=
  PE.weak (pe_callTy hc hg hm hv ha hn hdb he hpl) s.tE
/-! ### len -/
def lenN (S : Store) (x : D) : Option Nat := match x with
  | .str l => if l.length ≤ 1000000 then some l.length else none
  | .tup ds => some ds.length
  | x => match asL S x with
    | some ds => some ds.length
    | none => match asDct S x with
      | some (ks, _) => some ks.length
      | none => none
def lenG (S : Store) (xs : List D) : Option D := match xs with
  | [x] => match lenN S x with
    | some n => some (.int n)
    | none => none
  | _ => none
def rLenA (K : PySem.W.Frag) : List V → Hp → VK → Prop := fun xs H Q => (∃ x n, xs = [x] ∧ LenV K x H n ∧ Q (.int n) H) ∨ (∃ a kvs, xs = [.ref a] ∧ H a = some (.dK kvs) ∧ Q (.int (kvs.length : Nat)) H)
theorem call_lenA : CallR X (.builtin "len") (rLenA X.K) := CallR.or call_len (fun pins s σ H xs us Q I r h => by
  obtain ⟨a, kvs, e1, e2, q⟩ := h
  exact call_lenD pins s σ H xs us Q I r ⟨a, kvs, e1, e2, q⟩)
theorem zip_len {ks : List Key} {vs : List V} (h : ks.length = vs.length) : (ks.zip vs).length = ks.length := by
  rw [List.length_zip, h, Nat.min_self]
theorem snd_len {K : PySem.W.Frag} : CaSnd (rLenA K) lenG := by
  intro H ρ S xs z vs Q st rs e k
  unfold lenG at e
  split at e
  · rename_i x
    obtain ⟨v, us, rfl, rx, ru⟩ := rs
    cases ru
    split at e
    · rename_i n en
      cases e
      unfold lenN at en
      split at en
      · split at en
        · rename_i hl
          cases en; cases rx
          exact .inl ⟨_, _, rfl, ⟨by rw [str_len]; exact sz6 hl, by rw [str_len]⟩, k.now st rfl⟩
        · cases en
      · cases en
        obtain ⟨a, vs, rfl, h1, _, r1⟩ := rx
        exact .inl ⟨_, _, rfl, .inr ⟨vs, .inl (.inl h1), r1.len⟩, k.now st rfl⟩
      · split at en
        · rename_i ds ed
          cases en
          obtain ⟨a, vs, rfl, h1, r1⟩ := asL_rep st rx ed
          exact .inl ⟨_, _, rfl, .inl ⟨vs, .inl (.inl h1), r1.len⟩, k.now st rfl⟩
        · split at en
          · rename_i ks ds ed
            cases en
            obtain ⟨a, vs, rfl, h1, l, r1⟩ := asDct_rep st rx ed
            refine .inr ⟨a, _, rfl, h1, ?_⟩
            rw [zip_len (by rw [l, r1.len])]
            exact k.now st rfl
          · cases en
    · cases e
  · cases e
/-! ### int(..), str(..), list(..), tuple(..), all, any, sum, min, max -/
def intG (_ : Store) (xs : List D) : Option D := match xs with
  | [.int i] => some (.int i)
  | [.bl b] => some (.int (if b then 1 else 0))
  | [.str l] => if l.length ≤ 640 then (match PySem.intText? ⟨l.toArray⟩ with
      | some n => some (.int n)
      | none => none) else none
  | _ => none
def rIntA : List V → Hp → VK → Prop := fun xs H Q => ((∃ i, xs = [.int i] ∧ Q (.int i) H) ∨ ∃ k, xs = [.bl k] ∧ Q (.int (if k then 1 else 0)) H) ∨ (∃ a n, xs = [.str a] ∧ PySem.intText? a = some n ∧ a.length ≤ 640 ∧ Q (.int n) H)
theorem call_intA : CallR X (.type "int") rIntA := CallR.or call_int1 call_int_str
theorem snd_int : CaSnd rIntA intG := by
  intro H ρ S xs z vs Q st rs e k
  unfold intG at e
  split at e
  · obtain ⟨v, us, rfl, rx, ru⟩ := rs
    cases ru; cases e; cases rx
    exact .inl (.inl ⟨_, rfl, k.now st rfl⟩)
  · obtain ⟨v, us, rfl, rx, ru⟩ := rs
    cases ru; cases e; cases rx
    exact .inl (.inr ⟨_, rfl, k.now st rfl⟩)
  · obtain ⟨v, us, rfl, rx, ru⟩ := rs
    split at e
    · rename_i hl
      split at e
      · rename_i n en
        cases ru; cases e; cases rx
        exact .inr ⟨_, n, rfl, en, by rw [str_len]; exact hl, k.now st rfl⟩
      · cases e
    · cases e
  · cases e
/-- an int's text -/
def strI (i : Int) : List Nat := (Str.ofString (toString i)).cps.toList
def strG (_ : Store) (xs : List D) : Option D := match xs with
  | [.int i] => if i.natAbs.log2 < 1920 then some (.str (strI i)) else none
  | _ => none
theorem snd_str : CaSnd (fun xs H Q => ∃ i, xs = [.int i] ∧ i.natAbs.log2 < 1920 ∧ Q (.str (toString i)) H) strG := by
  intro H ρ S xs z vs Q st rs e k
  unfold strG at e
  split at e
  · obtain ⟨v, us, rfl, rx, ru⟩ := rs
    split at e
    · rename_i hl
      cases ru; cases e; cases rx
      exact ⟨_, rfl, hl, k.now st rfl⟩
    · cases e
  · cases e
def listG (S : Store) (xs : List D) : Option D := match xs with
  | [x] => match asQ S x with
    | some ds => some (.lst ds)
    | none => none
  | _ => none
def tupleG (S : Store) (xs : List D) : Option D := match xs with
  | [.tup ds] => some (.tup ds)
  | [x] => match asL S x with
    | some ds => some (.tup ds)
    | none => none
  | _ => none
theorem snd_list {K : PySem.W.Frag} : CaSnd (fun xs H Q => ∃ p ys, xs = [.ref p] ∧ (SqL K H p ys ∨ SqT K H p ys) ∧ ∀ l, H l = none → Q (.ref l) (upd H l (.lst ys))) listG := by
  intro H ρ S xs z vs Q st rs e k
  unfold listG at e
  split at e
  · obtain ⟨v, us, rfl, rx, ru⟩ := rs
    split at e
    · rename_i ds ed
      cases ru; cases e
      obtain ⟨a, vs, rfl, hq, r1⟩ := asQ_rep (K := K) st rx ed
      exact ⟨a, vs, rfl, hq, fun l hl => KD.lst k st r1 hl⟩
    · cases e
  · cases e
theorem snd_tuple {K : PySem.W.Frag} : CaSnd (fun xs H Q => ∃ p ys, xs = [.ref p] ∧ ((SqL K H p ys ∧ ∀ l, H l = none → Q (.ref l) (upd H l (.tup ys))) ∨ (SqT K H p ys ∧ Q (.ref p) H))) tupleG := by
  intro H ρ S xs z vs Q st rs e k
  unfold tupleG at e
  split at e
  · obtain ⟨v, us, rfl, rx, ru⟩ := rs
    cases ru; cases e
    obtain ⟨a, vs, rfl, h1, na, r1⟩ := rx
    exact ⟨a, vs, rfl, .inr ⟨.inl (.inl h1), k.now st ⟨a, vs, rfl, h1, na, r1⟩⟩⟩
  · obtain ⟨v, us, rfl, rx, ru⟩ := rs
    split at e
    · rename_i ds ed
      cases ru; cases e
      obtain ⟨a, vs, rfl, h1, r1⟩ := asL_rep st rx ed
      exact ⟨a, vs, rfl, .inl ⟨.inl (.inl h1), fun l hl => KD.tup k st r1 hl⟩⟩
    · cases e
  · cases e
/-- a list as a new object of the store -/
def listLM (ms : MA) : ME := fun δ S => (ms δ S).bind fun xs S1 => match listG S1 xs with
  | some (.lst ds) => .ok (.loc S1.length) (S1 ++ [.lst ds])
  | _ => .stuck
theorem pd_listL (hm : X.mg x = none) (ha : PA X (e :: es) (tA W ms)) (hg : Gl X x := by rfl) (hv : bootBuiltins x = some (.type "list") := by decide +kernel)
    (hn : x ≠ "__name__" := by decide) (hdb : (x == ("__debug__" : Str)) = false := by decide)
    (he : starEach (e :: es) X.env = (false, eval e X.env) :: starEach es X.env := by rfl) (hpl : (backTo pos (starEach es X.env)).any (·.1) = false := by rfl) : PE X (.Call (.Name x p) (e :: es) [] pos) (tE W (listLM ms)) :=
  PE.weak (pe_callTy call_list_of hg hm hv ha hn hdb he hpl) fun σ H Q h => by
    obtain ⟨δ, S, ρ, I, h⟩ := h
    refine bindG I h fun xs vs S1 H1 ρ1 n1 I1 r1 h1 => ?_
    split at h1
    · rename_i ds el
      unfold listG at el
      split at el
      · obtain ⟨v, us, rfl, rx, ru⟩ := r1
        split at el
        · rename_i ds' ed
          cases ru; cases el
          obtain ⟨a, vs, rfl, hq, r1⟩ := asQ_rep (K := X.K) I1.st rx ed
          refine ⟨a, vs, rfl, hq, fun l hl => ?_⟩
          refine RunG.okN h1 (Nx.push hl) (I1.st.push hl ⟨vs, upd_same, Reps.mono (Nx.push hl) _ _ r1⟩) ⟨l, ?_, rfl⟩
          rw [← I1.st.len]
          simp
        · cases el
      · cases el
    · exact False.elim h1
def asBs : List D → Option (List Bool)
  | [] => some []
  | .bl b :: ds => match asBs ds with
    | some bs => some (b :: bs)
    | none => none
  | _ => none
def asIs : List D → Option (List Int)
  | [] => some []
  | .int b :: ds => match asIs ds with
    | some bs => some (b :: bs)
    | none => none
  | _ => none
def asSs : List D → Option (List (List Nat))
  | [] => some []
  | .str b :: ds => match asSs ds with
    | some bs => some (b :: bs)
    | none => none
  | _ => none
@[simp] theorem asBs_map (bs : List Bool) : asBs (bs.map D.bl) = some bs := by
  induction bs with
  | nil => rfl
  | cons b bs ih => simp [asBs, ih]
@[simp] theorem asIs_map (bs : List Int) : asIs (bs.map D.int) = some bs := by
  induction bs with
  | nil => rfl
  | cons b bs ih => simp [asIs, ih]
@[simp] theorem asSs_map (bs : List (List Nat)) : asSs (bs.map D.str) = some bs := by
  induction bs with
  | nil => rfl
  | cons b bs ih => simp [asSs, ih]
theorem asBs_rep {H : Hp} {ρ : List Addr} : ∀ {ds : List D} {vs : List V} {bs : List Bool}, Reps H ρ ds vs → asBs ds = some bs → vs = bs.map V.bl
  | [], vs, bs, r, h => by cases r; cases h; rfl
  | .bl b :: ds, vs, bs, r, h => by
    obtain ⟨v, us, rfl, rx, ru⟩ := r
    simp only [asBs] at h
    split at h
    · rename_i bs' e
      cases h; cases rx
      rw [asBs_rep ru e]; rfl
    · cases h
  | .non :: _, _, _, _, h => by cases h
  | .int _ :: _, _, _, _, h => by cases h
  | .str _ :: _, _, _, _, h => by cases h
  | .tup _ :: _, _, _, _, h => by cases h
  | .lst _ :: _, _, _, _, h => by cases h
  | .dct _ _ :: _, _, _, _, h => by cases h
  | .obj _ _ _ :: _, _, _, _, h => by cases h
  | .exn _ _ _ _ :: _, _, _, _, h => by cases h
  | .loc _ :: _, _, _, _, h => by cases h
  | .raw _ :: _, _, _, _, h => by cases h
theorem asIs_rep {H : Hp} {ρ : List Addr} : ∀ {ds : List D} {vs : List V} {bs : List Int}, Reps H ρ ds vs → asIs ds = some bs → vs = bs.map V.int
  | [], vs, bs, r, h => by cases r; cases h; rfl
  | .int b :: ds, vs, bs, r, h => by
    obtain ⟨v, us, rfl, rx, ru⟩ := r
    simp only [asIs] at h
    split at h
    · rename_i bs' e
      cases h; cases rx
      rw [asIs_rep ru e]; rfl
    · cases h
  | .non :: _, _, _, _, h => by cases h
  | .bl _ :: _, _, _, _, h => by cases h
  | .str _ :: _, _, _, _, h => by cases h
  | .tup _ :: _, _, _, _, h => by cases h
  | .lst _ :: _, _, _, _, h => by cases h
  | .dct _ _ :: _, _, _, _, h => by cases h
  | .obj _ _ _ :: _, _, _, _, h => by cases h
  | .exn _ _ _ _ :: _, _, _, _, h => by cases h
  | .loc _ :: _, _, _, _, h => by cases h
  | .raw _ :: _, _, _, _, h => by cases h
abbrev sOf (l : List Nat) : Str := ⟨l.toArray⟩
theorem asSs_rep {H : Hp} {ρ : List Addr} : ∀ {ds : List D} {vs : List V} {bs : List (List Nat)}, Reps H ρ ds vs → asSs ds = some bs → vs = (bs.map sOf).map V.str
  | [], vs, bs, r, h => by cases r; cases h; rfl
  | .str b :: ds, vs, bs, r, h => by
    obtain ⟨v, us, rfl, rx, ru⟩ := r
    simp only [asSs] at h
    split at h
    · rename_i bs' e
      cases h; cases rx
      rw [asSs_rep ru e]; rfl
    · cases h
  | .non :: _, _, _, _, h => by cases h
  | .bl _ :: _, _, _, _, h => by cases h
  | .int _ :: _, _, _, _, h => by cases h
  | .tup _ :: _, _, _, _, h => by cases h
  | .lst _ :: _, _, _, _, h => by cases h
  | .dct _ _ :: _, _, _, _, h => by cases h
  | .obj _ _ _ :: _, _, _, _, h => by cases h
  | .exn _ _ _ _ :: _, _, _, _, h => by cases h
  | .loc _ :: _, _, _, _, h => by cases h
  | .raw _ :: _, _, _, _, h => by cases h
def allG (S : Store) (xs : List D) : Option D := match xs with
  | [x] => match asL S x with
    | some ds => match asBs ds with
      | some bs => some (.bl (bs.all id))
      | none => none
    | none => none
  | _ => none
def anyG (S : Store) (xs : List D) : Option D := match xs with
  | [x] => match asL S x with
    | some ds => match asBs ds with
      | some bs => some (.bl (bs.any id))
      | none => none
    | none => none
  | _ => none
def sumG (S : Store) (xs : List D) : Option D := match xs with
  | [x] => match asL S x with
    | some ds => match asIs ds with
      | some bs => some (.int bs.sum)
      | none => none
    | none => none
  | _ => none
theorem snd_all {K : PySem.W.Frag} : CaSnd (rAll K) allG := by
  intro H ρ S xs z vs Q st rs e k
  unfold allG at e
  split at e
  · obtain ⟨v, us, rfl, rx, ru⟩ := rs
    split at e
    · rename_i ds ed
      split at e
      · rename_i bs eb
        cases ru; cases e
        obtain ⟨a, vs, rfl, h1, r1⟩ := asL_rep st rx ed
        have := asBs_rep r1 eb
        subst this
        exact ⟨a, bs, rfl, .inl (.inl h1), k.now st rfl⟩
      · cases e
    · cases e
  · cases e
theorem snd_any {K : PySem.W.Frag} : CaSnd (rAny K) anyG := by
  intro H ρ S xs z vs Q st rs e k
  unfold anyG at e
  split at e
  · obtain ⟨v, us, rfl, rx, ru⟩ := rs
    split at e
    · rename_i ds ed
      split at e
      · rename_i bs eb
        cases ru; cases e
        obtain ⟨a, vs, rfl, h1, r1⟩ := asL_rep st rx ed
        have := asBs_rep r1 eb
        subst this
        exact ⟨a, bs, rfl, .inl (.inl h1), k.now st rfl⟩
      · cases e
    · cases e
  · cases e
theorem snd_sum {K : PySem.W.Frag} : CaSnd (rSum K) sumG := by
  intro H ρ S xs z vs Q st rs e k
  unfold sumG at e
  split at e
  · obtain ⟨v, us, rfl, rx, ru⟩ := rs
    split at e
    · rename_i ds ed
      split at e
      · rename_i bs eb
        cases ru; cases e
        obtain ⟨a, vs, rfl, h1, r1⟩ := asL_rep st rx ed
        have := asIs_rep r1 eb
        subst this
        exact ⟨a, bs, rfl, .inl (.inl h1), k.now st rfl⟩
      · cases e
    · cases e
  · cases e
/-! ### isinstance with built-in classes -/
def tyN (S : Store) : D → Option String
  | .non => some "NoneType"
  | .bl _ => some "bool"
  | .int _ => some "int"
  | .str _ => some "str"
  | .tup _ => some "tuple"
  | .lst _ => some "list"
  | .dct _ _ => some "dict"
  | .loc n => match S[n]? with
    | some (.lst _) => some "list"
    | some (.dct _ _) => some "dict"
    | _ => none
  | _ => none
theorem tyN_rep {K : PySem.W.Frag} {H : Hp} {ρ : List Addr} {S : Store} {x : D} {v : V} {t : String} (st : StS H S ρ) (r : Rep H ρ x v) (h : tyN S x = some t) : TyX K H v (.type t) := by
  cases x with
  | non => cases h; cases r; exact .base .non
  | bl _ => cases h; cases r; exact .base (.bl _)
  | int _ => cases h; cases r; exact .base (.int _)
  | str _ => cases h; cases r; exact .base (.str _)
  | tup _ => cases h; obtain ⟨a, vs, rfl, h1, _⟩ := r; exact .base (.tup h1)
  | lst _ => cases h; obtain ⟨a, vs, rfl, h1, _⟩ := r; exact .base (.lst h1)
  | dct _ _ => cases h; obtain ⟨a, vs, rfl, h1, _⟩ := r; exact .base (.dK h1)
  | loc n =>
    obtain ⟨a, ha, rfl⟩ := r
    simp only [tyN] at h
    split at h
    · rename_i ds e
      cases h
      obtain ⟨vs, h1, _⟩ := st.cells n a _ ha e
      exact .base (.lst h1)
    · rename_i ks ds e
      cases h
      obtain ⟨vs, h1, _⟩ := st.cells n a _ ha e
      exact .base (.dK h1)
    · cases h
  | _ => cases h
/-- isinstance(x, T) -/
def isiG (f : String → Option Bool) (S : Store) (xs : List D) : Option D := match xs with
  | [x, _] => match tyN S x with
    | some t => match f t with
      | some b => some (.bl b)
      | none => none
    | none => none
  | _ => none
def f_str (t : String) : Option Bool := if t = "str" then some true else if t = "NoneType" ∨ t = "bool" ∨ t = "int" ∨ t = "tuple" ∨ t = "list" ∨ t = "dict" then some false else none
def f_int (t : String) : Option Bool := if t = "int" ∨ t = "bool" then some true else if t = "NoneType" ∨ t = "str" ∨ t = "tuple" ∨ t = "list" ∨ t = "dict" then some false else none
def f_bool (t : String) : Option Bool := if t = "bool" then some true else if t = "NoneType" ∨ t = "int" ∨ t = "str" ∨ t = "tuple" ∨ t = "list" ∨ t = "dict" then some false else none
def f_tuple (t : String) : Option Bool := if t = "tuple" then some true else if t = "NoneType" ∨ t = "bool" ∨ t = "int" ∨ t = "str" ∨ t = "list" ∨ t = "dict" then some false else none
def f_list (t : String) : Option Bool := if t = "list" then some true else if t = "NoneType" ∨ t = "bool" ∨ t = "int" ∨ t = "str" ∨ t = "tuple" ∨ t = "dict" then some false else none
def f_lt (t : String) : Option Bool := if t = "list" ∨ t = "tuple" then some true else if t = "NoneType" ∨ t = "bool" ∨ t = "int" ∨ t = "str" ∨ t = "dict" then some false else none
end
end SL

/-! SL: isinstance, methods of texts and lists. -/
namespace SL
open PySem PySem.Spec L2
open PyProof.Rows hiding St
section
variable {X : Cx} {W : WX} {a b c e o : Expr} {es rest : List Expr} {ma mb mc me mo : ME} {ms : MA} {p pos apos cpos : Pos} {x : Str}
def isTy (n t : String) : Option Bool :=
  if n = "str" then f_str t else if n = "int" then f_int t else if n = "bool" then f_bool t else if n = "tuple" then f_tuple t else if n = "list" then f_list t else none
theorem isTy_kit {n t : String} {b : Bool} (h : isTy n t = some b) : kitB t n = some b := by
  unfold isTy at h
  split at h
  · rename_i e; subst e; unfold f_str at h
    split at h
    · rename_i e; subst e; cases h; decide +kernel
    · split at h
      · rename_i e; cases h; rcases e with e | e | e | e | e | e <;> subst e <;> decide +kernel
      · cases h
  · split at h
    · rename_i e; subst e; unfold f_int at h
      split at h
      · rename_i e; cases h; rcases e with e | e <;> subst e <;> decide +kernel
      · split at h
        · rename_i e; cases h; rcases e with e | e | e | e | e <;> subst e <;> decide +kernel
        · cases h
    · split at h
      · rename_i e; subst e; unfold f_bool at h
        split at h
        · rename_i e; subst e; cases h; decide +kernel
        · split at h
          · rename_i e; cases h; rcases e with e | e | e | e | e | e <;> subst e <;> decide +kernel
          · cases h
      · split at h
        · rename_i e; subst e; unfold f_tuple at h
          split at h
          · rename_i e; subst e; cases h; decide +kernel
          · split at h
            · rename_i e; cases h; rcases e with e | e | e | e | e | e <;> subst e <;> decide +kernel
            · cases h
        · split at h
          · rename_i e; subst e; unfold f_list at h
            split at h
            · rename_i e; subst e; cases h; decide +kernel
            · split at h
              · rename_i e; cases h; rcases e with e | e | e | e | e | e <;> subst e <;> decide +kernel
              · cases h
          · cases h
def isiA (S : Store) (xs : List D) : Option D := match xs with
  | [x, .raw (.ty n)] => match tyN S x with
    | some t => match isTy n t with
      | some b => some (.bl b)
      | none => none
    | none => none
  | [x, .tup [.raw (.ty n), .raw (.ty m)]] => match tyN S x with
    | some t => match isTy n t, isTy m t with
      | some b, some c => some (.bl (b || c))
      | _, _ => none
    | none => none
  | _ => none
def rIsiA (K : PySem.W.Frag) : List V → Hp → VK → Prop := fun xs H Q => rIsi K xs H Q ∨ rIsiT K xs H Q
theorem call_isiA : CallR X (.builtin "isinstance") (rIsiA X.K) := CallR.or call_isi call_isiT
theorem snd_isi {K : PySem.W.Frag} : CaSnd (rIsiA K) isiA := by
  intro H ρ S xs z vs Q st rs e k
  unfold isiA at e
  split at e
  · obtain ⟨v, us, rfl, rx, ru⟩ := rs
    obtain ⟨u, ws, rfl, ry, rw'⟩ := ru
    cases rw'
    cases ry
    split at e
    · rename_i t et
      split at e
      · rename_i b eb
        cases e
        exact .inl ⟨v, _, _, _, b, rfl, .ty _, tyN_rep st rx et, kit_ty (isTy_kit eb), k.now st rfl⟩
      · cases e
    · cases e
  · obtain ⟨v, us, rfl, rx, ru⟩ := rs
    obtain ⟨u, ws, rfl, ry, rw'⟩ := ru
    cases rw'
    obtain ⟨tp, cs, rfl, h1, _, rc⟩ := ry
    obtain ⟨c1, cs1, rfl, rc1, rc2⟩ := rc
    obtain ⟨c2, cs2, rfl, rc3, rc4⟩ := rc2
    cases rc4; cases rc1; cases rc3
    split at e
    · rename_i t et
      split at e
      · rename_i b c eb ec
        cases e
        refine .inr ⟨v, tp, _, _, _, b || c, rfl, h1, .cons (.ty _) (.cons (.ty _) .nil), tyN_rep st rx et, ?_, k.now st rfl⟩
        refine kitAny_cons (kit_ty (isTy_kit eb)) (fun hb => kitAny_cons (kit_ty (isTy_kit ec)) (fun hc => ?_) (fun hc => ?_)) (fun hb => ?_)
        · rw [hb, hc]; rfl
        · rw [hb, hc]; rfl
        · rw [hb]; rfl
      · cases e
    · cases e
  · cases e
/-! ### methods of texts -/
def mtM (g : Store → D → List D → Option D) (mo : ME) (ms : MA) : ME := fun δ S => (mo δ S).bind fun x S1 => (ms δ S1).bind fun xs S2 => RO (g S2 x xs) S2
def isS : D → Bool
  | .str _ => true
  | _ => false
def mtS (g : Store → D → List D → Option D) (mo : ME) (ms : MA) : ME := fun δ S => (mo δ S).bind fun x S1 => if isS x = true then (ms δ S1).bind fun xs S2 => RO (g S2 x xs) S2 else .stuck
theorem isS_rep {K : PySem.W.Frag} {H : Hp} {ρ : List Addr} {d : D} {v : V} (r : Rep H ρ d v) (h : isS d = true) : tyV K "str" v H := by
  cases d with
  | str _ => cases r; rfl
  | _ => cases h
theorem pd_strm {name : Str} {id : String} {r : V → List V → Hp → VK → Prop} {g : Store → D → List D → Option D} (slot : Slot "str" name id) (hty : typeOf (.builtin id) = pure (.type "method_descriptor")) (hm : MtR X id r) (s : MtSnd r g) (ho : PE X o (tE W mo)) (ha : PA X (e :: es) (tA W ms))
    (hbase : attributeBase o name X.env (eval o X.env) = eval o X.env := by rfl)
    (hfew : ((backTo cpos (starEach (e :: es) X.env)).all (fun x => !x.1) && (backToKw cpos (keywordEach [] X.env)).all (fun x => x.1.isSome)
      && decide ((e :: es).length + ([] : List Keyword).length + (if ([] : List Keyword).isEmpty then 0 else 1) < 30)) = true := by rfl)
    (hline : (apos.endLine == cpos.line) = true := by rfl) (hs : starEach (e :: es) X.env = (false, eval e X.env) :: starEach es X.env := by rfl) (hplain : (backTo cpos (starEach es X.env)).any (·.1) = false := by rfl) :
    PE X (.Call (.Attribute o name apos) (e :: es) [] cpos) (tE W (mtS g mo ms)) := by
  refine PE.weak (pe_bm PySem.F.plainAttrs_str slot hty hm ho ha hbase hfew hline hs hplain) fun σ H Q h => ?_
  obtain ⟨δ, S, ρ, I, h⟩ := h
  refine bindG I h fun x v S1 H1 ρ1 n1 I1 r1 h1 => ?_
  split at h1
  · rename_i hx
    refine ⟨isS_rep r1 hx, ?_⟩
    refine bindG I1 h1 fun xs vs S2 H2 ρ2 n2 I2 r2 h2 => ?_
    obtain ⟨z, e, k⟩ := h2.ro
    exact s H2 ρ2 S2 x xs z v vs Q I2.st (Rep.mono n2 _ _ r1) r2 e fun w H' n st r => k w H' ρ2 n st r
  · exact False.elim h1
theorem pd_strm0 {name : Str} {id : String} {r : V → List V → Hp → VK → Prop} {g : Store → D → List D → Option D} (slot : Slot "str" name id) (hty : typeOf (.builtin id) = pure (.type "method_descriptor")) (hm : MtR X id r) (s : MtSnd r g) (ho : PE X o (tE W mo))
    (hbase : attributeBase o name X.env (eval o X.env) = eval o X.env := by rfl) (hline : (apos.endLine == cpos.line) = true := by rfl) :
    PE X (.Call (.Attribute o name apos) [] [] cpos) (tE W (mtS g mo nilM)) := by
  refine PE.weak (pe_bm0 PySem.F.plainAttrs_str slot hty hm ho hbase hline) fun σ H Q h => ?_
  obtain ⟨δ, S, ρ, I, h⟩ := h
  refine bindG I h fun x v S1 H1 ρ1 n1 I1 r1 h1 => ?_
  split at h1
  · rename_i hx
    refine ⟨isS_rep r1 hx, ?_⟩
    obtain ⟨z, e, k⟩ := h1.ro
    exact s H1 ρ1 S1 x [] z v [] Q I1.st r1 Reps.nil e fun w H' n st r => k w H' ρ1 n st r
  · exact False.elim h1
def upL (c : Nat) : Nat := if 97 ≤ c ∧ c ≤ 122 then c - 32 else c
def loL (c : Nat) : Nat := if 65 ≤ c ∧ c ≤ 90 then c + 32 else c
def asc (l : List Nat) : Bool := l.all fun c => decide (c < 128)
theorem asc_lt {l : List Nat} (h : asc l = true) : ∀ c ∈ l, c < 128 := fun c hc => of_decide_eq_true (List.all_eq_true.mp h c hc)
def upperG (_ : Store) (x : D) (xs : List D) : Option D := match x, xs with
  | .str l, [] => if asc l = true ∧ l.length ≤ 1000000 then some (.str (l.map upL)) else none
  | _, _ => none
def lowerG (_ : Store) (x : D) (xs : List D) : Option D := match x, xs with
  | .str l, [] => if asc l = true ∧ l.length ≤ 1000000 then some (.str (l.map loL)) else none
  | _, _ => none
theorem snd_upper : MtSnd (fun x xs H Q => ∃ a, x = .str a ∧ xs = [] ∧ a.length ≤ 5592405 ∧ Q (.str (Txt.upper a)) H) upperG := by
  intro H ρ S x xs z v vs Q st rx rs e k
  unfold upperG at e
  split at e
  · rename_i l
    split at e
    · rename_i h
      cases e; cases rx; cases rs
      refine ⟨_, rfl, rfl, by rw [str_len]; omega, ?_⟩
      have : Txt.upper (⟨l.toArray⟩ : Str) = ⟨(l.map upL).toArray⟩ := by
        rw [PyProof.Rows.upper_ascii (by simpa using asc_lt h.1)]
        simp
        exact fun _ _ => rfl
      rw [this]
      exact k.now st rfl
    · cases e
  · cases e
theorem snd_lower : MtSnd (fun x xs H Q => ∃ a, x = .str a ∧ xs = [] ∧ a.length ≤ 5592405 ∧ Q (.str (Txt.lower a)) H) lowerG := by
  intro H ρ S x xs z v vs Q st rx rs e k
  unfold lowerG at e
  split at e
  · rename_i l
    split at e
    · rename_i h
      cases e; cases rx; cases rs
      refine ⟨_, rfl, rfl, by rw [str_len]; omega, ?_⟩
      have : Txt.lower (⟨l.toArray⟩ : Str) = ⟨(l.map loL).toArray⟩ := by
        rw [PyProof.Rows.lower_ascii (by simpa using asc_lt h.1)]
        simp
        exact fun _ _ => rfl
      rw [this]
      exact k.now st rfl
    · cases e
  · cases e
/-- texts glued -/
def joinL (s : List Nat) : List (List Nat) → List Nat
  | [] => []
  | [x] => x
  | x :: y :: r => x ++ s ++ joinL s (y :: r)
theorem glue_fold (s : List Nat) : ∀ (r : List (List Nat)) (acc : List Nat), (((r.map sOf).foldl (fun acc p => acc ++ (sOf s).cps ++ p.cps) acc.toArray).toList) = acc ++ (r.map (fun x => s ++ x)).flatten
  | [], acc => by simp
  | x :: r, acc => by
    rw [List.map_cons, List.foldl_cons]
    have : acc.toArray ++ (sOf s).cps ++ (sOf x).cps = (acc ++ s ++ x).toArray := by simp [sOf]
    rw [this, glue_fold s r]
    simp
theorem joinL_eq (s : List Nat) : ∀ (r : List (List Nat)) (x : List Nat), joinL s (x :: r) = x ++ (r.map (fun x => s ++ x)).flatten
  | [], x => by simp [joinL]
  | y :: r, x => by
    rw [joinL, joinL_eq s r y]
    simp
theorem join_eq (s : List Nat) (ls : List (List Nat)) : Txt.join (sOf s) (ls.map sOf) = sOf (joinL s ls) := by
  show (⟨((ls.map sOf).drop 1).foldl (fun acc p => acc ++ (sOf s).cps ++ p.cps) ((ls.map sOf).headD Str.empty).cps⟩ : Str) = _
  cases ls with
  | nil => rfl
  | cons x r =>
    have := glue_fold s r x
    congr 1
    apply Array.toList_inj.mp
    rw [List.map_cons, List.drop_succ_cons, List.drop_zero, List.headD_cons]
    show (List.foldl _ (x.toArray) _).toList = _
    rw [this, joinL_eq]
def joinG (S : Store) (x : D) (xs : List D) : Option D := match x, xs with
  | .str s, [y] => match asQ S y with
    | some ds => match asSs ds with
      | some ls => if (ls.map List.length).sum + ls.length * s.length ≤ 1000000 then some (.str (joinL s ls)) else none
      | none => none
    | none => none
  | _, _ => none
theorem snd_join {K : PySem.W.Frag} : MtSnd (fun x xs H Q => ∃ a p, ∃ ys : List Str, x = .str a ∧ xs = [.ref p] ∧ (SqL K H p (ys.map V.str) ∨ SqT K H p (ys.map V.str)) ∧
    (ys.map (·.length)).sum + ys.length * a.length ≤ 16777216 ∧ Q (.str (Txt.join a ys)) H) joinG := by
  intro H ρ S x xs z v vs Q st rx rs e k
  unfold joinG at e
  split at e
  · rename_i s y
    split at e
    · rename_i ds ed
      split at e
      · rename_i ls el
        split at e
        · rename_i hl
          cases e; cases rx
          obtain ⟨u, us, rfl, ry, ru⟩ := rs
          cases ru
          obtain ⟨a, ws, rfl, hq, r1⟩ := asQ_rep (K := K) st ry ed
          have := asSs_rep r1 el
          subst this
          refine ⟨_, a, ls.map sOf, rfl, rfl, hq, ?_, ?_⟩
          · have e1 : (ls.map sOf).map (·.length) = ls.map List.length := by
              rw [List.map_map]
              apply List.map_congr_left
              intro l _
              exact str_len l
            rw [e1, List.length_map, str_len]
            omega
          · rw [show (⟨s.toArray⟩ : Str) = sOf s from rfl, join_eq]
            exact k.now st rfl
        · cases e
      · cases e
    · cases e
  · cases e
end
end SL

/-! SL: statements, loops. -/
namespace SL
open PySem PySem.Spec L2
open PyProof.Rows hiding St
inductive Flw where
  | nx (δ : DEnv) (S : Store) | rt (d : D) (S : Store) | bk (δ : DEnv) (S : Store) | ct (δ : DEnv) (S : Store) | exc (x : Ex) (δ : DEnv) (S : Store) | stuck
abbrev MS := DEnv → Store → Flw
def bindS {α : Type} (r : Res α) (δ : DEnv) (k : α → Store → Flw) : Flw := match r with
  | .ok a S => k a S
  | .exc x S => .exc x δ S
  | .stuck => .stuck
@[simp] theorem bindS_ok {α : Type} (a : α) (S : Store) (δ : DEnv) (k : α → Store → Flw) : bindS (.ok a S) δ k = k a S := rfl
@[simp] theorem bindS_exc {α : Type} (x : Ex) (S : Store) (δ : DEnv) (k : α → Store → Flw) : bindS (.exc x S) δ k = .exc x δ S := rfl
@[simp] theorem bindS_stuck {α : Type} (δ : DEnv) (k : α → Store → Flw) : bindS .stuck δ k = .stuck := rfl
section
variable (W : WX) (G : Ends)
def RunF (H : Hp) (ρ : List Addr) (r : Flw) : Prop := match r with
  | .nx δ' S' => ∀ σ' H' ρ', Nx H ρ H' ρ' → StE σ' H' δ' S' ρ' → G.nx σ' H'
  | .bk δ' S' => ∀ σ' H' ρ', Nx H ρ H' ρ' → StE σ' H' δ' S' ρ' → G.bk σ' H'
  | .ct δ' S' => ∀ σ' H' ρ', Nx H ρ H' ρ' → StE σ' H' δ' S' ρ' → G.ct σ' H'
  | .rt d S' => ∀ v H' ρ', Nx H ρ H' ρ' → StS H' S' ρ' → Rep H' ρ' d v → G.rt v H'
  | .exc x δ' S' => ∀ c dd σ' H' ρ', Nx H ρ H' ρ' → StE σ' H' δ' S' ρ' → RepX H' ρ' x c dd → W c dd σ' H'
  | .stuck => False
end
def tS (W : WX) (m : MS) : TS := fun G σ H => ∃ δ S ρ, StE σ H δ S ρ ∧ RunF W G H ρ (m δ S)
section
variable {X : Cx} {W : WX} {G : Ends} {H H1 : Hp} {ρ ρ1 : List Addr} {σ : St} {δ : DEnv} {S : Store} {α β : Type} {R : Hp → List Addr → α → β → Prop}
theorem RunF.mono {r : Flw} (n : Nx H ρ H1 ρ1) (h : RunF W G H ρ r) : RunF W G H1 ρ1 r := by
  cases r with
  | nx δ S => exact fun σ' H' ρ' n' st => h σ' H' ρ' (n.trans n') st
  | bk δ S => exact fun σ' H' ρ' n' st => h σ' H' ρ' (n.trans n') st
  | ct δ S => exact fun σ' H' ρ' n' st => h σ' H' ρ' (n.trans n') st
  | rt d S => exact fun v H' ρ' n' st r => h v H' ρ' (n.trans n') st r
  | exc x δ S => exact fun c dd σ' H' ρ' n' st r => h c dd σ' H' ρ' (n.trans n') st r
  | stuck => exact h
theorem bindGF {m1 : DEnv → Store → Res α} {k : α → Store → Flw} {P : β → Hp → Prop} (I : StE σ H δ S ρ) (h : RunF W G H ρ (bindS (m1 δ S) δ k))
    (hk : ∀ a b S1 H1 ρ1, Nx H ρ H1 ρ1 → StE σ H1 δ S1 ρ1 → R H1 ρ1 a b → RunF W G H1 ρ1 (k a S1) → P b H1) : tG W R m1 σ H P := by
  refine ⟨δ, S, ρ, I, ?_⟩
  cases e : m1 δ S with
  | ok a S1 =>
    rw [e] at h
    intro b H1 ρ1 n st r
    exact hk a b S1 H1 ρ1 n (I.next n st) r (h.mono n)
  | exc x S1 =>
    rw [e] at h
    exact fun c dd H' ρ' n st r => h c dd σ H' ρ' n (I.next n st) r
  | stuck =>
    rw [e] at h
    exact h
/-! ### simple statements -/
def asgM (i : Nat) (me : ME) : MS := fun δ S => bindS (me δ S) δ fun d S1 => .nx (δ.set i (some d)) S1
def retM (me : ME) : MS := fun δ S => bindS (me δ S) δ fun d S1 => .rt d S1
def retN : MS := fun _ S => .rt .non S
def exprM (me : ME) : MS := fun δ S => bindS (me δ S) δ fun _ S1 => .nx δ S1
def ifSM (nc : MB) (m1 m2 : MS) : MS := fun δ S => bindS (nc δ S) δ fun c S1 => if c = true then m1 δ S1 else m2 δ S1
def seqM (m1 m2 : MS) : MS := fun δ S => match m1 δ S with
  | .nx δ1 S1 => m2 δ1 S1
  | r => r
def nxM : MS := fun δ S => .nx δ S
def bkM : MS := fun δ S => .bk δ S
def ctM : MS := fun δ S => .ct δ S
variable {st : Stmt} {rest sa sb : List Stmt} {e c : Expr} {es : List Expr} {me mb : ME} {nc : MB} {m1 m2 : MS} {pos pos' : Pos}
theorem pss_dnil : PSs X [] (tS W nxM) := PSs.weak pss_nil fun G σ H h => by
  obtain ⟨δ, S, ρ, I, h⟩ := h
  exact h σ H ρ (Nx.refl _ _) I
theorem pss_dcons (h1 : PS X st (tS W m1)) (h2 : PSs X rest (tS W m2)) : PSs X (st :: rest) (tS W (seqM m1 m2)) := PSs.weak (pss_cons h1 h2) fun G σ H h => by
  obtain ⟨δ, S, ρ, I, h⟩ := h
  refine ⟨δ, S, ρ, I, ?_⟩
  unfold seqM at h
  cases e : m1 δ S with
  | nx δ1 S1 =>
    rw [e] at h
    exact fun σ' H' ρ' n st => ⟨δ1, S1, ρ', st, h.mono n⟩
  | bk δ S => rw [e] at h; exact h
  | ct δ S => rw [e] at h; exact h
  | rt d S => rw [e] at h; exact h
  | exc x δ S => rw [e] at h; exact h
  | stuck => rw [e] at h; exact h
theorem pss_done (h1 : PS X st (tS W m1)) : PSs X [st] (tS W m1) := pss_one h1
theorem ps_dset {i : Nat} {x : Str} (hN : X.N.Nodup) (hi : X.N[i]? = some x) (hx : Loc X.env.scope x) (he : PE X e (tE W me)) (hs : swapsWith e (some (.Name x pos')) pos.line X.env = pure false := by rfl)
    (hf : X.fn x = true ∨ X.env.scope.names.lookup x = some .local := by first | exact .inl rfl | exact .inr rfl | assumption) : PS X (.Assign [.Name x pos'] e pos) (tS W (asgM i me)) :=
  PS.weak (ps_set hN hi hx he hs hf) fun G σ H h => by
    obtain ⟨δ, S, ρ, I, h⟩ := h
    refine bindGF I h fun d v S1 H1 ρ1 n1 I1 r1 h1 => ?_
    exact h1 _ H1 ρ1 (Nx.refl _ _) ⟨I1.st, I1.env.set i r1⟩
theorem ps_dret (he : PE X e (tE W me)) : PS X (.Return (some e) pos) (tS W (retM me)) := PS.weak (ps_ret he) fun G σ H h => by
  obtain ⟨δ, S, ρ, I, h⟩ := h
  refine bindGF I h fun d v S1 H1 ρ1 n1 I1 r1 h1 => ?_
  exact h1 v H1 ρ1 (Nx.refl _ _) I1.st r1
theorem ps_dretN : PS X (.Return none pos) (tS W retN) := PS.weak ps_retN fun G σ H h => by
  obtain ⟨δ, S, ρ, I, h⟩ := h
  exact h .non H ρ (Nx.refl _ _) I.st rfl
theorem ps_dexpr (he : PE X e (tE W me)) (hs : swapsWith e none pos.line X.env = pure false := by rfl) : PS X (.Expr e pos) (tS W (exprM me)) := PS.weak (ps_expr he hs) fun G σ H h => by
  obtain ⟨δ, S, ρ, I, h⟩ := h
  refine bindGF I h fun d v S1 H1 ρ1 n1 I1 r1 h1 => ?_
  exact h1 σ H1 ρ1 (Nx.refl _ _) I1
theorem ps_dif (hc : PT X c (tT W nc)) (ha : PSs X sa (tS W m1)) (hb : PSs X sb (tS W m2)) : PS X (.If c sa sb pos) (tS W (ifSM nc m1 m2)) := PS.weak (ps_if hc ha hb) fun G σ H h => by
  obtain ⟨δ, S, ρ, I, h⟩ := h
  refine bindGF I h fun b b' S1 H1 ρ1 n1 I1 r1 h1 => ?_
  cases r1
  show if b = true then _ else _
  cases b with
  | true => rw [if_pos rfl] at h1 ⊢; exact ⟨δ, S1, ρ1, I1, h1⟩
  | false => rw [if_neg Bool.false_ne_true] at h1 ⊢; exact ⟨δ, S1, ρ1, I1, h1⟩
theorem ps_dpass : PS X (.Pass pos) (tS W nxM) := PS.weak ps_pass fun G σ H h => by
  obtain ⟨δ, S, ρ, I, h⟩ := h
  exact h σ H ρ (Nx.refl _ _) I
theorem ps_dbreak : PS X (.Break pos) (tS W bkM) := PS.weak ps_break fun G σ H h => by
  obtain ⟨δ, S, ρ, I, h⟩ := h
  exact h σ H ρ (Nx.refl _ _) I
theorem ps_dcont : PS X (.Continue pos) (tS W ctM) := PS.weak ps_continue fun G σ H h => by
  obtain ⟨δ, S, ρ, I, h⟩ := h
  exact h σ H ρ (Nx.refl _ _) I
/-! ### targets -/
inductive Tg where
  | nm (i : Nat) | tp (ts : List Tg)
mutual
def bindT : Tg → D → DEnv → Option DEnv
  | .nm i, d, δ => some (δ.set i (some d))
  | .tp ts, .tup ds, δ => bindTs ts ds δ
  | .tp _, _, _ => none
def bindTs : List Tg → List D → DEnv → Option DEnv
  | [], [], δ => some δ
  | t :: ts, d :: ds, δ => match bindT t d δ with
    | some δ1 => bindTs ts ds δ1
    | none => none
  | _, _, _ => none
end
mutual
def Tg.sl : Tg → List Nat
  | .nm i => [i]
  | .tp ts => Tg.sls ts
def Tg.sls : List Tg → List Nat
  | [] => []
  | t :: ts => t.sl ++ Tg.sls ts
end
/-- alike but at some slots -/
def Off (l : List Nat) (σ σ' : St) : Prop := σ'.length = σ.length ∧ ∀ j, j ∉ l → σ'[j]? = σ[j]?
def gD (tg : Tg) : TG := fun v σ H Q => ∃ d δ S ρ δ', StE σ H δ S ρ ∧ Rep H ρ d v ∧ bindT tg d δ = some δ' ∧ ∀ σ', StE σ' H δ' S ρ → Off tg.sl σ σ' → Q σ' H
def gsD (tgs : List Tg) : TGs := fun vs σ H Q => ∃ ds δ S ρ δ', StE σ H δ S ρ ∧ Reps H ρ ds vs ∧ bindTs tgs ds δ = some δ' ∧ ∀ σ', StE σ' H δ' S ρ → Off (Tg.sls tgs) σ σ' → Q σ' H
theorem PG.weak {tg : Expr} {t t' : TG} (h : PG X tg t) (hw : ∀ v σ H Q, t' v σ H Q → t v σ H Q) : PG X tg t' := ⟨fun pins s σ H v u Q I r q => h.run pins s σ H v u Q I r (hw _ _ _ _ q)⟩
theorem PGs.weak {tg : List Expr} {t t' : TGs} (h : PGs X tg t) (hw : ∀ v σ H Q, t' v σ H Q → t v σ H Q) : PGs X tg t' := ⟨fun pins s σ H v u Q I r q => h.run pins s σ H v u Q I r (hw _ _ _ _ q)⟩
theorem pg_dname {i : Nat} {x : Str} (hN : X.N.Nodup) (hi : X.N[i]? = some x) (hx : Loc X.env.scope x) (hf : X.fn x = true ∨ X.env.scope.names.lookup x = some .local := by first | exact .inl rfl | exact .inr rfl | assumption) : PG X (.Name x pos) (gD (.nm i)) :=
  PG.weak (pg_name hN hi hx hf) fun v σ H Q h => by
    obtain ⟨d, δ, S, ρ, δ', I, r, e, q⟩ := h
    cases e
    refine q _ ⟨I.st, I.env.set i r⟩ ⟨by simp, fun j hj => ?_⟩
    rw [List.getElem?_set_ne (fun z => hj (by simp [Tg.sl, z]))]
theorem pgs_dnil : PGs X [] (gsD []) := PGs.weak pgs_nil fun vs σ H Q h => by
  obtain ⟨ds, δ, S, ρ, δ', I, r, e, q⟩ := h
  cases ds with
  | nil =>
    cases r; cases e
    exact ⟨rfl, q σ I ⟨rfl, fun j _ => rfl⟩⟩
  | cons _ _ => cases e
theorem pgs_dcons {t : Expr} {ts : List Expr} {tg : Tg} {tgs : List Tg} (h1 : PG X t (gD tg)) (h2 : PGs X ts (gsD tgs))
    (hs : (assignEach (t :: ts) X.env).map (·.2) = assign t X.env :: (assignEach ts X.env).map (·.2) := by rfl) : PGs X (t :: ts) (gsD (tg :: tgs)) := PGs.weak (pgs_cons h1 h2 hs) fun vs σ H Q h => by
  obtain ⟨ds, δ, S, ρ, δ', I, r, e, q⟩ := h
  cases ds with
  | nil => cases e
  | cons d ds =>
    obtain ⟨v, us, rfl, r1, r2⟩ := r
    simp only [bindTs] at e
    split at e
    · rename_i δ1 e1
      refine ⟨v, us, rfl, d, δ, S, ρ, δ1, I, r1, e1, fun σ' I' o' => ⟨ds, δ1, S, ρ, δ', I', r2, e, fun σ2 I2 o2 => q σ2 I2 ⟨o2.1.trans o'.1, fun j hj => ?_⟩⟩⟩
      simp only [Tg.sls, List.mem_append, not_or] at hj
      exact (o2.2 j hj.2).trans (o'.2 j hj.1)
    · cases e
theorem bindTs_len : ∀ {tgs : List Tg} {ds : List SL.D} {δ δ' : DEnv}, bindTs tgs ds δ = some δ' → tgs.length = ds.length
  | [], [], _, _, _ => rfl
  | [], _ :: _, _, _, h => by cases h
  | _ :: _, [], _, _, h => by cases h
  | t :: ts, d :: ds, δ, δ', h => by
    simp only [bindTs] at h
    split at h
    · simp [bindTs_len h]
    · cases h
theorem pg_dtup {k : Nat} {tgs : List Tg} (hc : X.calm = true) (h : PGs X es (gsD tgs)) (hn : (assignEach es X.env).length = tgs.length := by rfl) (hst : (assignEach es X.env).findIdx? (·.1) = none := by rfl) : PG X (.Tuple es k pos) (gD (.tp tgs)) :=
  PG.weak (pg_tup (n := tgs.length) hc h hn hst) fun v σ H Q h => by
    obtain ⟨d, δ, S, ρ, δ', I, r, e, q⟩ := h
    cases d with
    | tup ds =>
      simp only [bindT] at e
      obtain ⟨a, vs, rfl, h1, n1, r1⟩ := r
      exact ⟨a, vs, rfl, .inl (.inl h1), by rw [← r1.len, bindTs_len e], ds, δ, S, ρ, δ', I, r1, e, q⟩
    | _ => simp only [bindT] at e; cases e
def asgT (tg : Tg) (me : ME) : MS := fun δ S => bindS (me δ S) δ fun d S1 => match bindT tg d δ with
  | some δ1 => .nx δ1 S1
  | none => .stuck
theorem ps_dasg {tg : Expr} {t : Tg} (he : PE X e (tE W me)) (hg : PG X tg (gD t)) (hs : swapsWithSole [tg] e pos.line X.env = pure false := by rfl) (hw : swappedStores [tg] e X.env = pure none := by rfl)
    (h1 : (assignEach [tg] X.env).map (·.2) = [assign tg X.env] := by rfl) : PS X (.Assign [tg] e pos) (tS W (asgT t me)) := PS.weak (ps_asg he hg hs hw h1) fun G σ H h => by
  obtain ⟨δ, S, ρ, I, h⟩ := h
  refine bindGF I h fun d v S1 H1 ρ1 n1 I1 r1 h1 => ?_
  split at h1
  · rename_i δ1 e1
    exact ⟨d, δ, S1, ρ1, δ1, I1, r1, e1, fun σ' I' _ => h1 σ' H1 ρ1 (Nx.refl _ _) I'⟩
  · exact False.elim h1
/-! ### while -/
def whileN (nc : MB) (b : MS) : Nat → MS
  | 0, _, _ => .stuck
  | n + 1, δ, S => bindS (nc δ S) δ fun c S1 => if c = true then (match b δ S1 with
      | .nx δ2 S2 => whileN nc b n δ2 S2
      | .ct δ2 S2 => whileN nc b n δ2 S2
      | .bk δ2 S2 => .nx δ2 S2
      | r => r) else .nx δ S1
open Classical in
noncomputable def whileM (nc : MB) (b : MS) : MS := fun δ S => if h : ∃ n, whileN nc b n δ S ≠ .stuck then whileN nc b (Classical.choose h) δ S else .stuck
theorem whileN_more {nc : MB} {b : MS} : ∀ {n : Nat} {δ : DEnv} {S : Store}, whileN nc b n δ S ≠ .stuck → ∀ m, n ≤ m → whileN nc b m δ S = whileN nc b n δ S
  | 0, _, _, h, _, _ => absurd rfl h
  | n + 1, δ, S, h, 0, hm => absurd hm (by omega)
  | n + 1, δ, S, h, m + 1, hm => by
    unfold whileN at h ⊢
    cases e : nc δ S with
    | ok c S1 =>
      rw [e] at h
      simp only [bindS_ok] at h ⊢
      cases c with
      | false => rfl
      | true =>
        simp only [if_true] at h ⊢
        cases eb : b δ S1 with
        | nx δ2 S2 => rw [eb] at h; exact whileN_more h m (by omega)
        | ct δ2 S2 => rw [eb] at h; exact whileN_more h m (by omega)
        | bk δ2 S2 => rfl
        | rt d S2 => rfl
        | exc x δ2 S2 => rfl
        | stuck => rfl
    | exc x S1 => rfl
    | stuck => rfl
theorem whileM_of {nc : MB} {b : MS} {δ : DEnv} {S : Store} (n : Nat) (h : whileN nc b n δ S ≠ .stuck) : whileM nc b δ S = whileN nc b n δ S := by
  have hx : ∃ n, whileN nc b n δ S ≠ .stuck := ⟨n, h⟩
  unfold whileM
  rw [dif_pos hx]
  have h2 := Classical.choose_spec hx
  rcases Nat.le_total n (Classical.choose hx) with l | l
  · exact whileN_more h _ l
  · exact (whileN_more h2 _ l).symm
theorem whileM_is {nc : MB} {b : MS} {δ : DEnv} {S : Store} {r : Flw} (n : Nat) (e : whileN nc b n δ S = r) (h : r ≠ .stuck) : whileM nc b δ S = r := by
  rw [whileM_of n (by rw [e]; exact h), e]
theorem ps_dwhile (hp : PassesOwn (model X.prog X.w) X.A X.env X.xe) (hc : PT X c (tT W nc)) (hb : PSs X sb (tS W m1)) : PS X (.While c sb [] pos) (tS W (whileM nc m1)) := PS.weak (ps_while hp hc hb) fun G σ H h => by
  obtain ⟨δ, S, ρ, I, h⟩ := h
  unfold whileM at h
  split at h
  · rename_i hx
    generalize Classical.choose hx = n at h
    refine ⟨fun m σ' H' => ∃ δ' S' ρ', StE σ' H' δ' S' ρ' ∧ RunF W G H' ρ' (whileN nc m1 m δ' S'), ⟨n, δ, S, ρ, I, h⟩, ?_⟩
    rintro m σ' H' ⟨δ', S', ρ', I', h'⟩
    cases m with
    | zero => exact False.elim h'
    | succ m =>
      unfold whileN at h'
      refine bindGF I' h' fun b b' S1 H1 ρ1 n1 I1 r1 h1 => ?_
      cases r1
      cases b with
      | false =>
        rw [if_neg Bool.false_ne_true] at h1 ⊢
        exact h1 σ' H1 ρ1 (Nx.refl _ _) I1
      | true =>
        rw [if_pos rfl] at h1 ⊢
        refine ⟨fun σ2 H2 => ∃ δ2 S2 ρ2, StE σ2 H2 δ2 S2 ρ2 ∧ RunF W G H2 ρ2 (whileN nc m1 m δ2 S2), fun σ2 H2 q => ⟨m, Nat.lt_succ_self m, q⟩, δ', S1, ρ1, I1, ?_⟩
        cases e : m1 δ' S1 with
        | nx δ2 S2 => rw [e] at h1; exact fun σ2 H2 ρ2 n2 st => ⟨δ2, S2, ρ2, st, h1.mono n2⟩
        | ct δ2 S2 => rw [e] at h1; exact fun σ2 H2 ρ2 n2 st => ⟨δ2, S2, ρ2, st, h1.mono n2⟩
        | bk δ2 S2 => rw [e] at h1; exact h1
        | rt d S2 => rw [e] at h1; exact h1
        | exc x δ2 S2 => rw [e] at h1; exact h1
        | stuck => rw [e] at h1; exact h1
  · exact False.elim h
end
end SL

/-! SL: for, list comprehensions; letting go of the newest of the store. -/
namespace SL
open PySem PySem.Spec L2
open PyProof.Rows hiding St
/-! ### no place of the store beyond n -/
mutual
def okD (n : Nat) : D → Bool
  | .loc m => decide (m < n)
  | .tup ds => okL n ds
  | .lst ds => okL n ds
  | .dct _ ds => okL n ds
  | .obj _ _ ds => okL n ds
  | .exn _ _ _ ds => okL n ds
  | _ => true
def okL (n : Nat) : List D → Bool
  | [] => true
  | d :: ds => okD n d && okL n ds
end
def okC (n : Nat) : Cell → Bool
  | .lst ds => okL n ds
  | .dct _ ds => okL n ds
  | .obj _ _ ds => okL n ds
section
variable {H H' H1 : Hp} {ρ ρ' t : List Addr} {S S' : Store}
mutual
theorem Rep.ok : ∀ (d : D) (v : V), Rep H ρ d v → okD ρ.length d = true
  | .non, _, _ => rfl
  | .bl _, _, _ => rfl
  | .int _, _, _ => rfl
  | .str _, _, _ => rfl
  | .raw _, _, _ => rfl
  | .loc m, v, h => by
    obtain ⟨a, e, _⟩ := h
    simp only [okD]
    exact decide_eq_true (List.getElem?_eq_some_iff.mp e).1
  | .tup ds, v, h => by
    obtain ⟨a, vs, _, _, _, h2⟩ := h
    simp only [okD]
    exact Reps.ok ds vs h2
  | .lst ds, v, h => by
    obtain ⟨a, vs, _, _, _, h2⟩ := h
    simp only [okD]
    exact Reps.ok ds vs h2
  | .dct ks ds, v, h => by
    obtain ⟨a, vs, _, _, _, _, h2⟩ := h
    simp only [okD]
    exact Reps.ok ds vs h2
  | .obj C ns ds, v, h => by
    obtain ⟨a, dx, vs, _, _, _, _, h2⟩ := h
    simp only [okD]
    exact Reps.ok ds vs h2
  | .exn a dd ns ds, v, h => by
    obtain ⟨vs, _, _, _, _, h2⟩ := h
    simp only [okD]
    exact Reps.ok ds vs h2
theorem Reps.ok : ∀ (ds : List D) (vs : List V), Reps H ρ ds vs → okL ρ.length ds = true
  | [], _, _ => rfl
  | d :: ds, vs, h => by
    obtain ⟨v, us, _, h1, h2⟩ := h
    simp only [okL, Bool.and_eq_true]
    exact ⟨Rep.ok d v h1, Reps.ok ds us h2⟩
end
mutual
theorem Rep.cut : ∀ (d : D) (v : V), Rep H (ρ ++ t) d v → okD ρ.length d = true → Rep H ρ d v
  | .non, _, h, _ => h
  | .bl _, _, h, _ => h
  | .int _, _, h, _ => h
  | .str _, _, h, _ => h
  | .raw _, _, h, _ => h
  | .loc m, v, h, k => by
    obtain ⟨a, e, h2⟩ := h
    simp only [okD] at k
    rw [List.getElem?_append_left (of_decide_eq_true k)] at e
    exact ⟨a, e, h2⟩
  | .tup ds, v, h, k => by
    obtain ⟨a, vs, h0, h1, na, h2⟩ := h
    simp only [okD] at k
    exact ⟨a, vs, h0, h1, fun z => na (List.mem_append_left _ z), Reps.cut ds vs h2 k⟩
  | .lst ds, v, h, k => by
    obtain ⟨a, vs, h0, h1, na, h2⟩ := h
    simp only [okD] at k
    exact ⟨a, vs, h0, h1, fun z => na (List.mem_append_left _ z), Reps.cut ds vs h2 k⟩
  | .dct ks ds, v, h, k => by
    obtain ⟨a, vs, h0, h1, na, l, h2⟩ := h
    simp only [okD] at k
    exact ⟨a, vs, h0, h1, fun z => na (List.mem_append_left _ z), l, Reps.cut ds vs h2 k⟩
  | .obj C ns ds, v, h, k => by
    obtain ⟨a, dx, vs, h0, h1, na, l, h2⟩ := h
    simp only [okD] at k
    exact ⟨a, dx, vs, h0, h1, fun z => na (List.mem_append_left _ z), l, Reps.cut ds vs h2 k⟩
  | .exn a dd ns ds, v, h, k => by
    obtain ⟨vs, h0, h1, na, l, h2⟩ := h
    simp only [okD] at k
    exact ⟨vs, h0, h1, fun z => na (List.mem_append_left _ z), l, Reps.cut ds vs h2 k⟩
theorem Reps.cut : ∀ (ds : List D) (vs : List V), Reps H (ρ ++ t) ds vs → okL ρ.length ds = true → Reps H ρ ds vs
  | [], _, h, _ => h
  | d :: ds, vs, h, k => by
    obtain ⟨v, us, h0, h1, h2⟩ := h
    simp only [okL, Bool.and_eq_true] at k
    exact ⟨v, us, h0, Rep.cut d v h1 k.1, Reps.cut ds us h2 k.2⟩
end
theorem RepC.ok {a : Addr} {c : Cell} (h : RepC H ρ a c) : okC ρ.length c = true := by
  cases c with
  | lst ds => obtain ⟨vs, _, h2⟩ := h; exact Reps.ok _ _ h2
  | dct ks ds => obtain ⟨vs, _, _, h2⟩ := h; exact Reps.ok _ _ h2
  | obj C ns ds => obtain ⟨dx, vs, _, _, h2⟩ := h; exact Reps.ok _ _ h2
theorem RepC.cut {a : Addr} {c : Cell} (h : RepC H (ρ ++ t) a c) (k : okC ρ.length c = true) : RepC H ρ a c := by
  cases c with
  | lst ds => obtain ⟨vs, h1, h2⟩ := h; exact ⟨vs, h1, Reps.cut _ _ h2 k⟩
  | dct ks ds => obtain ⟨vs, h1, l, h2⟩ := h; exact ⟨vs, h1, l, Reps.cut _ _ h2 k⟩
  | obj C ns ds => obtain ⟨dx, vs, h1, l, h2⟩ := h; exact ⟨dx, vs, h1, l, Reps.cut _ _ h2 k⟩
theorem StS.cellOk (st : StS H S ρ) {i : Nat} {c : Cell} (e : S[i]? = some c) : okC S.length c = true := by
  have hi : i < ρ.length := by rw [st.len]; exact (List.getElem?_eq_some_iff.mp e).1
  have := (st.cells i _ c (List.getElem?_eq_getElem hi) e).ok
  rw [st.len] at this
  exact this
/-- the elder part can stand alone -/
def Settles (S S' : Store) : Prop := ∀ i c, i < S.length → S'[i]? = some c → S[i]? = some c ∨ okC S.length c = true
theorem Settles.same : Settles S S := fun i c _ e => .inl e
theorem Settles.app {g : Store} : Settles S (S ++ g) := fun i c hi e => .inl (by rwa [List.getElem?_append_left hi] at e)
theorem StS.settle (st0 : StS H S ρ) (st : StS H' S' (ρ ++ t)) (hs : Settles S S') : StS H' (S'.take S.length) ρ := by
  have hl : S.length ≤ S'.length := by rw [← st.len, ← st0.len]; simp
  refine ⟨by rw [List.length_take, Nat.min_eq_left hl, st0.len], (List.nodup_append.mp st.nd).1, fun n a c e1 e2 => ?_⟩
  have hn : n < ρ.length := (List.getElem?_eq_some_iff.mp e1).1
  have hn' : n < S.length := by rw [← st0.len]; exact hn
  rw [List.getElem?_take_of_lt hn'] at e2
  have e1' : (ρ ++ t)[n]? = some a := by rw [List.getElem?_append_left hn]; exact e1
  refine (st.cells n a c e1' e2).cut ?_
  rw [st0.len]
  rcases hs n c hn' e2 with h | h
  · exact st0.cellOk h
  · exact h
theorem Nx.settle (n : Nx H ρ H' ρ') : Nx H ρ H' ρ := ⟨⟨[], by simp⟩, fun a h k => absurd h k, n.thr, n.stay, n.tbl⟩
end
/-! ### what is walked -/
inductive Src where
  | vals (d : D) | rng (lo c : Int) (n : Nat)
def signs (l : List Nat) : List D := l.map fun c => .str [c]
def iterD (S : Store) (d : D) : Option (List D) := match d with
  | .str l => some (signs l)
  | d => asQ S d
def items (S : Store) : Src → Option (List D)
  | .vals d => iterD S d
  | .rng lo c n => some ((List.range n).map fun (i : Nat) => .int (lo + (i : Int) * c))
def ItR (H : Hp) (ρ : List Addr) (src : Src) (J : It) : Prop := ∀ (i : Nat) (H' : Hp) (ρ' : List Addr) (S : Store) (ds : List D), Nx H ρ H' ρ' → StS H' S ρ' → items S src = some ds →
  (∀ d, ds[i]? = some d → J.go i H' ∧ ∀ x H2, J.yld i H' x H2 → Nx H' ρ' H2 ρ' ∧ StS H2 S ρ' ∧ Rep H2 ρ' d x) ∧ (ds[i]? = none → J.stop i H')
section
variable {X : Cx} {W : WX} {e tg a b c : Expr} {ma mb mc : ME} {pos p : Pos}
def srcV (ma : ME) : DEnv → Store → Res Src := fun δ S => (ma δ S).bind fun d S1 => match iterD S1 d with
  | some _ => .ok (.vals d) S1
  | none => .stuck
theorem PI.weak {iter : Expr} {t t' : TI} (h : PI X tg iter t) (hw : ∀ σ H R, t' σ H R → t σ H R) : PI X tg iter t' := ⟨fun pins s σ H R I q => h.run pins s σ H R I (hw _ _ _ q)⟩
theorem PI.or {iter : Expr} {t t' : TI} (h : PI X tg iter t) (h' : PI X tg iter t') : PI X tg iter (fun σ H R => t σ H R ∨ t' σ H R) := ⟨fun pins s σ H R I q => q.elim (h.run pins s σ H R I) (h'.run pins s σ H R I)⟩
theorem itr_str {H : Hp} {ρ : List Addr} {l : List Nat} : ItR H ρ (.vals (.str l)) (Its (sOf l)) := fun i H' ρ' S ds n st e => by
  cases e
  constructor
  · intro d hd
    simp only [signs, List.getElem?_map] at hd
    cases hc : l[i]? with
    | none => rw [hc] at hd; cases hd
    | some c =>
      rw [hc] at hd
      cases hd
      have hi : i < l.length := (List.getElem?_eq_some_iff.mp hc).1
      refine ⟨by show i < (l.toArray).size; simpa using hi, ?_⟩
      rintro x H2 ⟨rfl, c', e1, rfl⟩
      have : some c' = some c := by rw [← e1, ← hc]; show (l.toArray)[i]? = _; simp
      cases this
      exact ⟨Nx.refl _ _, st, rfl⟩
  · intro hd
    simp only [signs, List.getElem?_map, Option.map_eq_none_iff] at hd
    have := List.getElem?_eq_none_iff.mp hd
    show (l.toArray).size ≤ i
    simpa using this
theorem itr_lst {K : PySem.W.Frag} {H : Hp} {ρ : List Addr} {d : D} {a : Addr} (r : Rep H ρ d (.ref a)) (hl : ∀ S ds, asQ S d = some ds → asL S d = some ds) (hi : ∀ S ds, iterD S d = some ds → asL S d = some ds) : ItR H ρ (.vals d) (Itl K a) := fun i H' ρ' S ds n st e => by
  have ed := hi S ds e
  obtain ⟨a', vs, ea, h1, r1⟩ := asL_rep st (Rep.mono n _ _ r) ed
  cases ea
  have hs : SqL K H' a vs := .inl (.inl h1)
  constructor
  · intro d' hd
    obtain ⟨v, hv, rv⟩ := Reps.getD r1 hd
    refine ⟨⟨vs, v, hs, hv⟩, ?_⟩
    rintro x H2 ⟨rfl, f⟩
    have := (f vs hs).symm.trans hv
    cases this
    exact ⟨Nx.refl _ _, st, rv⟩
  · intro hd
    refine ⟨vs, hs, ?_⟩
    rw [← r1.len]
    exact List.getElem?_eq_none_iff.mp hd
theorem itr_tup {K : PySem.W.Frag} {H : Hp} {ρ : List Addr} {es : List D} {a : Addr} (r : Rep H ρ (.tup es) (.ref a)) : ItR H ρ (.vals (.tup es)) (Itt K a) := fun i H' ρ' S ds n st e => by
  have ed : asT (.tup es) = some ds := e
  obtain ⟨a', vs, ea, h1, r1⟩ := asT_rep (Rep.mono n _ _ r) ed
  cases ea
  have hs : SqT K H' a vs := .inl (.inl h1)
  constructor
  · intro d' hd
    obtain ⟨v, hv, rv⟩ := Reps.getD r1 hd
    refine ⟨⟨vs, v, hs, hv⟩, ?_⟩
    rintro x H2 ⟨rfl, f⟩
    have := (f vs hs).symm.trans hv
    cases this
    exact ⟨Nx.refl _ _, st, rv⟩
  · intro hd
    refine ⟨vs, hs, ?_⟩
    rw [← r1.len]
    exact List.getElem?_eq_none_iff.mp hd
/-- over a list, a tuple, a text -/
theorem pi_dvals (he : PE X e (tE W ma)) : PI X tg e (tG W ItR (srcV ma)) := PI.weak (PI.or (pi_str he) (PI.or (pi_list he) (pi_tup he))) fun σ H R h => by
  obtain ⟨δ, S, ρ, I, h⟩ := h
  unfold srcV at h
  have key : ∀ P : It → Hp → Prop, (∀ d S1, (ma δ S) = .ok d S1 → ∀ v H1 ρ1, Nx H ρ H1 ρ1 → StS H1 S1 ρ1 → Rep H1 ρ1 d v → True) → True := fun _ _ => trivial
  cases em : ma δ S with
  | stuck => rw [em] at h; exact False.elim h
  | exc x S1 =>
    rw [em] at h
    exact .inl ⟨δ, S, ρ, I, by rw [em]; exact h⟩
  | ok d S1 =>
    rw [em] at h
    simp only [bind_ok] at h
    split at h
    · rename_i ds0 e0
      cases d with
      | str l =>
        refine .inl ⟨δ, S, ρ, I, ?_⟩
        rw [em]
        intro v H1 ρ1 n st r
        cases r
        exact ⟨sOf l, rfl, h _ H1 ρ1 n st itr_str⟩
      | tup es =>
        refine .inr (.inr ⟨δ, S, ρ, I, ?_⟩)
        rw [em]
        intro v H1 ρ1 n st r
        obtain ⟨a, vs, rfl, h1, n1, r1⟩ := id r
        exact ⟨a, rfl, ⟨vs, .inl (.inl h1)⟩, h _ H1 ρ1 n st (itr_tup r)⟩
      | lst es =>
        refine .inr (.inl ⟨δ, S, ρ, I, ?_⟩)
        rw [em]
        intro v H1 ρ1 n st r
        obtain ⟨a, vs, rfl, h1, n1, r1⟩ := id r
        exact ⟨a, rfl, ⟨vs, .inl (.inl h1)⟩, h _ H1 ρ1 n st (itr_lst r (fun _ _ z => z) (fun _ _ z => z))⟩
      | loc m =>
        refine .inr (.inl ⟨δ, S, ρ, I, ?_⟩)
        rw [em]
        intro v H1 ρ1 n st r
        have hq : ∀ S ds, asQ S (.loc m) = some ds → asL S (.loc m) = some ds := fun S ds z => by
          unfold asQ at z
          split at z
          · rename_i e; cases z; exact e
          · cases z
        have e0' := hq S1 ds0 e0
        obtain ⟨a, vs, rfl, h1, r1⟩ := asL_rep st r e0'
        exact ⟨a, rfl, ⟨vs, .inl (.inl h1)⟩, h _ H1 ρ1 n st (itr_lst r hq hq)⟩
      | _ => cases e0
    · exact False.elim h
theorem itr_rng {H : Hp} {ρ : List Addr} {lo c : Int} {n : Nat} : ItR H ρ (.rng lo c n) (Itc lo c n) := fun i H' ρ' S ds nx st e => by
  cases e
  constructor
  · intro d hd
    rw [List.getElem?_map] at hd
    by_cases hi : i < n
    · rw [List.getElem?_range hi] at hd
      cases hd
      refine ⟨hi, ?_⟩
      rintro x H2 ⟨rfl, rfl⟩
      exact ⟨Nx.refl _ _, st, rfl⟩
    · rw [List.getElem?_eq_none (by simpa using hi)] at hd
      cases hd
  · intro hd
    have := List.getElem?_eq_none_iff.mp hd
    show n ≤ i
    simpa using this
def rngS (lo c : Int) (n : Nat) : Src := .rng lo c n
def src1 (ma : ME) : DEnv → Store → Res Src := fun δ S => (ma δ S).bind fun d S1 => match d with
  | .int j => if j.natAbs ≤ 1000000000 then .ok (.rng 0 1 j.toNat) S1 else .stuck
  | _ => .stuck
def src2 (ma mb : ME) : DEnv → Store → Res Src := fun δ S => (ma δ S).bind fun d S1 => (mb δ S1).bind fun e S2 => match d, e with
  | .int i, .int j => if i.natAbs ≤ 1000000000 ∧ j.natAbs ≤ 1000000000 then .ok (.rng i 1 (j - i).toNat) S2 else .stuck
  | _, _ => .stuck
theorem itr_rng1 {H : Hp} {ρ : List Addr} {lo : Int} {n : Nat} : ItR H ρ (.rng lo 1 n) (Itr lo n) := fun i H' ρ' S ds nx st e => by
  obtain ⟨h1, h2⟩ := itr_rng (H := H) (ρ := ρ) (lo := lo) (c := 1) (n := n) i H' ρ' S ds nx st e
  refine ⟨fun d hd => ?_, h2⟩
  obtain ⟨g, y⟩ := h1 d hd
  refine ⟨g, ?_⟩
  rintro x H2 ⟨rfl, rfl⟩
  exact y _ _ ⟨rfl, by rw [Int.mul_one]⟩
theorem pi_drange1 (hm : X.mg "range" = none) (ha : PE X a (tE W ma)) (hg : Gl X "range" := by rfl) (hs : starEach [a] X.env = [(false, eval a X.env)] := by rfl) (hs' : starEach (a :: []) X.env = (false, eval a X.env) :: starEach [] X.env := by rfl) : PI X tg (.Call (.Name "range" p) [a] [] pos) (tG W ItR (src1 ma)) :=
  PI.weak (pi_range1 hg hm (pd_cons ha pd_nil hs') hs) fun σ H R h => by
    obtain ⟨δ, S, ρ, I, h⟩ := h
    refine ⟨δ, S, ρ, I, ?_⟩
    unfold src1 at h
    unfold consM nilM
    cases em : ma δ S with
    | stuck => rw [em] at h; exact False.elim h
    | exc x S1 => rw [em] at h; exact h
    | ok d S1 =>
      rw [em] at h
      simp only [bind_ok] at h ⊢
      intro vs H1 ρ1 n st r
      obtain ⟨v, us, rfl, rv, ru⟩ := r
      cases ru
      split at h
      · rename_i j
        split at h
        · rename_i hj
          cases rv
          exact ⟨j, rfl, by omega, by omega, h _ H1 ρ1 n st itr_rng1⟩
        · exact False.elim h
      · exact False.elim h
theorem pi_drange2 (hm : X.mg "range" = none) (ha : PE X a (tE W ma)) (hb : PE X b (tE W mb)) (hg : Gl X "range" := by rfl) (hs : starEach [a, b] X.env = [(false, eval a X.env), (false, eval b X.env)] := by rfl) (hs2 : starEach [b] X.env = [(false, eval b X.env)] := by rfl)
    (hs' : starEach (a :: [b]) X.env = (false, eval a X.env) :: starEach [b] X.env := by rfl) (hs2' : starEach (b :: []) X.env = (false, eval b X.env) :: starEach [] X.env := by rfl) : PI X tg (.Call (.Name "range" p) [a, b] [] pos) (tG W ItR (src2 ma mb)) :=
  PI.weak (pi_range2 hg hm (pd_cons ha (pd_cons hb pd_nil hs2') hs') hs hs2) fun σ H R h => by
    obtain ⟨δ, S, ρ, I, h⟩ := h
    refine ⟨δ, S, ρ, I, ?_⟩
    unfold src2 at h
    unfold consM nilM
    cases em : ma δ S with
    | stuck => rw [em] at h; exact False.elim h
    | exc x S1 => rw [em] at h; exact h
    | ok d S1 =>
      rw [em] at h
      simp only [bind_ok] at h ⊢
      cases em2 : mb δ S1 with
      | stuck => rw [em2] at h; exact False.elim h
      | exc x S2 => rw [em2] at h; exact h
      | ok e S2 =>
        rw [em2] at h
        simp only [bind_ok] at h ⊢
        intro vs H1 ρ1 n st r
        obtain ⟨v, us, rfl, rv, ru⟩ := r
        obtain ⟨u, ws, rfl, r2, rw'⟩ := ru
        cases rw'
        split at h
        · rename_i i j
          split at h
          · rename_i hj
            cases rv
            cases r2
            exact ⟨i, j, rfl, ⟨by omega, by omega, by omega, by omega⟩, h _ H1 ρ1 n st itr_rng1⟩
          · exact False.elim h
        · exact False.elim h
/-! ### for -/
open Classical in
noncomputable def forL (src : Src) (tg : Tg) (b : MS) (ds : List D) : List D → MS
  | [], δ, S => if items S src = some ds then .nx δ S else .stuck
  | d :: r, δ, S => if items S src = some ds then (match bindT tg d δ with
      | some δ1 => match b δ1 S with
        | .nx δ2 S2 => forL src tg b ds r δ2 S2
        | .ct δ2 S2 => forL src tg b ds r δ2 S2
        | .bk δ2 S2 => .nx δ2 S2
        | o => o
      | none => .stuck) else .stuck
noncomputable def forM (mi : DEnv → Store → Res Src) (tg : Tg) (b : MS) : MS := fun δ S => bindS (mi δ S) δ fun src S1 => match items S1 src with
  | some ds => forL src tg b ds ds δ S1
  | none => .stuck
theorem ps_dfor {iter tge : Expr} {body : List Stmt} {mi : DEnv → Store → Res Src} {t : Tg} {m : MS} (hp : PassesOwn (model X.prog X.w) X.A X.env X.xe) (hc : X.calm = true) (hi : PI X tge iter (tG W ItR mi)) (hg : PG X tge (gD t)) (hb : PSs X body (tS W m))
    (hs : ∀ x, foldedSetIterable iter X.env x = pure x := by intro _; rfl) : PS X (.For tge iter body [] pos) (tS W (forM mi t m)) := PS.weak (ps_for hp hc hi hg hb hs) fun G σ H h => by
  obtain ⟨δ, S, ρ, I, h⟩ := h
  refine bindGF I h fun src J S1 H1 ρ1 n1 I1 r1 h1 => ?_
  split at h1
  · rename_i ds eds
    refine ⟨fun i k σ' H' => ∃ δ' S' ρ', StE σ' H' δ' S' ρ' ∧ Nx H1 ρ1 H' ρ' ∧ k = ds.length - i ∧ RunF W G H' ρ' (forL src t m ds (ds.drop i) δ' S'), ⟨_, δ, S1, ρ1, I1, Nx.refl _ _, rfl, by simpa using h1⟩, ?_⟩
    rintro i k σ' H' ⟨δ', S', ρ', I', n', rfl, h'⟩
    cases ed : ds[i]? with
    | none =>
      have hd : ds.drop i = [] := List.drop_eq_nil_of_le (List.getElem?_eq_none_iff.mp ed)
      rw [hd] at h'
      unfold forL at h'
      split at h'
      · rename_i ei
        obtain ⟨_, f⟩ := r1 i H' ρ' S' ds n' I'.st ei
        exact .inl ⟨f ed, h' σ' H' ρ' (Nx.refl _ _) I'⟩
      · exact False.elim h'
    | some d =>
      have hil := (List.getElem?_eq_some_iff.mp ed).1
      have hd : ds.drop i = d :: ds.drop (i + 1) := by
        rw [List.drop_eq_getElem_cons hil, (List.getElem?_eq_some_iff.mp ed).2]
      rw [hd] at h'
      unfold forL at h'
      split at h'
      · rename_i ei
        obtain ⟨f, _⟩ := r1 i H' ρ' S' ds n' I'.st ei
        obtain ⟨go, y⟩ := f d ed
        refine .inr ⟨go, fun σ2 H2 => ∃ δ2 S2 ρ2, StE σ2 H2 δ2 S2 ρ2 ∧ Nx H1 ρ1 H2 ρ2 ∧ RunF W G H2 ρ2 (forL src t m ds (ds.drop (i + 1)) δ2 S2), fun σ2 H2 ⟨δ2, S2, ρ2, q1, q2, q3⟩ => ⟨_, Nat.sub_lt_sub_left hil (Nat.lt_succ_self i), δ2, S2, ρ2, q1, q2, rfl, q3⟩, ?_⟩
        intro x H2 hy
        obtain ⟨n2, st2, rx⟩ := y x H2 hy
        split at h'
        · rename_i δ1 eb
          refine ⟨d, δ', S', ρ', δ1, ⟨st2, I'.env.mono n2⟩, rx, eb, fun σ3 I3 _ => ⟨δ1, S', ρ', I3, ?_⟩⟩
          have h2 := RunF.mono n2 h'
          cases em : m δ1 S' with
          | nx δ2 S2 => rw [em] at h2; exact fun σ4 H4 ρ4 n4 st4 => ⟨δ2, S2, ρ4, st4, (n'.trans n2).trans n4, h2.mono n4⟩
          | ct δ2 S2 => rw [em] at h2; exact fun σ4 H4 ρ4 n4 st4 => ⟨δ2, S2, ρ4, st4, (n'.trans n2).trans n4, h2.mono n4⟩
          | bk δ2 S2 => rw [em] at h2; exact h2
          | rt d S2 => rw [em] at h2; exact h2
          | exc x δ2 S2 => rw [em] at h2; exact h2
          | stuck => rw [em] at h2; exact h2
        · exact False.elim h'
      · exact False.elim h'
  · exact False.elim h1
end
end SL

/-! SL: list comprehensions of one clause. -/
namespace SL
open PySem PySem.Spec L2
open PyProof.Rows hiding St
abbrev W0 : WX := fun _ _ _ _ => False
def wipeD (δ : DEnv) : List Nat → DEnv
  | [] => δ
  | v :: vs => (wipeD δ vs).set v none
section
variable {H H' : Hp} {ρ : List Addr} {δ : DEnv} {σ : St} {S : Store}
theorem EnvS.wipe (h : EnvS H ρ δ σ) : ∀ vs : List Nat, EnvS H ρ (wipeD δ vs) (wipe σ vs)
  | [] => h
  | v :: vs => EnvS.unset v (EnvS.wipe h vs)
theorem wipe_get : ∀ {vs : List Nat} {σ : St} {j : Nat}, (wipe σ vs)[j]? = if j ∈ vs then (if j < σ.length then some none else none) else σ[j]?
  | [], σ, j => by simp [wipe]
  | v :: vs, σ, j => by
    unfold wipe
    by_cases hv : v = j
    · subst hv
      by_cases hl : v < σ.length
      · rw [List.getElem?_set_self (by rw [wipe_length]; exact hl)]
        simp [hl]
      · rw [List.getElem?_eq_none (by rw [List.length_set, wipe_length]; omega)]
        simp [hl]
    · rw [List.getElem?_set_ne hv, wipe_get]
      by_cases hj : j ∈ vs
      · simp [hj]
      · have : ¬ j = v := fun z => hv z.symm
        simp [hj, this]
theorem wipe_off {vs l : List Nat} {σ σ2 : St} (o : Off l (wipe σ vs) σ2) (hl : ∀ j ∈ l, j ∈ vs) : wipe σ2 vs = wipe σ vs := by
  apply List.ext_getElem?
  intro j
  rw [wipe_get, wipe_get]
  have hlen : σ2.length = σ.length := by rw [o.1, wipe_length]
  by_cases hj : j ∈ vs
  · rw [if_pos hj, if_pos hj, hlen]
  · rw [if_neg hj, if_neg hj, o.2 j (fun z => hj (hl j z)), wipe_get, if_neg hj]
end
/-- the items' turns; the list so far stands in the store at n -/
noncomputable def appC (n : Nat) (S : Store) (x : D) : Option Store := match S[n]? with
  | some (.lst acc) => if acc.length < 1000000 then some (S.set n (.lst (acc ++ [x]))) else none
  | _ => none
open Classical in
noncomputable def compL (src : Src) (tg : Tg) (tst : MB) (el : ME) (n : Nat) (ds : List D) (δ : DEnv) : List D → Store → Option Store
  | [], S => if items S src = some ds then some S else none
  | d :: r, S => if items S src = some ds then (match bindT tg d δ with
      | some δ1 => match tst δ1 S with
        | .ok true S1 => match el δ1 S1 with
          | .ok x S2 => match appC n S2 x with
            | some S3 => compL src tg tst el n ds δ r S3
            | none => none
          | _ => none
        | .ok false S1 => compL src tg tst el n ds δ r S1
        | _ => none
      | none => none) else none
open Classical in
noncomputable def endC (S1 Sf : Store) : Res D := match Sf[S1.length]? with
  | some (.lst acc) => if Sf.length = S1.length + 1 ∧ okL S1.length acc = true ∧ Settles S1 Sf then .ok (.lst acc) (Sf.take S1.length) else .ok (.loc S1.length) Sf
  | _ => .stuck
noncomputable def compM (mi : DEnv → Store → Res Src) (tg : Tg) (tst : MB) (el : ME) (vs : List Nat) : ME := fun δ S => (mi δ S).bind fun src S1 => match items S1 src with
  | some ds => match compL src tg tst el S1.length ds (wipeD δ vs) ds (S1 ++ [.lst []]) with
    | some Sf => endC S1 Sf
    | none => .stuck
  | none => .stuck
/-- kept as an object of the store -/
noncomputable def compLM (mi : DEnv → Store → Res Src) (tg : Tg) (tst : MB) (el : ME) (vs : List Nat) : ME := fun δ S => (mi δ S).bind fun src S1 => match items S1 src with
  | some ds => match compL src tg tst el S1.length ds (wipeD δ vs) ds (S1 ++ [.lst []]) with
    | some Sf => .ok (.loc S1.length) Sf
    | none => .stuck
  | none => .stuck
def yesB : MB := fun _ S => .ok true S
section
variable {X : Cx} {W : WX}
abbrev tTs (W : WX) (m : MB) : TT := tT W m
theorem PTs.weak {ifs : List Expr} {t t' : TT} (h : PTs X ifs t) (hw : ∀ σ H Q, t' σ H Q → t σ H Q) : PTs X ifs t' := ⟨fun pins s σ H Q I q => h.run pins s σ H Q I (hw _ _ _ q)⟩
theorem pts_dnil : PTs X [] (tT W yesB) := PTs.weak pts_nil fun σ H Q h => by
  obtain ⟨δ, S, ρ, I, h⟩ := h
  exact RunG.ok h I.st rfl
theorem pts_done {c : Expr} {m : MB} (h : PT X c (tT W m)) : PTs X [c] (tT W m) := pts_one h
/-- the reading of a comprehension, from what its end wants -/
theorem tLc_of {mi : DEnv → Store → Res Src} {tg : Tg} {tst : MB} {el : ME} {vs : List Nat} (hv : ∀ j ∈ tg.sl, j ∈ vs) {σ : St} {H1 : Hp} {δ : DEnv} {S1 Sf : Store} {ρ1 : List Addr} {src : Src} {J : It} {ds : List D} {Q : VK}
    (I1 : StE σ H1 δ S1 ρ1) (r1 : ItR H1 ρ1 src J) (hc : compL src tg tst el S1.length ds (wipeD δ vs) ds (S1 ++ [.lst []]) = some Sf) {p : Addr} (hp : H1 p = none)
    (hq : ∀ H' ρ', Nx H1 (ρ1 ++ [p]) H' ρ' → StS H' Sf ρ' → Q (.ref p) H') :
    ∃ WW : Nat → Nat → Hp → Prop, (∃ m, WW 0 m (upd H1 p (.lst []))) ∧ ∀ i m H, WW i m H →
  (J.stop i H ∧ Q (.ref p) H) ∨ (J.go i H ∧ ∃ Nt : Hp → Prop, (∀ H', Nt H' → ∃ m', m' < m ∧ WW (i + 1) m' H') ∧ ∀ x H', J.yld i H x H' → gD tg x (wipe σ vs) H' fun σ2 H2 => wipe σ2 vs = wipe σ vs ∧ tT W0 tst σ2 H2 fun b H3 =>
    if b = true then tE W0 el σ2 H3 fun y H4 => ∃ acc, H4 p = some (.lst acc) ∧ acc.length < sizeLine ∧ Nt (upd H4 p (.lst (acc ++ [y]))) else Nt H3) := by
  have n0 : Nx H1 ρ1 (upd H1 p (.lst [])) (ρ1 ++ [p]) := Nx.push hp
  have st0 : StS (upd H1 p (.lst [])) (S1 ++ [.lst []]) (ρ1 ++ [p]) := I1.st.push hp ⟨[], upd_same, Reps.nil⟩
  have env0 := (EnvS.wipe I1.env vs).mono n0
  refine ⟨fun i m H => ∃ S ρ, StS H S ρ ∧ Nx (upd H1 p (.lst [])) (ρ1 ++ [p]) H ρ ∧ Nx H1 (ρ1 ++ [p]) H ρ ∧ m = ds.length - i ∧ compL src tg tst el S1.length ds (wipeD δ vs) (ds.drop i) S = some Sf, ⟨_, _, _, st0, Nx.refl _ _, ?_, rfl, by simpa using hc⟩, ?_⟩
  · refine ⟨⟨[], by simp⟩, fun a h k => absurd h k, n0.thr, fun a o h k t => ?_, fun a ps h k => ?_⟩
    · exact n0.stay a o h (fun z => k (List.mem_append_left _ z)) t
    · exact n0.tbl a ps h (fun z => k (List.mem_append_left _ z))
  rintro i m H ⟨S, ρ, st, nx, nx', rfl, hl⟩
  have hpρ : ρ[S1.length]? = some p := by
    have : (ρ1 ++ [p])[S1.length]? = some p := by rw [← I1.st.len]; simp
    exact nx.at this
  cases ed : ds[i]? with
  | none =>
    have hd : ds.drop i = [] := List.drop_eq_nil_of_le (List.getElem?_eq_none_iff.mp ed)
    rw [hd] at hl
    unfold compL at hl
    split at hl
    · rename_i ei
      have eS : S = Sf := Option.some.inj hl
      subst eS
      obtain ⟨_, f⟩ := r1 i H ρ S ds (n0.trans nx) st ei
      exact .inl ⟨f ed, hq H ρ nx' st⟩
    · cases hl
  | some d =>
    have hil := (List.getElem?_eq_some_iff.mp ed).1
    have hd : ds.drop i = d :: ds.drop (i + 1) := by
      rw [List.drop_eq_getElem_cons hil, (List.getElem?_eq_some_iff.mp ed).2]
    rw [hd] at hl
    unfold compL at hl
    split at hl
    · rename_i ei
      obtain ⟨f, _⟩ := r1 i H ρ S ds (n0.trans nx) st ei
      obtain ⟨go, y⟩ := f d ed
      refine .inr ⟨go, fun H2 => ∃ S2 ρ2, StS H2 S2 ρ2 ∧ Nx (upd H1 p (.lst [])) (ρ1 ++ [p]) H2 ρ2 ∧ Nx H1 (ρ1 ++ [p]) H2 ρ2 ∧ compL src tg tst el S1.length ds (wipeD δ vs) (ds.drop (i + 1)) S2 = some Sf, fun H2 ⟨S2, ρ2, q1, q2, q2', q3⟩ => ⟨_, Nat.sub_lt_sub_left hil (Nat.lt_succ_self i), S2, ρ2, q1, q2, q2', rfl, q3⟩, ?_⟩
      intro x H2 hy
      obtain ⟨n2, st2, rx⟩ := y x H2 hy
      split at hl
      · rename_i δ1 eb
        refine ⟨d, wipeD δ vs, S, ρ, δ1, ⟨st2, env0.mono (nx.trans n2)⟩, rx, eb, fun σ3 I3 o3 => ⟨wipe_off o3 hv, δ1, S, ρ, I3, ?_⟩⟩
        split at hl
        · rename_i S4 et
          rw [et]
          intro b H4 ρ4 n4 st4 rb
          cases rb
          rw [if_pos rfl]
          refine ⟨δ1, S4, ρ4, I3.next n4 st4, ?_⟩
          split at hl
          · rename_i xd S5 ee
            rw [ee]
            intro v H5 ρ5 n5 st5 rv
            split at hl
            · rename_i S6 ea
              unfold appC at ea
              split at ea
              · rename_i acc e5
                split at ea
                · rename_i hacc
                  cases ea
                  have n25 := (n2.trans n4).trans n5
                  have hp5 : ρ5[S1.length]? = some p := n25.at hpρ
                  obtain ⟨ws, h5, rs⟩ := st5.cells S1.length p _ hp5 e5
                  have hm : p ∈ ρ5 := List.mem_of_getElem? hp5
                  have n6 : Nx H5 ρ5 (upd H5 p (.lst (ws ++ [v]))) ρ5 := Nx.set hm (by rw [h5]; simp)
                  refine ⟨ws, h5, by rw [← rs.len]; exact Nat.lt_of_lt_of_le hacc (by decide), _, ρ5, st5.set (c := .lst (acc ++ [xd])) hp5 ⟨ws ++ [v], upd_same, (Reps.mono n6 _ _ rs).append (Reps.one (Rep.mono n6 _ _ rv))⟩, (nx.trans n25).trans n6, (nx'.trans n25).trans n6, hl⟩
                · cases ea
              · cases ea
            · cases hl
          · cases hl
        · rename_i S4 et
          rw [et]
          intro b H4 ρ4 n4 st4 rb
          cases rb
          rw [if_neg Bool.false_ne_true]
          exact ⟨S4, ρ4, st4, (nx.trans n2).trans n4, (nx'.trans n2).trans n4, hl⟩
        · cases hl
      · cases hl
    · cases hl
variable {elt tge iter : Expr} {ifs : List Expr} {scope : Scope} {own : List (Str × Nat)} {pos spos : Pos} {mi : DEnv → Store → Res Src} {tg : Tg} {tst : MB} {el : ME}
/-- the end's reading -/
theorem endC_run {σ : St} {H1 H' : Hp} {ρ1 ρ' : List Addr} {δ : DEnv} {S1 Sf : Store} {p : Addr} {Q : VK} (I1 : StE σ H1 δ S1 ρ1) (hp : H1 p = none) (h : RunG W Rep σ H1 ρ1 (endC S1 Sf) Q) (n : Nx H1 (ρ1 ++ [p]) H' ρ') (st : StS H' Sf ρ') : Q (.ref p) H' := by
  have hpρ : ρ'[S1.length]? = some p := n.at (by rw [← I1.st.len]; simp)
  have n1 : Nx H1 ρ1 H' ρ' := by
    obtain ⟨t, ht⟩ := n.pre
    refine ⟨⟨[p] ++ t, by rw [ht]; simp⟩, fun a ha na => ?_, n.thr, fun a o ho na t' => ?_, fun a ps ho na => ?_⟩
    · by_cases hap : a = p
      · rw [hap]; exact hp
      · exact n.new a ha (by simp [na, hap])
    · exact n.stay a o ho (by simp [na, ne_of_none ho hp]) t'
    · exact n.tbl a ps ho (by simp [na, ne_of_none ho hp])
  unfold endC at h
  split at h
  · rename_i acc ea
    split at h
    · rename_i hz
      obtain ⟨t, ht⟩ := n1.pre
      subst ht
      obtain ⟨ws, h5, rs⟩ := st.cells S1.length p _ hpρ ea
      have hpn : p ∉ ρ1 := fun z => I1.st.trk z hp
      have hok : okL ρ1.length acc = true := by rw [I1.st.len]; exact hz.2.1
      exact RunG.okN h n1.settle (I1.st.settle st hz.2.2) ⟨p, ws, rfl, h5, hpn, Reps.cut acc ws rs hok⟩
    · exact RunG.okN h n1 st ⟨p, hpρ, rfl⟩
  · exact False.elim h
theorem tE_comp {vs : List Nat} (hv : ∀ j ∈ tg.sl, j ∈ vs) (σ : St) (H : Hp) (Q : VK) (h : tE W (compM mi tg tst el vs) σ H Q) : tLc (tG W ItR mi) (gD tg) (tT W0 tst) (tE W0 el) vs σ H Q := by
  obtain ⟨δ, S, ρ, I, h⟩ := h
  refine bindG I h fun src J S1 H1 ρ1 n1 I1 r1 h1 => fun p hp => ?_
  split at h1
  · rename_i ds eds
    split at h1
    · rename_i Sf ec
      exact tLc_of (mi := mi) hv I1 r1 ec hp fun H' ρ' n st => endC_run (W := W) I1 hp h1 n st
    · exact False.elim h1
  · exact False.elim h1
theorem tE_compL {vs : List Nat} (hv : ∀ j ∈ tg.sl, j ∈ vs) (σ : St) (H : Hp) (Q : VK) (h : tE W (compLM mi tg tst el vs) σ H Q) : tLc (tG W ItR mi) (gD tg) (tT W0 tst) (tE W0 el) vs σ H Q := by
  obtain ⟨δ, S, ρ, I, h⟩ := h
  refine bindG I h fun src J S1 H1 ρ1 n1 I1 r1 h1 => fun p hp => ?_
  split at h1
  · rename_i ds eds
    split at h1
    · rename_i Sf ec
      refine tLc_of (mi := mi) hv I1 r1 ec hp fun H' ρ' n st => ?_
      have hpρ : ρ'[S1.length]? = some p := n.at (by rw [← I1.st.len]; simp)
      have n1 : Nx H1 ρ1 H' ρ' := by
        obtain ⟨t, ht⟩ := n.pre
        refine ⟨⟨[p] ++ t, by rw [ht]; simp⟩, fun a ha na => ?_, n.thr, fun a o ho na t' => ?_, fun a ps ho na => ?_⟩
        · by_cases hap : a = p
          · rw [hap]; exact hp
          · exact n.new a ha (by simp [na, hap])
        · exact n.stay a o ho (by simp [na, ne_of_none ho hp]) t'
        · exact n.tbl a ps ho (by simp [na, ne_of_none ho hp])
      exact RunG.okN h1 n1 st ⟨p, hpρ, rfl⟩
    · exact False.elim h1
  · exact False.elim h1
theorem pd_lc (own : List (Str × Nat)) (hc : X.calm = true) (hN : X.N.Nodup) (hi : PI X tge iter (tG W ItR mi)) (ok : BlkOk X.N X.env.scope scope own) (hv : ∀ j ∈ tg.sl, j ∈ own.map (·.2))
    (hg : ∀ (s : Shared) (H : Hp) (C : Addr) (cl : List (Str × Addr)) (fp : List Addr), PG (X.blk s H scope (compEnvC scope cl C X.env) fp) tge (gD tg)) (ht : ∀ (s : Shared) (H : Hp) (C : Addr) (cl : List (Str × Addr)) (fp : List Addr), PTs (X.blk s H scope (compEnvC scope cl C X.env) fp) ifs (tT W0 tst))
    (he : ∀ (s : Shared) (H : Hp) (C : Addr) (cl : List (Str × Addr)) (fp : List Addr), PE (X.blk s H scope (compEnvC scope cl C X.env) fp) elt (tE W0 el)) (hs : ∀ x, foldedSetIterable iter X.env x = pure x := by intro _; rfl) :
    PE X (.ListComp elt [⟨tge, iter, ifs, 0⟩] scope pos) (tE W (compM mi tg tst el (own.map (·.2)))) := PE.weak (pe_lc hc hN hi ok hg ht he hs) (tE_comp hv)
theorem ps_dsetLc (own : List (Str × Nat)) {i : Nat} {y : Str} {py : Pos} (hc : X.calm = true) (hN : X.N.Nodup) (hy : X.N[i]? = some y) (hyl : X.env.scope.names.lookup y = some .local)
    (hsw : swapsWith (.ListComp elt [⟨tge, iter, ifs, 0⟩] scope pos) (some (.Name y py)) spos.line X.env = pure true) (hi : PI X tge iter (tG W ItR mi)) (ok : BlkOk X.N X.env.scope scope own) (hv : ∀ j ∈ tg.sl, j ∈ own.map (·.2))
    (hg : ∀ (s : Shared) (H : Hp) (C : Addr) (cl : List (Str × Addr)) (fp : List Addr), PG (X.blk s H scope (compEnvC scope cl C X.env) fp) tge (gD tg)) (ht : ∀ (s : Shared) (H : Hp) (C : Addr) (cl : List (Str × Addr)) (fp : List Addr), PTs (X.blk s H scope (compEnvC scope cl C X.env) fp) ifs (tT W0 tst))
    (he : ∀ (s : Shared) (H : Hp) (C : Addr) (cl : List (Str × Addr)) (fp : List Addr), PE (X.blk s H scope (compEnvC scope cl C X.env) fp) elt (tE W0 el)) (hs : ∀ x, foldedSetIterable iter X.env x = pure x := by intro _; rfl) :
    PS X (.Assign [.Name y py] (.ListComp elt [⟨tge, iter, ifs, 0⟩] scope pos) spos) (tS W (asgM i (compM mi tg tst el (own.map (·.2))))) := PS.weak (ps_setLc hc hN hy hyl hsw hi ok hg ht he hs) fun G σ H h => by
  obtain ⟨δ, S, ρ, I, h⟩ := h
  refine tE_comp (W := W) hv σ H _ ?_
  refine bindGF I h fun d v S1 H1 ρ1 n1 I1 r1 h1 => ?_
  exact h1 _ H1 ρ1 (Nx.refl _ _) ⟨I1.st, I1.env.set i r1⟩
theorem ps_dsetLcL (own : List (Str × Nat)) {i : Nat} {y : Str} {py : Pos} (hc : X.calm = true) (hN : X.N.Nodup) (hy : X.N[i]? = some y) (hyl : X.env.scope.names.lookup y = some .local)
    (hsw : swapsWith (.ListComp elt [⟨tge, iter, ifs, 0⟩] scope pos) (some (.Name y py)) spos.line X.env = pure true) (hi : PI X tge iter (tG W ItR mi)) (ok : BlkOk X.N X.env.scope scope own) (hv : ∀ j ∈ tg.sl, j ∈ own.map (·.2))
    (hg : ∀ (s : Shared) (H : Hp) (C : Addr) (cl : List (Str × Addr)) (fp : List Addr), PG (X.blk s H scope (compEnvC scope cl C X.env) fp) tge (gD tg)) (ht : ∀ (s : Shared) (H : Hp) (C : Addr) (cl : List (Str × Addr)) (fp : List Addr), PTs (X.blk s H scope (compEnvC scope cl C X.env) fp) ifs (tT W0 tst))
    (he : ∀ (s : Shared) (H : Hp) (C : Addr) (cl : List (Str × Addr)) (fp : List Addr), PE (X.blk s H scope (compEnvC scope cl C X.env) fp) elt (tE W0 el)) (hs : ∀ x, foldedSetIterable iter X.env x = pure x := by intro _; rfl) :
    PS X (.Assign [.Name y py] (.ListComp elt [⟨tge, iter, ifs, 0⟩] scope pos) spos) (tS W (asgM i (compLM mi tg tst el (own.map (·.2))))) := PS.weak (ps_setLc hc hN hy hyl hsw hi ok hg ht he hs) fun G σ H h => by
  obtain ⟨δ, S, ρ, I, h⟩ := h
  refine tE_compL (W := W) hv σ H _ ?_
  refine bindGF I h fun d v S1 H1 ρ1 n1 I1 r1 h1 => ?_
  exact h1 _ H1 ρ1 (Nx.refl _ _) ⟨I1.st, I1.env.set i r1⟩
end
end SL

/-! SL: what a def is worth; calls, methods, fields, own objects. -/
namespace SL
open PySem PySem.Spec L2
open PyProof.Rows hiding St
abbrev RX : Hp → List Addr → Ex → Value × Option Addr → Prop := fun H ρ x p => RepX H ρ x p.1 p.2
/-- a def as a function -/
abbrev Fn := List D → Store → Res D
def spD (n : Nat) (φ : Fn) : Sp := fun vs H Q E => ∃ ds S ρ, ds.length = n ∧ StS H S ρ ∧ Reps H ρ ds vs ∧ RunG (fun c dd _ H' => E c dd H') Rep [] H ρ (φ ds S) Q
abbrev FnD (P : Program) (w : World) (K : PySem.W.Frag) (mg : Str → Option Value) (base : Heap) (k : Nat) (f : Addr) (fd : FuncData) (ps : List Str) (φ : Fn) : Prop := FnOk P w K mg base (L2.CX P w) k f fd ps (spD ps.length φ)
/-! ### the end of a def -/
def fz1 (n : Nat) (S : Store) (d : D) : Option D := match d with
  | .loc m => if m < n then some (.loc m) else match S[m]? with
    | some (.lst ds) => if okL n ds = true then some (.lst ds) else none
    | some (.dct ks ds) => if okL n ds = true then some (.dct ks ds) else none
    | some (.obj C ns ds) => if okL n ds = true then some (.obj C ns ds) else none
    | none => none
  | d => if okD n d = true then some d else none
def fzs (n : Nat) (S : Store) : List D → Option (List D)
  | [] => some []
  | d :: ds => match fz1 n S d, fzs n S ds with
    | some e, some es => some (e :: es)
    | _, _ => none
def fz (n : Nat) (S : Store) (d : D) : Option D := match d with
  | .tup ds => match fzs n S ds with
    | some es => some (.tup es)
    | none => none
  | d => fz1 n S d
open Classical in
noncomputable def finV (S : Store) (d : D) (S' : Store) : Res D := match fz S.length S' d with
  | some e => if Settles S S' then .ok e (S'.take S.length) else .ok d S'
  | none => .ok d S'
open Classical in
noncomputable def finX (S : Store) (x : Ex) (S' : Store) : Res D := if okL S.length x.ds = true ∧ Settles S S' then .exc x (S'.take S.length) else .exc x S'
noncomputable def finD (S : Store) (r : Flw) : Res D := match r with
  | .nx _ S' => finV S .non S'
  | .rt d S' => finV S d S'
  | .exc x _ S' => finX S x S'
  | _ => .stuck
/-- what it hands back is kept as an object of the store -/
def finK (r : Flw) : Res D := match r with
  | .nx _ S' => .ok .non S'
  | .rt d S' => .ok d S'
  | .exc x _ S' => .exc x S'
  | _ => .stuck
def startD (n : Nat) (ds : List D) : DEnv := ds.map some ++ List.replicate (n - ds.length) none
noncomputable def defM (n : Nat) (m : MS) : Fn := fun ds S => finD S (m (startD n ds) S)
def defK (n : Nat) (m : MS) : Fn := fun ds S => finK (m (startD n ds) S)
section
variable {H H' : Hp} {ρ t : List Addr} {S S' : Store} {d e : D} {v : V}
theorem fz1_rep (st : StS H S (ρ ++ t)) (r : Rep H (ρ ++ t) d v) (h : fz1 ρ.length S d = some e) : Rep H ρ e v := by
  cases d with
  | loc m =>
    simp only [fz1] at h
    split at h
    · rename_i hm
      cases h
      exact Rep.cut _ _ r (by simp only [okD]; exact decide_eq_true hm)
    · rename_i hm
      obtain ⟨a, ea, rfl⟩ := r
      have hna : a ∉ ρ := fun z => by
        obtain ⟨j, hj, ej⟩ := List.getElem_of_mem z
        have e1 : (ρ ++ t)[j]? = some a := by rw [List.getElem?_append_left hj, List.getElem?_eq_getElem hj, ej]
        have := (List.getElem?_inj (List.getElem?_eq_some_iff.mp e1).1 st.nd).mp (e1.trans ea.symm)
        omega
      split at h
      · rename_i ds es
        split at h
        · rename_i ho
          cases h
          obtain ⟨vs, h1, r1⟩ := st.cells m a _ ea es
          exact ⟨a, vs, rfl, h1, hna, Reps.cut _ _ r1 ho⟩
        · cases h
      · rename_i ks ds es
        split at h
        · rename_i ho
          cases h
          obtain ⟨vs, h1, l, r1⟩ := st.cells m a _ ea es
          exact ⟨a, vs, rfl, h1, hna, l, Reps.cut _ _ r1 ho⟩
        · cases h
      · rename_i C ns ds es
        split at h
        · rename_i ho
          cases h
          obtain ⟨dx, vs, h1, l, r1⟩ := st.cells m a _ ea es
          exact ⟨a, dx, vs, rfl, h1, hna, l, Reps.cut _ _ r1 ho⟩
        · cases h
      · cases h
  | _ =>
    simp only [fz1] at h
    split at h
    · rename_i ho
      cases h
      exact Rep.cut _ _ r ho
    · cases h
theorem fzs_rep (st : StS H S (ρ ++ t)) : ∀ {ds es : List D} {vs : List V}, Reps H (ρ ++ t) ds vs → fzs ρ.length S ds = some es → Reps H ρ es vs
  | [], es, vs, r, h => by cases h; exact r
  | d :: ds, es, vs, r, h => by
    obtain ⟨v, us, rfl, r1, r2⟩ := r
    simp only [fzs] at h
    split at h
    · rename_i e es' e1 e2
      cases h
      exact ⟨v, us, rfl, fz1_rep st r1 e1, fzs_rep st r2 e2⟩
    · cases h
theorem fz_rep (st : StS H S (ρ ++ t)) (r : Rep H (ρ ++ t) d v) (h : fz ρ.length S d = some e) : Rep H ρ e v := by
  cases d with
  | tup ds =>
    simp only [fz] at h
    split at h
    · rename_i es he
      cases h
      obtain ⟨a, vs, rfl, h1, na, r1⟩ := r
      exact ⟨a, vs, rfl, h1, fun z => na (List.mem_append_left _ z), fzs_rep st r1 he⟩
    · cases h
  | _ => exact fz1_rep st r h
theorem finV_run {W : WX} {σ : St} {Q : VK} {H0 : Hp} {ρ' : List Addr} (st0 : StS H0 S ρ) (h : RunG W Rep σ H0 ρ (finV S d S') Q) (n : Nx H0 ρ H' ρ') (st : StS H' S' ρ') (r : Rep H' ρ' d v) : Q v H' := by
  unfold finV at h
  split at h
  · rename_i e he
    split at h
    · rename_i hs
      obtain ⟨t, ht⟩ := n.pre
      subst ht
      rw [← st0.len] at he
      exact RunG.okN h n.settle (st0.settle st hs) (fz_rep st r he)
    · exact RunG.okN h n st r
  · exact RunG.okN h n st r
theorem finX_run {W : WX} {σ : St} {Q : VK} {H0 : Hp} {ρ' : List Addr} {x : Ex} {c : Value} {dd : Option Addr} (st0 : StS H0 S ρ) (h : RunG W Rep σ H0 ρ (finX S x S') Q) (n : Nx H0 ρ H' ρ') (st : StS H' S' ρ') (r : RepX H' ρ' x c dd) : W c dd σ H' := by
  unfold finX at h
  split at h
  · rename_i hs
    obtain ⟨t, ht⟩ := n.pre
    subst ht
    obtain ⟨rc, d, vs, e1, e2, na, l, r1⟩ := r
    exact h c dd H' ρ n.settle (st0.settle st hs.2) ⟨rc, d, vs, e1, e2, fun z => na (List.mem_append_left _ z), l, Reps.cut _ _ r1 (by rw [st0.len]; exact hs.1)⟩
  · exact h c dd H' ρ' n st r
theorem start_env {n : Nat} {N : List Str} {ds : List D} {vs : List V} (hn : N.length = n) (r : Reps H ρ ds vs) : EnvS H ρ (startD n ds) (L2.start N vs) := by
  have hl := r.len
  unfold startD L2.start
  refine ⟨by simp [hn, hl], fun i d e => ?_⟩
  by_cases hi : i < ds.length
  · rw [List.getElem?_append_left (by simpa using hi), List.getElem?_map] at e
    rw [List.getElem?_append_left (by rw [List.length_map, ← hl]; exact hi), List.getElem?_map]
    cases ed : ds[i]? with
    | none => rw [ed] at e; cases e
    | some d' =>
      rw [ed] at e
      cases e
      obtain ⟨v, hv, rv⟩ := Reps.getD r ed
      exact ⟨v, by rw [hv]; rfl, rv⟩
  · rw [List.getElem?_append_right (by simpa using Nat.le_of_not_lt hi), List.getElem?_replicate] at e
    split at e <;> cases e
end
section
variable {P : Program} {w : World} {K : PySem.W.Frag} {mg : Str → Option Value} {base : Heap} {k : Nat} {f : Addr} {fd : FuncData} {x qual : Str} {params : Arguments} {body : List Stmt} {scope : Scope} {dvs : List V} {kws : List (Str × V)} {N ps : List Str} {m : MS}
theorem FnD.mk (F : FunD K x qual params body scope dvs kws f fd) (S : FnScope N ps scope)
    (hb : ∀ (cdv : Value) (A : Around) (outer : List Env) (s : Shared) (H : Hp) (E : XK), Room k (A.deeper (envOfC qual scope s.heap.objs.size f cdv)) →
      PSs (cxOf (L2.CX P w) P w K mg base N qual scope f cdv A outer s H E) body (tS (fun c dd _ H' => E c dd H') m)) : FnD P w K mg base (k + 1) f fd ps (defM N.length m) := by
  refine FunD.ok F S (fun vs H Q E h => ?_) (fun cdv A outer s H vs Q E hr h => ⟨_, hb cdv A outer s H E hr, ?_⟩)
  · obtain ⟨ds, S, ρ, hl, _, r, _⟩ := h
    rw [← r.len, hl]
  · obtain ⟨ds, S0, ρ, hl, st0, r, h⟩ := h
    refine ⟨startD N.length ds, S0, ρ, ⟨st0, start_env rfl r⟩, ?_⟩
    unfold defM at h
    cases e : m (startD N.length ds) S0 with
    | nx δ' S' =>
      rw [e] at h
      exact fun σ' H' ρ' n I => finV_run (v := V.non) (d := D.non) st0 (show RunG _ Rep [] H ρ (finV S0 .non S') Q from h) n I.st rfl
    | rt d S' =>
      rw [e] at h
      exact fun v H' ρ' n st r => finV_run st0 h n st r
    | exc x δ' S' =>
      rw [e] at h
      exact fun c dd σ' H' ρ' n I r => finX_run (W := fun c dd _ H' => E c dd H') st0 h n I.st r
    | bk _ _ => rw [e] at h; exact False.elim h
    | ct _ _ => rw [e] at h; exact False.elim h
    | stuck => rw [e] at h; exact False.elim h
theorem FnD.mkK (F : FunD K x qual params body scope dvs kws f fd) (S : FnScope N ps scope)
    (hb : ∀ (cdv : Value) (A : Around) (outer : List Env) (s : Shared) (H : Hp) (E : XK), Room k (A.deeper (envOfC qual scope s.heap.objs.size f cdv)) →
      PSs (cxOf (L2.CX P w) P w K mg base N qual scope f cdv A outer s H E) body (tS (fun c dd _ H' => E c dd H') m)) : FnD P w K mg base (k + 1) f fd ps (defK N.length m) := by
  refine FunD.ok F S (fun vs H Q E h => ?_) (fun cdv A outer s H vs Q E hr h => ⟨_, hb cdv A outer s H E hr, ?_⟩)
  · obtain ⟨ds, S, ρ, hl, _, r, _⟩ := h
    rw [← r.len, hl]
  · obtain ⟨ds, S0, ρ, hl, st0, r, h⟩ := h
    refine ⟨startD N.length ds, S0, ρ, ⟨st0, start_env rfl r⟩, ?_⟩
    unfold defK at h
    cases e : m (startD N.length ds) S0 with
    | nx δ' S' =>
      rw [e] at h
      exact fun σ' H' ρ' n I => RunG.okN (b := V.non) (R := Rep) (a := D.non) h n I.st rfl
    | rt d S' =>
      rw [e] at h
      exact fun v H' ρ' n st r => RunG.okN h n st r
    | exc x δ' S' =>
      rw [e] at h
      exact fun c dd σ' H' ρ' n I r => h c dd H' ρ' n I.st r
    | bk _ _ => rw [e] at h; exact False.elim h
    | ct _ _ => rw [e] at h; exact False.elim h
    | stuck => rw [e] at h; exact False.elim h
/-- a weaker function -/
theorem FnD.of {φ ψ : Fn} (F : FnD P w K mg base k f fd ps φ) (h : ∀ ds S, ψ ds S = .stuck ∨ φ ds S = ψ ds S) : FnD P w K mg base k f fd ps ψ := F.imp fun vs H Q E ⟨ds, S, ρ, hl, st, r, q⟩ => by
  refine ⟨ds, S, ρ, hl, st, r, ?_⟩
  rcases h ds S with e | e
  · rw [e] at q; exact False.elim q
  · rw [e]; exact q
end
/-! ### calls -/
def appM (n : Nat) (φ : Fn) (ms : MA) (dD : List D) : ME := fun δ S => (ms δ S).bind fun xs S1 => if (xs ++ dD).length = n then φ (xs ++ dD) S1 else .stuck
/-- what is raised by a callee is taken -/
def TkW (X : Cx) (W : WX) : Prop := ∀ σ, PassesAt (L2.CX X.prog X.w) X σ (fun c d H => W c d σ H)
section
variable {X : Cx} {W : WX} {a b c e o : Expr} {es rest : List Expr} {ma mb mc me mo : ME} {ms : MA} {p pos apos : Pos} {x m : Str} {k n : Nat} {f C : Addr} {fd : FuncData} {ps : List Str} {φ : Fn} {dD : List D} {dvs : List V} {ds : List Value}
theorem tk_of (tk : Takes X W) : TkW X W := fun σ pins H s e s' I c => tk e s' (XE.of_call I (fun cls d H' h => h) c)
theorem tk_no : TkW X W0 := fun σ pins H s e s' I c => by
  obtain ⟨a, B, H', cls, d, _, _, _, _, _, _, _, h⟩ := c
  exact False.elim h
theorem RunG.sig {α β : Type} {R : Hp → List Addr → α → β → Prop} {σ : St} {H : Hp} {ρ : List Addr} {r : Res α} {Q : β → Hp → Prop} (h : RunG W R σ H ρ r Q) : RunG (fun c dd _ H' => W c dd σ H') R [] H ρ r Q := by
  cases r with
  | ok a S => exact h
  | exc x S => exact h
  | stuck => exact h
theorem sp_of {σ : St} {H : Hp} {ρ : List Addr} {S : Store} {xs : List D} {vs : List V} {Q : VK} (st : StS H S ρ) (r : Reps H ρ xs vs) (h : RunG W Rep σ H ρ (if xs.length = n then φ xs S else .stuck) Q) : spD n φ vs H Q (fun c dd H' => W c dd σ H') := by
  split at h
  · rename_i hl
    exact ⟨xs, S, ρ, hl, st, r, h.sig⟩
  · exact False.elim h
theorem pd_callD (F : FnOk X.prog X.w X.K X.mg X.base (L2.CX X.prog X.w) k f fd ps (spD n φ)) (hr : Room k X.A) (hm : X.mg x = some (.ref f)) (hk : PySem.W.keepIn X.K (.ref f) = true) (hb : Binds X.K fd ps ds) (hd : Vals dvs ds) (hD : ∀ H ρ, Reps H ρ dD dvs) (tk : TkW X W)
    (ha : PA X (e :: es) (tA W ms)) (hg : Gl X x := by rfl) (hdb : (x == ("__debug__" : Str)) = false := by decide) (he : starEach (e :: es) X.env = (false, eval e X.env) :: starEach es X.env := by rfl) (hpl : (backTo pos (starEach es X.env)).any (·.1) = false := by rfl) :
    PE X (.Call (.Name x p) (e :: es) [] pos) (tE W (appM n φ ms dD)) := PE.weak (pe_callSD F hr hg hm hk hb hd tk ha hdb he hpl) fun σ H Q h => by
  obtain ⟨δ, S, ρ, I, h⟩ := h
  refine bindG I h fun xs vs S1 H1 ρ1 n1 I1 r1 h1 => ?_
  exact sp_of I1.st (r1.append (hD _ _)) h1
theorem pd_call (F : FnOk X.prog X.w X.K X.mg X.base (L2.CX X.prog X.w) k f fd ps (spD n φ)) (hr : Room k X.A) (hm : X.mg x = some (.ref f)) (hk : PySem.W.keepIn X.K (.ref f) = true) (hb : Binds X.K fd ps []) (tk : TkW X W)
    (ha : PA X (e :: es) (tA W ms)) (hg : Gl X x := by rfl) (hdb : (x == ("__debug__" : Str)) = false := by decide) (he : starEach (e :: es) X.env = (false, eval e X.env) :: starEach es X.env := by rfl) (hpl : (backTo pos (starEach es X.env)).any (·.1) = false := by rfl) :
    PE X (.Call (.Name x p) (e :: es) [] pos) (tE W (appM n φ ms [])) := pd_callD F hr hm hk hb .nil (fun _ _ => Reps.nil) tk ha hg hdb he hpl
theorem pd_call0 (F : FnOk X.prog X.w X.K X.mg X.base (L2.CX X.prog X.w) k f fd ps (spD n φ)) (hr : Room k X.A) (hm : X.mg x = some (.ref f)) (hk : PySem.W.keepIn X.K (.ref f) = true) (hb : Binds X.K fd ps []) (tk : TkW X W)
    (hg : Gl X x := by rfl) (hdb : (x == ("__debug__" : Str)) = false := by decide) : PE X (.Call (.Name x p) [] [] pos) (tE W (appM n φ nilM [])) := by
  refine ⟨fun pins s σ H Q I h => ?_⟩
  refine wpAny_Call_Name_kw (ld_glob I hg hm ?_ hdb)
  refine PySem.W.callWith_K0 I.kIn hk (run_fnSD (E := fun σ c d H => W c d σ H) (us := []) (vs := []) (dvs := []) F hr hb .nil (tk σ) I .nil ?_)
  obtain ⟨δ, S, ρ, I', h⟩ := h
  exact sp_of (xs := []) I'.st Reps.nil h
/-! ### objects -/
def asO (S : Store) : D → Option (Addr × List Str × List D)
  | .obj C ns ds => some (C, ns, ds)
  | .loc n => match S[n]? with
    | some (.obj C ns ds) => some (C, ns, ds)
    | _ => none
  | _ => none
theorem asO_rep {H : Hp} {ρ : List Addr} {S : Store} {d : D} {v : V} {C : Addr} {ns : List Str} {ds : List D} (st : StS H S ρ) (r : Rep H ρ d v) (h : asO S d = some (C, ns, ds)) : ∃ a dx vs, v = .ref a ∧ H a = some (.ins C dx (ns.zip vs)) ∧ ns.length = ds.length ∧ Reps H ρ ds vs := by
  cases d with
  | obj C' ns' es =>
    cases h
    obtain ⟨a, dx, vs, rfl, h1, _, l, h2⟩ := r
    exact ⟨a, dx, vs, rfl, h1, l, h2⟩
  | loc n =>
    obtain ⟨a, ha, rfl⟩ := r
    simp only [asO] at h
    split at h
    · rename_i C' ns' ds' e
      cases h
      obtain ⟨dx, vs, h1, l, h2⟩ := st.cells n a _ ha e
      exact ⟨a, dx, vs, rfl, h1, l, h2⟩
    · cases h
  | _ => cases h
def lookS {α : Type} : List Str → List α → Str → Option α
  | k :: ks, d :: ds, q => if q = k then some d else lookS ks ds q
  | _, _, _ => none
theorem lookup_zip {α : Type} : ∀ {ns : List Str} {vs : List α} {q : Str}, (ns.zip vs).lookup q = lookS ns vs q
  | [], _, _ => by simp [lookS]
  | _ :: _, [], _ => by simp [lookS]
  | n :: ns, v :: vs, q => by
    rw [List.zip_cons_cons, List.lookup_cons, lookS]
    by_cases h : q = n
    · rw [if_pos h]
      simp [h]
    · rw [if_neg h]
      have : (q == n) = false := by simpa using h
      rw [this]
      exact lookup_zip
theorem lookS_rep {H : Hp} {ρ : List Addr} : ∀ {ns : List Str} {ds : List D} {vs : List V} {q : Str} {d : D}, Reps H ρ ds vs → lookS ns ds q = some d → ∃ v, lookS ns vs q = some v ∧ Rep H ρ d v
  | [], _, _, _, _, _, h => by cases h
  | _ :: _, [], _, _, _, _, h => by cases h
  | n :: ns, d' :: ds, vs, q, d, r, h => by
    obtain ⟨v, us, rfl, h1, h2⟩ := r
    simp only [lookS] at h ⊢
    split at h
    · rename_i e
      cases h
      exact ⟨v, by rw [if_pos e], h1⟩
    · rename_i e
      rw [if_neg e]
      exact lookS_rep h2 h
theorem lookS_none {α β : Type} : ∀ {ns : List Str} {ds : List α} {vs : List β} {q : Str}, ds.length = vs.length → lookS ns ds q = none → lookS ns vs q = none
  | [], _, _, _, _, _ => rfl
  | _ :: _, [], [], _, _, _ => rfl
  | _ :: _, [], _ :: _, _, h, _ => by cases h
  | _ :: _, _ :: _, [], _, h, _ => by cases h
  | n :: ns, d :: ds, v :: vs, q, hl, h => by
    simp only [lookS] at h ⊢
    split at h
    · cases h
    · rename_i e
      rw [if_neg e]
      exact lookS_none (by simpa using hl) h
/-- a field put -/
def putS {α : Type} : List Str → List α → Str → α → List Str × List α
  | k :: ks, d :: ds, q, x => if k = q then (k :: ks, x :: ds) else let r := putS ks ds q x; (k :: r.1, d :: r.2)
  | ks, ds, q, x => (ks ++ [q], ds ++ [x])
theorem putS_zip : ∀ {ns : List Str} {vs : List V} {q : Str} {x : V}, ns.length = vs.length → putF q x (ns.zip vs) = (putS ns vs q x).1.zip (putS ns vs q x).2 ∧ (putS ns vs q x).1.length = (putS ns vs q x).2.length
  | [], [], q, x, _ => ⟨rfl, rfl⟩
  | [], _ :: _, _, _, h => by cases h
  | _ :: _, [], _, _, h => by cases h
  | n :: ns, v :: vs, q, x, h => by
    have hl : ns.length = vs.length := by simpa using h
    rw [List.zip_cons_cons]
    simp only [putF, putS]
    by_cases e : n = q
    · rw [if_pos e, if_pos e]
      exact ⟨rfl, by simp [hl]⟩
    · rw [if_neg e, if_neg e]
      obtain ⟨i1, i2⟩ := putS_zip (q := q) (x := x) hl
      exact ⟨by rw [i1]; rfl, by simp [i2]⟩
theorem putS_rep {H : Hp} {ρ : List Addr} {q : Str} {d : D} {x : V} (rx : Rep H ρ d x) : ∀ {ns : List Str} {ds : List D} {vs : List V}, ns.length = ds.length → Reps H ρ ds vs → (putS ns ds q d).1 = (putS ns vs q x).1 ∧ Reps H ρ (putS ns ds q d).2 (putS ns vs q x).2
  | [], [], vs, _, r => by cases r; exact ⟨rfl, Reps.one rx⟩
  | [], _ :: _, _, h, _ => by cases h
  | _ :: _, [], _, h, _ => by cases h
  | n :: ns, d' :: ds, vs, h, r => by
    obtain ⟨v, us, rfl, h1, h2⟩ := r
    simp only [putS]
    by_cases e : n = q
    · rw [if_pos e, if_pos e]
      exact ⟨rfl, Reps.cons rx h2⟩
    · rw [if_neg e, if_neg e]
      obtain ⟨i1, i2⟩ := putS_rep rx (by simpa using h) h2
      exact ⟨by simp [i1], Reps.cons h1 i2⟩
theorem putS_len {ns : List Str} {ds : List D} {q : Str} {d : D} (h : ns.length = ds.length) : (putS ns ds q d).1.length = (putS ns ds q d).2.length := by
  induction ns generalizing ds with
  | nil => cases ds with
    | nil => rfl
    | cons _ _ => cases h
  | cons n ns ih => cases ds with
    | nil => cases h
    | cons d' ds =>
      simp only [putS]
      split
      · simpa using h
      · simpa using ih (by simpa using h)
theorem ins_rep_len {H : Hp} {ρ : List Addr} {ns : List Str} {ds : List D} {vs : List V} (l : ns.length = ds.length) (r : Reps H ρ ds vs) : ns.length = vs.length := by rw [l, r.len]
open Classical in
/-- e.f, e of the class at C -/
noncomputable def fldM (C : Addr) (fl : Str) (mo : ME) : ME := fun δ S => (mo δ S).bind fun x S1 => match asO S1 x with
  | some (C', ns, ds) => if C' = C then RO (lookS ns ds fl) S1 else .stuck
  | none => .stuck
theorem pd_fld (cl : Cls X.K C) (nf : NoAttr X.K C m) (ho : PE X o (tE W mo)) (hb : attributeBase o m X.env (eval o X.env) = eval o X.env := by rfl) : PE X (.Attribute o m pos) (tE W (fldM C m mo)) := PE.weak (pe_fld ho hb) fun σ H Q h => by
  obtain ⟨δ, S, ρ, I, h⟩ := h
  refine bindG I h fun x v S1 H1 ρ1 n1 I1 r1 h1 => ?_
  split at h1
  · rename_i C' ns ds eo
    split at h1
    · rename_i hC
      subst hC
      obtain ⟨z, e, kk⟩ := h1.ro
      obtain ⟨a, dx, vs, rfl, hH, l, r⟩ := asO_rep I1.st r1 eo
      obtain ⟨u, eu, ru⟩ := lookS_rep r e
      exact ⟨a, C', dx, _, u, rfl, hH, cl, nf, by rw [lookup_zip]; exact eu, kk u H1 ρ1 (Nx.refl _ _) I1.st ru⟩
    · exact False.elim h1
  · exact False.elim h1
open Classical in
noncomputable def setfM (C : Addr) (fl : Str) (mo mv : ME) : MS := fun δ S => bindS (mv δ S) δ fun d S1 => bindS (mo δ S1) δ fun x S2 => match x with
  | .loc n => match S2[n]? with
    | some (.obj C' ns ds) => if C' = C ∧ ns.length < 1000 then .nx δ (S2.set n (.obj C' (putS ns ds fl d).1 (putS ns ds fl d).2)) else .stuck
    | _ => .stuck
  | _ => .stuck
theorem ps_dfld {value : Expr} {mv : ME} {pos' : Pos} (cl : Cls X.K C) (nf : NoAttr X.K C m) (ho : PE X o (tE W mo)) (hv : PE X value (tE W mv)) (hs : swapsWith value (some (.Attribute o m pos')) pos.line X.env = pure false := by rfl) : PS X (.Assign [.Attribute o m pos'] value pos) (tS W (setfM C m mo mv)) :=
  PS.weak (ps_fld ho hv hs) fun G σ H h => by
    obtain ⟨δ, S, ρ, I, h⟩ := h
    refine bindGF I h fun d v S1 H1 ρ1 n1 I1 r1 h1 => ?_
    refine bindGF I1 h1 fun x u S2 H2 ρ2 n2 I2 r2 h2 => ?_
    split at h2
    · rename_i n
      split at h2
      · rename_i C' ns ds ec
        split at h2
        · rename_i hC
          obtain ⟨rfl, hlen⟩ := hC
          obtain ⟨a, ea, rfl⟩ := r2
          obtain ⟨dx, vs, hH, l, r⟩ := I2.st.cells n a _ ea ec
          have hm : a ∈ ρ2 := List.mem_of_getElem? ea
          have rd := Rep.mono n2 _ _ r1
          refine ⟨a, C', dx, _, rfl, hH, cl, nf, by rw [List.length_zip, ins_rep_len l r, Nat.min_self, ← ins_rep_len l r]; exact hlen, ?_⟩
          obtain ⟨z1, z2⟩ := putS_zip (q := m) (x := v) (ins_rep_len l r)
          obtain ⟨p1, p2⟩ := putS_rep (q := m) rd l r
          rw [z1]
          have nx : Nx H2 ρ2 (upd H2 a (.ins C' dx ((putS ns vs m v).1.zip (putS ns vs m v).2))) ρ2 := Nx.set hm (by rw [hH]; simp)
          have st3 := I2.st.set (o := .ins C' dx ((putS ns vs m v).1.zip (putS ns vs m v).2)) (c := .obj C' (putS ns ds m d).1 (putS ns ds m d).2) ea ⟨dx, _, by rw [upd_same, p1], putS_len l, Reps.mono nx _ _ p2⟩
          exact h2 σ _ ρ2 nx ⟨st3, I2.env.mono nx⟩
        · exact False.elim h2
      · exact False.elim h2
    · exact False.elim h2
end
end SL

/-! SL: methods, making of objects, stores by place, augmented stores. -/
namespace SL
open PySem PySem.Spec L2
open PyProof.Rows hiding St
section
variable {K : PySem.W.Frag} {x qual : Str} {params : Arguments} {body : List Stmt} {scope : Scope} {dvs : List V} {kws : List (Str × V)} {f : Addr} {fd : FuncData} {ps : List Str}
/-- keyword-only parameters, some given, no other defaults -/
theorem kbindsK (F : FunD K x qual params body scope [] kws f fd) (n : Nat) (ks : List Str) (ms : List (Str × V)) (g : {α : Type} → List α → List α → List α → List α) (hk : kws ≠ []) (hms : ∀ q ∈ ms, q ∈ kws)
    (hrel : ∀ {vs mz zs : List V} {us mv ws : List Value}, Vals vs us → Vals mz mv → Vals zs ws → Vals (g vs mz zs) (g us mv ws))
    (h : ∀ (D : Addr) (doc pm : Value) (an : Option Addr) (cdv ct : Value) (us mv ws : List Value), us.length = n → mv.length = ms.length → ws.length = ks.length →
      KwChain D ((ms.map (·.1)).zip mv) (bindArgs (PySem.W.fnOf x qual params body scope .none (.ref D) doc pm an cdv ct) ⟨us, ks.zip ws⟩) (ps.zip (g us mv ws))) :
    ∃ mv : List Value, KBn K fd ps n ks (fun us ws => g us mv ws) (fun vs zs => g vs (ms.map (·.2)) zs) := by
  obtain ⟨oc, od, dV, kV, doc, pm, an, cdv, ct, osl, rfl, lk, hcd, hD, hK⟩ := F.ex
  rcases hD with ⟨_, rfl⟩ | ⟨e, _⟩
  · rcases hK with e | ⟨D, rfl, hq⟩
    · exact absurd e hk
    · obtain ⟨mv, hl, rk, hks⟩ := kwd_vals (ms := ms) fun q hm => hq q (hms q hm)
      refine ⟨mv, ⟨fun s us ws X l1 l2 => ?_, fun r1 r2 => hrel r1 rk r2⟩⟩
      exact BindsTo.of_looks fun M => KwChain.looks X hks (h D doc pm an cdv ct us mv ws l1 hl l2)
  · exact absurd rfl e
end
section
variable {X : Cx} {W : WX} {a b c e o i : Expr} {es rest : List Expr} {ma mb mc me mo mi : ME} {ms mk : MA} {p pos apos pos' tpos : Pos} {x m : Str} {k n j : Nat} {f C : Addr} {fd : FuncData} {ps ks : List Str} {φ : Fn} {dD : List D} {dvs : List V} {ds : List Value} {kws : List Keyword}
abbrev tK (W : WX) (m : MA) : TA := tA W m
theorem PK.weak {kws : List Keyword} {t t' : TA} (h : PK X kws t) (hw : ∀ σ H Q, t' σ H Q → t σ H Q) : PK X kws t' := ⟨fun p pins s σ H Q I q => h.run p pins s σ H Q I (hw _ _ _ q)⟩
theorem pk_dnil : PK X [] (tA W nilM) := PK.weak pk_nil fun σ H Q h => by
  obtain ⟨δ, S, ρ, I, h⟩ := h
  exact RunG.ok h I.st Reps.nil
theorem pk_dcons {nm : Option Str} {kpos : Pos} (ha : PE X e (tE W me)) (hr : PK X kws (tA W ms)) : PK X (⟨nm, e, kpos⟩ :: kws) (tA W (consM me ms)) := PK.weak (pk_cons ha hr) fun σ H Q h => by
  obtain ⟨δ, S, ρ, I, h⟩ := h
  refine bindG I h fun x v S1 H1 ρ1 n1 I1 r1 h1 => ?_
  refine bindG I1 h1 fun xs vs S2 H2 ρ2 n2 I2 r2 h2 => ?_
  exact RunG.ok h2 I2.st (Reps.cons (Rep.mono n2 _ _ r1) r2)
/-- the callee runs, keywords given -/
theorem run_fnKS {pins : List (Addr × Obj)} {σ : St} {H : Hp} {s : Shared} {Q : VK} {us ws : List Value} {vs zs : List V} {sp : Sp} {E : St → XK} {CX : CXT} {g : List Value → List Value → List Value} {gV : List V → List V → List V} (F : FnOk X.prog X.w X.K X.mg X.base CX k f fd ps sp) (hr : Room k X.A) (hb : KBn X.K fd ps n ks g gV) (hx : PassesAt CX X σ (E σ))
    (I : Inv X pins σ H s) (r : Vals vs us) (rz : Vals zs ws) (l1 : vs.length = n) (l2 : zs.length = ks.length) (h : sp (gV vs zs) H Q (E σ)) : wpAny (model X.prog X.w) X.A (call (.ref f) us (ks.zip ws)) (EP X pins σ Q) X.xe s := by
  have r2 := hb.rel r rz
  refine wpAny_call (codeAny_mono (F.run X.A X.stack s H ⟨us, ks.zip ws⟩ (g us ws) (gV vs zs) Q (E σ) hr I.env0 (hb.to s us ws I.kIn (r.length.symm.trans l1) (rz.length.symm.trans l2)) r2 h) fun r s' hq => ?_)
  cases r with
  | error e => exact hx pins H s e s' I hq
  | ok fl =>
    cases fl with
    | ret u => exact I.after hq
    | next => exact False.elim hq
    | brk => exact False.elim hq
    | cont => exact False.elim hq
/-- how values are put in the parameters' order -/
structure GRel (gD : List D → List D → List D) (gV : List V → List V → List V) : Prop where
  rel : ∀ {H : Hp} {ρ : List Addr} {ds es : List D} {vs zs : List V}, Reps H ρ ds vs → Reps H ρ es zs → Reps H ρ (gD ds es) (gV vs zs)
def appN (n j : Nat) (q : Nat) (φ : Fn) (gD : List D → List D → List D) (ms mk : MA) : ME := fun δ S => (ms δ S).bind fun xs S1 => (mk δ S1).bind fun zs S2 => if xs.length = n ∧ zs.length = j then (if (gD xs zs).length = q then φ (gD xs zs) S2 else .stuck) else .stuck
theorem pd_callN {q : Nat} {g : List Value → List Value → List Value} {gV : List V → List V → List V} {gD : List D → List D → List D} (F : FnOk X.prog X.w X.K X.mg X.base (L2.CX X.prog X.w) k f fd ps (spD q φ)) (hr : Room k X.A) (hm : X.mg x = some (.ref f)) (hk : PySem.W.keepIn X.K (.ref f) = true) (hb : KBn X.K fd ps n ks g gV) (gr : GRel gD gV) (tk : TkW X W)
    (ha : PA X (e :: es) (tA W ms)) (hkw : PK X kws (tA W mk)) (hg : Gl X x := by rfl) (hall : (backToKw pos (keywordEach kws X.env)).all (·.1.isSome) = true := by rfl) (hks : (backToKw pos (keywordEach kws X.env)).filterMap (·.1) = ks := by rfl)
    (hdb : (x == ("__debug__" : Str)) = false := by decide) (he : starEach (e :: es) X.env = (false, eval e X.env) :: starEach es X.env := by rfl)
    (hpl : ((backTo pos (starEach (e :: es) X.env)).any (·.1) || (backToKw pos (keywordEach kws X.env)).any (·.1.isNone)) = false := by rfl) :
    PE X (.Call (.Name x p) (e :: es) kws pos) (tE W (appN n ks.length q φ gD ms mk)) := by
  refine ⟨fun pins s σ H Q I h => ?_⟩
  refine wpAny_Call_Name_kw (ld_glob I hg hm ?_ hdb)
  obtain ⟨δ, S, ρ, I', h⟩ := h
  refine PySem.W.callWith_KW (h₀ := X.base) I.ok.mod.kin hk hall (thn (ha.run pos pins s σ H (fun vs H1 => tA W mk σ H1 fun zs H2 => vs.length = n ∧ zs.length = ks.length ∧ spD q φ (gV vs zs) H2 Q (fun c dd H' => W c dd σ H')) I ?_) fun us s1 ⟨vs, H1, I1, r, q⟩ => ?_) hpl he
  · refine bindG I' h fun xs vs S1 H1 ρ1 n1 I1 r1 h1 => ?_
    refine bindG I1 h1 fun zs ws S2 H2 ρ2 n2 I2 r2 h2 => ?_
    split at h2
    · rename_i hl
      have r1' := Reps.mono n2 _ _ r1
      exact ⟨by rw [← r1'.len]; exact hl.1, by rw [← r2.len]; exact hl.2, sp_of I2.st (gr.rel r1' r2) h2⟩
    · exact False.elim h2
  · refine thn (hkw.run pos pins s1 σ H1 _ I1 q) fun ws s2 ⟨zs, H2, I2, rz, l1, l2, q2⟩ => ⟨I2.kIn, ?_⟩
    rw [hks]
    exact run_fnKS (E := fun σ c d H => W c d σ H) F hr hb (tk σ) I2 r rz l1 l2 q2
/-! ### methods -/
open Classical in
noncomputable def selfM (C : Addr) (m : Str) (mo : ME) (kk : D → Store → Res D) (δ : DEnv) (S : Store) : Res D := (mo δ S).bind fun x S1 => match asO S1 x with
  | some (C', ns, ds) => if C' = C ∧ lookS ns ds m = none then kk x S1 else .stuck
  | none => .stuck
noncomputable def methM (C : Addr) (m : Str) (n : Nat) (φ : Fn) (mo : ME) (ms : MA) (dD : List D) : ME := fun δ S => selfM C m mo (fun x S1 => (ms δ S1).bind fun xs S2 => if (x :: (xs ++ dD)).length = n then φ (x :: (xs ++ dD)) S2 else .stuck) δ S
theorem pd_methD {pl : Sem Bool} (c : Cls X.K C) (hm : Meth X.K C m f) (F : FnOk X.prog X.w X.K X.mg X.base (L2.CX X.prog X.w) k f fd ps (spD n φ)) (hr : Room k X.A) (hb : Binds X.K fd ps ds) (hd : Vals dvs ds) (hD : ∀ H ρ, Reps H ρ dD dvs) (tk : TkW X W) (ho : PE X o (tE W mo)) (ha : PA X (e :: es) (tA W ms))
    (hst : starEach (e :: es) X.env = (false, eval e X.env) :: starEach es X.env := by rfl) (hpl : (backTo pos (starEach es X.env)).any (·.1) = false := by rfl)
    (ht : eval (.Call (.Attribute o m apos) (e :: es) [] pos) X.env = (do
      let ov ← eval o X.env
      standAt apos.atName
      let (f, first) ← holding [ov] (getMethod ov m pl)
      callWith pos f first (backTo pos (starEach (e :: es) X.env)) (backToKw pos (keywordEach [] X.env))) := by rfl) :
    PE X (.Call (.Attribute o m apos) (e :: es) [] pos) (tE W (methM C m n φ mo ms dD)) := by
  refine ⟨fun pins s σ H Q I h => ?_⟩
  obtain ⟨δ, S, ρ, I', h⟩ := h
  refine PySem.W.methodCall_KW (pl := pl) (thn (ho.run pins s σ H (fun y H1 => ∃ aa dx fs, y = .ref aa ∧ H1 aa = some (.ins C dx fs) ∧ fs.lookup m = none ∧ tA W ms σ H1 fun vs H2 => spD n φ (y :: (vs ++ dvs)) H2 Q (fun c d H' => W c d σ H')) I ?_) fun u s1 ⟨y, H1, I1, rx, aa, dx, fs, ex, ea, l, q⟩ => ?_) ht
  · unfold methM selfM at h
    refine bindG I' h fun xd v S1 H1 ρ1 n1 I1 r1 h1 => ?_
    split at h1
    · rename_i C' ns ds' eo
      split at h1
      · rename_i hC
        obtain ⟨rfl, hl⟩ := hC
        obtain ⟨aa, dx, vs, rfl, hH, l, r⟩ := asO_rep I1.st r1 eo
        refine ⟨aa, dx, _, rfl, hH, by rw [lookup_zip]; exact lookS_none r.len hl, ?_⟩
        refine bindG I1 h1 fun xs ws S2 H2 ρ2 n2 I2 r2 h2 => ?_
        exact sp_of I2.st (Reps.cons (Rep.mono n2 _ _ r1) (r2.append (hD _ _))) h2
      · exact False.elim h1
    · exact False.elim h1
  · subst ex
    obtain rfl : u = Value.ref aa := rx
    refine getmeth_ok I1 ea c hm l ?_
    refine PySem.W.callWith_K (first := [.ref aa]) (h₀ := X.base) I.ok.mod.kin hm.kp (thn (ha.run pos pins s1 σ H1 _ I1 q) fun us s2 ⟨vs, H2, I2, r, q2⟩ => ⟨I2.kIn, ?_⟩) hst hpl
    exact run_fnSD (E := fun σ c d H => W c d σ H) (us := .ref aa :: us) (vs := .ref aa :: vs) F hr hb hd (tk σ) I2 (.cons rfl r) q2
theorem pd_meth {pl : Sem Bool} (c : Cls X.K C) (hm : Meth X.K C m f) (F : FnOk X.prog X.w X.K X.mg X.base (L2.CX X.prog X.w) k f fd ps (spD n φ)) (hr : Room k X.A) (hb : Binds X.K fd ps []) (tk : TkW X W) (ho : PE X o (tE W mo)) (ha : PA X (e :: es) (tA W ms))
    (hst : starEach (e :: es) X.env = (false, eval e X.env) :: starEach es X.env := by rfl) (hpl : (backTo pos (starEach es X.env)).any (·.1) = false := by rfl)
    (ht : eval (.Call (.Attribute o m apos) (e :: es) [] pos) X.env = (do
      let ov ← eval o X.env
      standAt apos.atName
      let (f, first) ← holding [ov] (getMethod ov m pl)
      callWith pos f first (backTo pos (starEach (e :: es) X.env)) (backToKw pos (keywordEach [] X.env))) := by rfl) :
    PE X (.Call (.Attribute o m apos) (e :: es) [] pos) (tE W (methM C m n φ mo ms [])) := pd_methD c hm F hr hb .nil (fun _ _ => Reps.nil) tk ho ha hst hpl ht
theorem pd_meth0 {pl : Sem Bool} (c : Cls X.K C) (hm : Meth X.K C m f) (F : FnOk X.prog X.w X.K X.mg X.base (L2.CX X.prog X.w) k f fd ps (spD n φ)) (hr : Room k X.A) (hb : Binds X.K fd ps []) (tk : TkW X W) (ho : PE X o (tE W mo))
    (ht : eval (.Call (.Attribute o m apos) [] [] pos) X.env = (do
      let ov ← eval o X.env
      standAt apos.atName
      let (f, first) ← holding [ov] (getMethod ov m pl)
      callWith pos f first (backTo pos (starEach [] X.env)) (backToKw pos (keywordEach [] X.env))) := by rfl) :
    PE X (.Call (.Attribute o m apos) [] [] pos) (tE W (methM C m n φ mo nilM [])) := by
  refine ⟨fun pins s σ H Q I h => ?_⟩
  obtain ⟨δ, S, ρ, I', h⟩ := h
  refine PySem.W.methodCall_KW (pl := pl) (thn (ho.run pins s σ H (fun y H1 => ∃ aa dx fs, y = .ref aa ∧ H1 aa = some (.ins C dx fs) ∧ fs.lookup m = none ∧ spD n φ [y] H1 Q (fun c d H' => W c d σ H')) I ?_) fun u s1 ⟨y, H1, I1, rx, aa, dx, fs, ex, ea, l, q⟩ => ?_) ht
  · unfold methM selfM at h
    refine bindG I' h fun xd v S1 H1 ρ1 n1 I1 r1 h1 => ?_
    split at h1
    · rename_i C' ns ds' eo
      split at h1
      · rename_i hC
        obtain ⟨rfl, hl⟩ := hC
        obtain ⟨aa, dx, vs, rfl, hH, l, r⟩ := asO_rep I1.st r1 eo
        exact ⟨aa, dx, _, rfl, hH, by rw [lookup_zip]; exact lookS_none r.len hl, sp_of (xs := [xd]) I1.st (Reps.one r1) h1⟩
      · exact False.elim h1
    · exact False.elim h1
  · subst ex
    obtain rfl : u = Value.ref aa := rx
    refine getmeth_ok I1 ea c hm l ?_
    exact PySem.W.callWith_K0 (first := [.ref aa]) I1.kIn hm.kp (run_fnSD (E := fun σ c d H => W c d σ H) (dvs := []) (us := [.ref aa]) (vs := [.ref aa]) F hr hb .nil (tk σ) I1 (.cons rfl .nil) q)
noncomputable def methN (C : Addr) (m : Str) (n j q : Nat) (φ : Fn) (gD : List D → List D → List D) (mo : ME) (ms mk : MA) : ME := fun δ S => selfM C m mo (fun x S1 => (ms δ S1).bind fun xs S2 => (mk δ S2).bind fun zs S3 => if (x :: xs).length = n ∧ zs.length = j then (if (gD (x :: xs) zs).length = q then φ (gD (x :: xs) zs) S3 else .stuck) else .stuck) δ S
theorem pd_methN {pl : Sem Bool} {q : Nat} {g : List Value → List Value → List Value} {gV : List V → List V → List V} {gD : List D → List D → List D} (c : Cls X.K C) (hm : Meth X.K C m f) (F : FnOk X.prog X.w X.K X.mg X.base (L2.CX X.prog X.w) k f fd ps (spD q φ)) (hr : Room k X.A) (hb : KBn X.K fd ps n ks g gV) (gr : GRel gD gV) (tk : TkW X W)
    (ho : PE X o (tE W mo)) (ha : PA X (e :: es) (tA W ms)) (hkw : PK X kws (tA W mk)) (hall : (backToKw pos (keywordEach kws X.env)).all (·.1.isSome) = true := by rfl) (hks : (backToKw pos (keywordEach kws X.env)).filterMap (·.1) = ks := by rfl)
    (he : starEach (e :: es) X.env = (false, eval e X.env) :: starEach es X.env := by rfl)
    (hpl : ((backTo pos (starEach (e :: es) X.env)).any (·.1) || (backToKw pos (keywordEach kws X.env)).any (·.1.isNone)) = false := by rfl)
    (ht : eval (.Call (.Attribute o m apos) (e :: es) kws pos) X.env = (do
      let ov ← eval o X.env
      standAt apos.atName
      let (f, first) ← holding [ov] (getMethod ov m pl)
      callWith pos f first (backTo pos (starEach (e :: es) X.env)) (backToKw pos (keywordEach kws X.env))) := by rfl) :
    PE X (.Call (.Attribute o m apos) (e :: es) kws pos) (tE W (methN C m n ks.length q φ gD mo ms mk)) := by
  refine ⟨fun pins s σ H Q I h => ?_⟩
  obtain ⟨δ, S, ρ, I', h⟩ := h
  refine PySem.W.methodCall_KW (pl := pl) (thn (ho.run pins s σ H (fun y H1 => ∃ aa dx fs, y = .ref aa ∧ H1 aa = some (.ins C dx fs) ∧ fs.lookup m = none ∧ tA W ms σ H1 fun vs H2 => tA W mk σ H2 fun zs H3 => (y :: vs).length = n ∧ zs.length = ks.length ∧ spD q φ (gV (y :: vs) zs) H3 Q (fun c d H' => W c d σ H')) I ?_) fun u s1 ⟨y, H1, I1, rx, aa, dx, fs, ex, ea, l, q⟩ => ?_) ht
  · unfold methN selfM at h
    refine bindG I' h fun xd v S1 H1 ρ1 n1 I1 r1 h1 => ?_
    split at h1
    · rename_i C' ns ds' eo
      split at h1
      · rename_i hC
        obtain ⟨rfl, hl⟩ := hC
        obtain ⟨aa, dx, vs, rfl, hH, l, r⟩ := asO_rep I1.st r1 eo
        refine ⟨aa, dx, _, rfl, hH, by rw [lookup_zip]; exact lookS_none r.len hl, ?_⟩
        refine bindG I1 h1 fun xs ws S2 H2 ρ2 n2 I2 r2 h2 => ?_
        refine bindG I2 h2 fun zs us S3 H3 ρ3 n3 I3 r3 h3 => ?_
        split at h3
        · rename_i hlen
          have r1' := Rep.mono (n2.trans n3) _ _ r1
          have r2' := Reps.mono n3 _ _ r2
          have r12 := Reps.cons r1' r2'
          exact ⟨by rw [← r12.len]; exact hlen.1, by rw [← r3.len]; exact hlen.2, sp_of I3.st (gr.rel r12 r3) h3⟩
        · exact False.elim h3
      · exact False.elim h1
    · exact False.elim h1
  · subst ex
    obtain rfl : u = Value.ref aa := rx
    refine getmeth_ok I1 ea c hm l ?_
    refine PySem.W.callWith_KW (first := [.ref aa]) (h₀ := X.base) I.ok.mod.kin hm.kp hall (thn (ha.run pos pins s1 σ H1 _ I1 q) fun us s2 ⟨vs, H2, I2, r, q2⟩ => ?_) hpl he
    refine thn (hkw.run pos pins s2 σ H2 _ I2 q2) fun ws s3 ⟨zs, H3, I3, rz, l1, l2, q3⟩ => ⟨I3.kIn, ?_⟩
    rw [hks]
    exact run_fnKS (E := fun σ c d H => W c d σ H) (us := .ref aa :: us) (vs := .ref aa :: vs) F hr hb (tk σ) I3 (.cons rfl r) rz l1 l2 q3
end
end SL

/-! SL: new objects, stores by place, augmented stores, methods of lists. -/
namespace SL
open PySem PySem.Spec L2
open PyProof.Rows hiding St
section
variable {X : Cx} {W : WX} {a b c e o i value : Expr} {es rest : List Expr} {ma mb mc me mo mi mv : ME} {ms mk : MA} {p pos apos pos' tpos : Pos} {x m : Str} {k n j : Nat} {f C : Addr} {fd : FuncData} {ps ks : List Str} {φ : Fn} {dD : List D} {dvs : List V} {ds : List Value} {kws : List Keyword}
/-! ### C(..) -/
theorem run_makeSD {pins : List (Addr × Obj)} {σ : St} {H : Hp} {s : Shared} {Q : VK} {us : List Value} {vs : List V} {sp : Sp} {E : XK} {CX : CXT} (M : Mk X.K C f) (F : FnOk X.prog X.w X.K X.mg X.base CX k f fd ps sp) (hr : Room (k + 1) X.A) (hb : Binds X.K fd ps ds) (hd : Vals dvs ds)
    (hx : PassesAt CX X σ E) (I : Inv X pins σ H s) (r : Vals vs us)
    (h : ∀ x dx, H x = none → H dx = none → dx ≠ x → sp (.ref x :: (vs ++ dvs)) (upd (upd H dx (.own x)) x (.ins C dx [])) (fun v H2 => v = .non ∧ Q (.ref x) H2) E) :
    wpAny (model X.prog X.w) X.A (call (.ref C) us) (EP X pins σ Q) X.xe s := by
  have hq := h (s.heap.objs.size + 1) s.heap.objs.size (I.hok.fresh (Nat.le_succ _)) (I.hok.fresh (Nat.le_refl _)) (Nat.ne_of_lt (Nat.lt_succ_self _))
  have I2 := Inv.made (C := C) I
  have r2 : Vals (V.ref (s.heap.objs.size + 1) :: (vs ++ dvs)) (Value.ref (s.heap.objs.size + 1) :: (us ++ ds)) := .cons rfl (r.append hd)
  have hl : (Value.ref (s.heap.objs.size + 1) :: us ++ ds).length = ps.length := by
    have e := r2.length
    rw [F.len _ _ _ _ hq] at e
    exact e.symm
  refine wpAny_call (make_map (f := f) I.kIn M.makes M.init (beq_iff_eq.mp M.fn) (codeAny_mono (F.run _ X.stack _ _ ⟨Value.ref (s.heap.objs.size + 1) :: us, []⟩ (Value.ref (s.heap.objs.size + 1) :: (us ++ ds)) _ _ E (hr.make C us [])
    (I2.env0.make C us []) (hb _ (Value.ref (s.heap.objs.size + 1) :: us) I2.kIn hl) r2 hq) fun r s' hq' => ?_))
  cases r with
  | error e => exact hx pins _ _ e s' I2 hq'
  | ok fl =>
    cases fl with
    | ret u =>
      obtain ⟨v, H', I3, rv, ev, q3⟩ := I2.after hq'
      subst ev
      exact ⟨rv, ⟨V.ref (s.heap.objs.size + 1), H', I3, rfl, q3⟩⟩
    | next => exact False.elim hq'
    | brk => exact False.elim hq'
    | cont => exact False.elim hq'
def isNon : D → Bool
  | .non => true
  | _ => false
def mkM (C : Addr) (n : Nat) (φ : Fn) (xs : List D) (S1 : Store) : Res D := if (D.loc S1.length :: xs).length = n then (φ (.loc S1.length :: xs) (S1 ++ [.obj C [] []])).bind fun r S2 => if isNon r = true then .ok (.loc S1.length) S2 else .stuck else .stuck
/-- C(..), kept as an object of the store -/
def makeM (C : Addr) (n : Nat) (φ : Fn) (ms : MA) (dD : List D) : ME := fun δ S => (ms δ S).bind fun xs S1 => mkM C n φ (xs ++ dD) S1
/-- C(..), as it stands from then on -/
noncomputable def makeF (C : Addr) (n : Nat) (φ : Fn) (ms : MA) (dD : List D) : ME := fun δ S => (ms δ S).bind fun xs S1 => (mkM C n φ (xs ++ dD) S1).bind fun d S2 => finV S1 d S2
theorem mk_run {σ : St} {H : Hp} {ρ : List Addr} {S1 : Store} {xs : List D} {vs : List V} {Q : VK} (st : StS H S1 ρ) (r : Reps H ρ xs vs) (h : RunG W Rep σ H ρ (mkM C n φ xs S1) Q) (y dx : Addr) (hy : H y = none) (hdx : H dx = none) (ne : dx ≠ y) :
    spD n φ (.ref y :: vs) (upd (upd H dx (.own y)) y (.ins C dx [])) (fun v H2 => v = .non ∧ Q (.ref y) H2) (fun c dd H' => W c dd σ H') := by
  unfold mkM at h
  split at h
  · rename_i hl
    have hy' : upd H dx (.own y) y = none := by rw [upd_ne (Ne.symm ne)]; exact hy
    have n1 : Nx H ρ (upd H dx (.own y)) ρ := Nx.alloc hdx
    have n2 : Nx (upd H dx (.own y)) ρ (upd (upd H dx (.own y)) y (.ins C dx [])) (ρ ++ [y]) := Nx.push hy'
    have n12 := n1.trans n2
    have st2 : StS (upd (upd H dx (.own y)) y (.ins C dx [])) (S1 ++ [.obj C [] []]) (ρ ++ [y]) := (st.alloc hdx).push hy' ⟨dx, [], upd_same, rfl, Reps.nil⟩
    have hloc : (ρ ++ [y])[S1.length]? = some y := by rw [← st.len]; simp
    refine ⟨_, _, _, hl, st2, Reps.cons ⟨y, hloc, rfl⟩ (Reps.mono n12 _ _ r), ?_⟩
    cases e : φ (D.loc S1.length :: xs) (S1 ++ [.obj C [] []]) with
    | ok d S2 =>
      rw [e] at h
      simp only [bind_ok] at h
      split at h
      · rename_i hd
        intro v H' ρ' nn st' rv
        cases d with
        | non =>
          cases rv
          exact ⟨rfl, h (.ref y) H' ρ' (n12.trans nn) st' ⟨y, nn.at hloc, rfl⟩⟩
        | _ => cases hd
      · exact False.elim h
    | exc x S2 =>
      rw [e] at h
      exact fun c dd H' ρ' nn st' rx => h c dd H' ρ' (n12.trans nn) st' rx
    | stuck => rw [e] at h; exact False.elim h
  · exact False.elim h
theorem pd_makeD (M : Mk X.K C f) (F : FnOk X.prog X.w X.K X.mg X.base (L2.CX X.prog X.w) k f fd ps (spD n φ)) (hr : Room (k + 1) X.A) (hm : X.mg x = some (.ref C)) (hb : Binds X.K fd ps ds) (hd : Vals dvs ds) (hD : ∀ H ρ, Reps H ρ dD dvs) (tk : TkW X W)
    (ha : PA X (e :: es) (tA W ms)) (hg : Gl X x := by rfl) (hdb : (x == ("__debug__" : Str)) = false := by decide) (he : starEach (e :: es) X.env = (false, eval e X.env) :: starEach es X.env := by rfl) (hpl : (backTo pos (starEach es X.env)).any (·.1) = false := by rfl) :
    PE X (.Call (.Name x p) (e :: es) [] pos) (tE W (makeM C n φ ms dD)) := by
  refine ⟨fun pins s σ H Q I h => ?_⟩
  obtain ⟨δ, S, ρ, I', h⟩ := h
  refine wpAny_Call_Name_kw (ld_glob I hg hm ?_ hdb)
  refine PySem.W.callWith_K (h₀ := X.base) I.ok.mod.kin M.kp (thn (ha.run pos pins s σ H (fun vs H1 => ∀ y dx, H1 y = none → H1 dx = none → dx ≠ y → spD n φ (.ref y :: (vs ++ dvs)) (upd (upd H1 dx (.own y)) y (.ins C dx [])) (fun v H2 => v = .non ∧ Q (.ref y) H2) (fun c dd H' => W c dd σ H')) I ?_) fun us s1 ⟨vs, H1, I1, r, q⟩ => ⟨I1.kIn, ?_⟩) he hpl
  · refine bindG I' h fun xs vs S1 H1 ρ1 n1 I1 r1 h1 => ?_
    exact fun y dx hy hdx ne => mk_run I1.st (r1.append (hD _ _)) h1 y dx hy hdx ne
  · exact run_makeSD (E := fun c d H => W c d σ H) M F hr hb hd (tk σ) I1 r q
theorem pd_make (M : Mk X.K C f) (F : FnOk X.prog X.w X.K X.mg X.base (L2.CX X.prog X.w) k f fd ps (spD n φ)) (hr : Room (k + 1) X.A) (hm : X.mg x = some (.ref C)) (hb : Binds X.K fd ps []) (tk : TkW X W)
    (ha : PA X (e :: es) (tA W ms)) (hg : Gl X x := by rfl) (hdb : (x == ("__debug__" : Str)) = false := by decide) (he : starEach (e :: es) X.env = (false, eval e X.env) :: starEach es X.env := by rfl) (hpl : (backTo pos (starEach es X.env)).any (·.1) = false := by rfl) :
    PE X (.Call (.Name x p) (e :: es) [] pos) (tE W (makeM C n φ ms [])) := pd_makeD M F hr hm hb .nil (fun _ _ => Reps.nil) tk ha hg hdb he hpl
/-- what is made is let go as a tree -/
noncomputable def freezeM (me : ME) : ME := fun δ S => (me δ S).bind fun d S2 => finV S d S2
theorem pd_freeze (h : PE X e (tE W me)) : PE X e (tE W (freezeM me)) := PE.weak h fun σ H Q h => by
  obtain ⟨δ, S, ρ, I, h⟩ := h
  refine ⟨δ, S, ρ, I, ?_⟩
  unfold freezeM at h
  cases em : me δ S with
  | ok d S2 =>
    rw [em] at h
    exact fun v H' ρ' n st r => finV_run I.st h n st r
  | exc x S2 => rw [em] at h; exact h
  | stuck => rw [em] at h; exact h
/-! ### methods of lists of the store -/
def locL (S : Store) : D → Option (Nat × List D)
  | .loc n => match S[n]? with
    | some (.lst ds) => some (n, ds)
    | _ => none
  | _ => none
theorem locL_rep {H : Hp} {ρ : List Addr} {S : Store} {d : D} {v : V} {n : Nat} {ds : List D} (st : StS H S ρ) (r : Rep H ρ d v) (h : locL S d = some (n, ds)) : d = .loc n ∧ S[n]? = some (.lst ds) ∧ ∃ a vs, v = .ref a ∧ ρ[n]? = some a ∧ H a = some (.lst vs) ∧ Reps H ρ ds vs := by
  cases d with
  | loc m =>
    simp only [locL] at h
    split at h
    · rename_i es e
      cases h
      obtain ⟨a, ea, rfl⟩ := r
      obtain ⟨vs, h1, r1⟩ := st.cells _ a _ ea e
      exact ⟨rfl, e, a, vs, rfl, ea, h1, r1⟩
    · cases h
  | _ => cases h
/-- what a method makes of a list: its answer, the new list -/
def lmM (g : List D → List D → Option (D × List D)) (mo : ME) (ms : MA) : ME := fun δ S => (mo δ S).bind fun x S1 => match locL S1 x with
  | some _ => (ms δ S1).bind fun xs S2 => match locL S2 x with
    | some (n, ds) => match g ds xs with
      | some (d, es) => .ok d (S2.set n (.lst es))
      | none => .stuck
    | none => .stuck
  | none => .stuck
def LmSnd (r : V → List V → Hp → VK → Prop) (g : List D → List D → Option (D × List D)) : Prop := ∀ (H : Hp) (ρ : List Addr) (ds xs : List D) (d : D) (es : List D) (aa : Addr) (vs us : List V) (Q : VK), H aa = some (.lst vs) → Reps H ρ ds vs → Reps H ρ xs us → g ds xs = some (d, es) →
  (∀ v ws, Rep H ρ d v → Reps H ρ es ws → Q v (upd H aa (.lst ws))) → r (.ref aa) us H Q
theorem lm_run {r : V → List V → Hp → VK → Prop} {g : List D → List D → Option (D × List D)} (s : LmSnd r g) {σ : St} {H : Hp} {ρ : List Addr} {S2 : Store} {x : D} {v : V} {xs : List D} {us : List V} {Q : VK} {n : Nat} {ds : List D} (st : StS H S2 ρ) (rx : Rep H ρ x v) (ru : Reps H ρ xs us) (e : locL S2 x = some (n, ds))
    (h : RunG W Rep σ H ρ (match g ds xs with | some (d, es) => Res.ok d (S2.set n (.lst es)) | none => .stuck) Q) : r v us H Q := by
  obtain ⟨rfl, ec, aa, vs, rfl, ea, hH, rv⟩ := locL_rep st rx e
  split at h
  · rename_i d es eg
    refine s H ρ ds xs d es aa vs us Q hH rv ru eg fun w ws rw' rws => ?_
    have hm : aa ∈ ρ := List.mem_of_getElem? ea
    have nx : Nx H ρ (upd H aa (.lst ws)) ρ := Nx.set hm (by rw [hH]; simp)
    exact RunG.okN h nx (st.set ea ⟨ws, upd_same, Reps.mono nx _ _ rws⟩) (Rep.mono nx _ _ rw')
  · exact False.elim h
theorem pd_lm {name : Str} {id : String} {r : V → List V → Hp → VK → Prop} {g : List D → List D → Option (D × List D)} (slot : Slot "list" name id) (hty : typeOf (.builtin id) = pure (.type "method_descriptor")) (hm : MtR X id r) (s : LmSnd r g) (ho : PE X o (tE W mo)) (ha : PA X (e :: es) (tA W ms))
    (hbase : attributeBase o name X.env (eval o X.env) = eval o X.env := by rfl)
    (hfew : ((backTo pos (starEach (e :: es) X.env)).all (fun x => !x.1) && (backToKw pos (keywordEach [] X.env)).all (fun x => x.1.isSome)
      && decide ((e :: es).length + ([] : List Keyword).length + (if ([] : List Keyword).isEmpty then 0 else 1) < 30)) = true := by rfl)
    (hline : (apos.endLine == pos.line) = true := by rfl) (hs : starEach (e :: es) X.env = (false, eval e X.env) :: starEach es X.env := by rfl) (hplain : (backTo pos (starEach es X.env)).any (·.1) = false := by rfl) :
    PE X (.Call (.Attribute o name apos) (e :: es) [] pos) (tE W (lmM g mo ms)) := by
  refine PE.weak (pe_bm PySem.F.plainAttrs_list slot hty hm ho ha hbase hfew hline hs hplain) fun σ H Q h => ?_
  obtain ⟨δ, S, ρ, I, h⟩ := h
  refine bindG I h fun x v S1 H1 ρ1 n1 I1 r1 h1 => ?_
  split at h1
  · rename_i q eq
    obtain ⟨n0, ds0⟩ := q
    obtain ⟨rfl, ec, aa, vs, rfl, ea, hH, rv⟩ := locL_rep I1.st r1 eq
    refine ⟨.inl ⟨rfl, vs, .inl (.inl hH)⟩, ?_⟩
    refine bindG I1 h1 fun xs us S2 H2 ρ2 n2 I2 r2 h2 => ?_
    split at h2
    · rename_i n ds e2
      exact lm_run (W := W) s I2.st (Rep.mono n2 _ _ r1) r2 e2 h2
    · exact False.elim h2
  · exact False.elim h1
theorem pd_lm0 {name : Str} {id : String} {r : V → List V → Hp → VK → Prop} {g : List D → List D → Option (D × List D)} (slot : Slot "list" name id) (hty : typeOf (.builtin id) = pure (.type "method_descriptor")) (hm : MtR X id r) (s : LmSnd r g) (ho : PE X o (tE W mo))
    (hbase : attributeBase o name X.env (eval o X.env) = eval o X.env := by rfl) (hline : (apos.endLine == pos.line) = true := by rfl) :
    PE X (.Call (.Attribute o name apos) [] [] pos) (tE W (lmM g mo nilM)) := by
  refine PE.weak (pe_bm0 PySem.F.plainAttrs_list slot hty hm ho hbase hline) fun σ H Q h => ?_
  obtain ⟨δ, S, ρ, I, h⟩ := h
  refine bindG I h fun x v S1 H1 ρ1 n1 I1 r1 h1 => ?_
  split at h1
  · rename_i q eq
    obtain ⟨n0, ds0⟩ := q
    obtain ⟨rfl, ec, aa, vs, rfl, ea, hH, rv⟩ := locL_rep I1.st r1 eq
    refine ⟨.inl ⟨rfl, vs, .inl (.inl hH)⟩, ?_⟩
    simp only [nilM, bind_ok, eq] at h1
    exact lm_run (W := W) (xs := []) s I1.st r1 Reps.nil eq h1
  · exact False.elim h1
def appendG (ds xs : List D) : Option (D × List D) := match xs with
  | [x] => if ds.length < 1000000 then some (.non, ds ++ [x]) else none
  | _ => none
theorem snd_append : LmSnd rAppend appendG := by
  intro H ρ ds xs d es aa vs us Q hH r ru e k
  unfold appendG at e
  split at e
  · rename_i x
    split at e
    · rename_i hl
      cases e
      obtain ⟨v, ws, rfl, rx, rw'⟩ := ru
      cases rw'
      exact ⟨aa, vs, v, rfl, rfl, hH, by rw [← r.len]; exact Nat.lt_of_lt_of_le hl (by decide), k .non (vs ++ [v]) rfl (r.append (Reps.one rx))⟩
    · cases e
  · cases e
def popG (ds xs : List D) : Option (D × List D) := match xs with
  | [] => match ds[ds.length - 1]? with
    | some d => some (d, ds.dropLast)
    | none => none
  | _ => none
theorem Reps.dropLast {H : Hp} {ρ : List Addr} {ds : List D} {vs : List V} (r : Reps H ρ ds vs) : Reps H ρ ds.dropLast vs.dropLast := by
  rw [List.dropLast_eq_take, List.dropLast_eq_take, r.len]
  exact r.take _
theorem snd_pop : LmSnd rPop popG := by
  intro H ρ ds xs d es aa vs us Q hH r ru e k
  unfold popG at e
  split at e
  · split at e
    · rename_i d' ed
      cases e
      cases ru
      obtain ⟨v, ev, rv⟩ := Reps.getD r ed
      exact ⟨aa, vs, v, rfl, rfl, hH, by rw [← r.len]; exact ev, k v _ rv r.dropLast⟩
    · cases e
  · cases e
def popAtG (ds xs : List D) : Option (D × List D) := match xs with
  | [.int i] => if 0 ≤ i ∧ i < 1000000 then (match ds[i.toNat]? with
      | some d => some (d, ds.eraseIdx i.toNat)
      | none => none) else none
  | _ => none
theorem snd_popAt : LmSnd rPopAt popAtG := by
  intro H ρ ds xs d es aa vs us Q hH r ru e k
  unfold popAtG at e
  split at e
  · rename_i i
    split at e
    · rename_i hi
      split at e
      · rename_i d' ed
        cases e
        obtain ⟨u, ws, rfl, rx, rw'⟩ := ru
        cases rw'; cases rx
        obtain ⟨v, ev, rv⟩ := Reps.getD r ed
        have hl := (List.getElem?_eq_some_iff.mp ev).1
        have hx : ixN vs.length i = some i.toNat := by
          unfold ixN
          rw [if_pos hi.1, if_pos (by omega)]
        exact ⟨aa, vs, i, i.toNat, v, rfl, rfl, hH, by omega, by omega, (ixN_seq hx).1, ev, k v _ rv (r.eraseIdx _)⟩
      · cases e
    · cases e
  · cases e
/-! ### x[i] = e of a list of the store -/
def setG (ds : List D) (i d : D) : Option (List D) := match i with
  | .int k => match ixN ds.length k with
    | some j => some (ds.set j d)
    | none => none
  | _ => none
def setIM (mo mi mv : ME) : MS := fun δ S => bindS (mv δ S) δ fun d S1 => bindS (mo δ S1) δ fun x S2 => bindS (mi δ S2) δ fun y S3 => match locL S3 x with
  | some (n, ds) => match setG ds y d with
    | some es => .nx δ (S3.set n (.lst es))
    | none => .stuck
  | none => .stuck
theorem ps_dseti (ho : PE X o (tE W mo)) (hi : PE X i (tE W mi)) (hv : PE X value (tE W mv))
    (ha : ∀ v, assign (.Subscript o i pos') X.env v = (do
      let ov ← holding [v] (eval o X.env)
      let iv ← holding [v, ov] (eval i X.env)
      standAt pos'
      holding [v, ov, iv] (setItem ov iv v)
      release [v, ov, iv] []) := by intro _; rfl) (hs : swapsWithSole [.Subscript o i pos'] value pos.line X.env = pure false := by rfl) (hw : swappedStores [.Subscript o i pos'] value X.env = pure none := by rfl)
    (h1 : (assignEach [.Subscript o i pos'] X.env).map (·.2) = [assign (.Subscript o i pos') X.env] := by rfl) : PS X (.Assign [.Subscript o i pos'] value pos) (tS W (setIM mo mi mv)) :=
  PS.weak (ps_asg hv (pg_sub ho hi set_list ha) hs hw h1) fun G σ H h => by
    obtain ⟨δ, S, ρ, I, h⟩ := h
    refine bindGF I h fun d v S1 H1 ρ1 n1 I1 r1 h1 => ?_
    refine bindGF I1 h1 fun x u S2 H2 ρ2 n2 I2 r2 h2 => ?_
    refine bindGF I2 h2 fun y w S3 H3 ρ3 n3 I3 r3 h3 => ?_
    split at h3
    · rename_i n ds el
      obtain ⟨rfl, ec, aa, vs, rfl, ea, hH, rv⟩ := locL_rep I3.st (Rep.mono n3 _ _ r2) el
      unfold setG at h3
      split at h3
      · rename_i es eg
        split at eg
        · rename_i kk
          split at eg
          · rename_i jj ej
            cases eg
            cases r3
            have hm : aa ∈ ρ3 := List.mem_of_getElem? ea
            have rd := Rep.mono (n2.trans n3) _ _ r1
            have rs := Reps.set jj rv rd
            have nx : Nx H3 ρ3 (upd H3 aa (.lst (vs.set jj v))) ρ3 := Nx.set hm (by rw [hH]; simp)
            have st3 := I3.st.set (o := .lst (vs.set jj v)) (c := .lst (ds.set jj d)) ea ⟨_, upd_same, Reps.mono nx _ _ rs⟩
            exact ⟨aa, vs, kk, jj, rfl, rfl, hH, by rw [← rv.len]; exact ej, h3 σ _ ρ3 nx ⟨st3, I3.env.mono nx⟩⟩
          · cases eg
        · cases eg
      · exact False.elim h3
    · exact False.elim h3
/-! ### x op= e -/
def augM (i : Nat) (g : Store → D → D → Option D) (me : ME) : MS := fun δ S => match δ[i]? with
  | some (some x) => bindS (me δ S) δ fun y S1 => match g S1 x y with
    | some z => .nx (δ.set i (some z)) S1
    | none => .stuck
  | _ => .stuck
theorem ps_daug {op : Operator} {r : R2} {g : Store → D → D → Option D} (hN : X.N.Nodup) (hi : X.N[n]? = some x) (hx : Loc X.env.scope x) (hop : OpR X (inplaceOp op) r) (s : OpSnd r g) (he : PE X e (tE W me)) (hf : X.fn x = true ∨ X.env.scope.names.lookup x = some .local := by first | exact .inl rfl | exact .inr rfl | assumption) :
    PS X (.AugAssign (.Name x pos') op e pos) (tS W (augM n g me)) := PS.weak (ps_aug (ti := r) hN hi hx he (fun pins s σ H x y v u Q I rx ry h => hop pins s σ H x y v u Q I rx ry h) hf) fun G σ H h => by
  obtain ⟨δ, S, ρ, I, h⟩ := h
  unfold augM at h
  split at h
  · rename_i d ed
    obtain ⟨v, ev, rv⟩ := I.env.2 n d ed
    refine ⟨v, ev, ?_⟩
    refine bindGF I h fun y u S1 H1 ρ1 n1 I1 r1 h1 => ?_
    split at h1
    · rename_i z eg
      exact s H1 ρ1 S1 d y z v u _ I1.st (Rep.mono n1 _ _ rv) r1 eg fun w H' nn st rw' => h1 _ H' ρ1 nn ⟨st, (I1.env.mono nn).set n rw'⟩
    · exact False.elim h1
  · exact False.elim h
open Classical in
noncomputable def fldaugM (C : Addr) (fl : Str) (g : Store → D → D → Option D) (mo mv : ME) : MS := fun δ S => bindS (mo δ S) δ fun x S1 => match x with
  | .loc n => match S1[n]? with
    | some (.obj C' ns ds) => if C' = C then (match lookS ns ds fl with
        | some d => bindS (mv δ S1) δ fun y S2 => match S2[n]? with
          | some (.obj C2 ns2 ds2) => if C2 = C ∧ ns2.length < 1000 then (match g S2 d y with
              | some z => .nx δ (S2.set n (.obj C2 (putS ns2 ds2 fl z).1 (putS ns2 ds2 fl z).2))
              | none => .stuck) else .stuck
          | _ => .stuck
        | none => .stuck) else .stuck
    | _ => .stuck
  | _ => .stuck
theorem ps_dfldaug {op : Operator} {r : R2} {g : Store → D → D → Option D} (cl : Cls X.K C) (nf : NoAttr X.K C m) (hop : OpR X (inplaceOp op) r) (s : OpSnd r g) (ho : PE X o (tE W mo)) (hv : PE X value (tE W mv)) :
    PS X (.AugAssign (.Attribute o m tpos) op value pos) (tS W (fldaugM C m g mo mv)) := PS.weak (ps_fldaug (rd := r) ho hv (fun pins s σ H x y u v Q I rx ry h => hop pins s σ H x y u v Q I rx ry h)) fun G σ H h => by
  obtain ⟨δ, S, ρ, I, h⟩ := h
  refine bindGF I h fun x v S1 H1 ρ1 n1 I1 r1 h1 => ?_
  split at h1
  · rename_i n
    split at h1
    · rename_i C' ns ds ec
      split at h1
      · rename_i hC
        subst hC
        split at h1
        · rename_i d ed
          obtain ⟨aa, ea, rfl⟩ := r1
          obtain ⟨dx, vs, hH, l, rv⟩ := I1.st.cells n aa _ ea ec
          obtain ⟨w, ew, rw1⟩ := lookS_rep rv ed
          refine ⟨aa, C', dx, _, w, rfl, hH, cl, nf, by rw [lookup_zip]; exact ew, ?_⟩
          refine bindGF I1 h1 fun y u S2 H2 ρ2 n2 I2 r2 h2 => ?_
          split at h2
          · rename_i C2 ns2 ds2 ec2
            split at h2
            · rename_i hC2
              obtain ⟨rfl, hlen⟩ := hC2
              split at h2
              · rename_i z eg
                refine s H2 ρ2 S2 d y z w u _ I2.st (Rep.mono n2 _ _ rw1) r2 eg fun w3 H3 n3 st3 rw3 => ?_
                have ea3 := n3.at (n2.at ea)
                obtain ⟨dx3, vs3, hH3, l3, rv3⟩ := st3.cells n aa _ ea3 ec2
                have hm : aa ∈ ρ2 := List.mem_of_getElem? ea3
                obtain ⟨z1, z2⟩ := putS_zip (q := m) (x := w3) (ins_rep_len l3 rv3)
                obtain ⟨p1, p2⟩ := putS_rep (q := m) rw3 l3 rv3
                refine ⟨dx3, _, hH3, by rw [List.length_zip, ins_rep_len l3 rv3, Nat.min_self, ← ins_rep_len l3 rv3]; exact hlen, ?_⟩
                rw [z1]
                have nx : Nx H3 ρ2 (upd H3 aa (.ins C2 dx3 ((putS ns2 vs3 m w3).1.zip (putS ns2 vs3 m w3).2))) ρ2 := Nx.set hm (by rw [hH3]; simp)
                have st4 := st3.set (o := .ins C2 dx3 ((putS ns2 vs3 m w3).1.zip (putS ns2 vs3 m w3).2)) (c := .obj C2 (putS ns2 ds2 m z).1 (putS ns2 ds2 m z).2) ea3 ⟨dx3, _, by rw [upd_same, p1], putS_len l3, Reps.mono nx _ _ p2⟩
                exact h2 σ _ ρ2 (n3.trans nx) ⟨st4, (I2.env.mono n3).mono nx⟩
              · exact False.elim h2
            · exact False.elim h2
          · exact False.elim h2
        · exact False.elim h1
      · exact False.elim h1
    · exact False.elim h1
  · exact False.elim h1
end
end SL

/-! SL: own exceptions: their making, raise, try .. except X as e. -/
namespace SL
open PySem PySem.Spec L2
open PyProof.Rows hiding St
section
variable {X : Cx} {CX : CXT} {k : Nat} {f K0 : Addr} {fd : FuncData} {ps : List Str} {sp : Sp} {E : St → XK} {x m : Str} {p p2 pos : Pos} {e : Expr} {es : List Expr} {ta : TE} {t : TA}
/-- C0.m(self, ..), C0 a class of the module, m a def of it -/
theorem pe_clsfn {pl : Sem Bool} (F : FnOk X.prog X.w X.K X.mg X.base CX k f fd ps sp) (hr : Room k X.A) (hm : X.mg x = some (.ref K0)) (r : ClX.CRead X.K K0 (.type "type")) (cv : ClX.CVal X.K K0 (.type "type") m (.ref f) (.ref f)) (hk : PySem.W.keepIn X.K (.ref f) = true) (hb : Binds X.K fd ps []) (hx : ∀ σ, PassesAt CX X σ (E σ))
    (ha : PA X (e :: es) t) (hg : Gl X x := by rfl) (hdb : (x == ("__debug__" : Str)) = false := by decide)
    (he : starEach (e :: es) X.env = (false, eval e X.env) :: starEach es X.env := by rfl) (hpl : (backTo pos (starEach es X.env)).any (·.1) = false := by rfl)
    (hc : eval (.Call (.Attribute (.Name x p) m p2) (e :: es) [] pos) X.env = (do
      let ov ← eval (.Name x p) X.env
      standAt p2.atName
      let (f, first) ← holding [ov] (getMethod ov m pl)
      callWith pos f first (backTo pos (starEach (e :: es) X.env)) (backToKw pos (keywordEach [] X.env))) := by rfl) :
    PE X (.Call (.Attribute (.Name x p) m p2) (e :: es) [] pos) (tCallS sp E t) := by
  refine ⟨fun pins s σ H Q I h => ?_⟩
  refine PySem.W.methodCall_KW (ld_glob I hg hm ?_ hdb) hc
  refine PySem.W.method_cls I.kIn r.ga (ClX.getcval_ok I r cv fun s1 I1 => ?_)
  refine PySem.W.callWith_K (h₀ := X.base) (first := []) I1.ok.mod.kin hk (thn (ha.run pos pins s1 σ H _ I1 h) fun us s2 ⟨vs, H1, I2, r1, q⟩ => ⟨I2.kIn, ?_⟩) he hpl
  exact run_fnS F hr hb (hx σ) I2 r1 q
end
/-- an own exception's __init__: n further values, all fields put at once -/
def spI (K : PySem.W.Frag) (n : Nat) (fs : List Str) (g : List V → List V) : Sp := fun vs H Q E => ∃ a C ws, vs = .ref a :: ws ∧ ws.length = n ∧ OexC K C ∧ (∀ f ∈ fs, PySem.W.findIn K (.ref C) f = some none) ∧ H a = some (exo a C none) ∧
  ∀ dx, H dx = none → dx ≠ a → Q .non (upd (upd H dx (exd dx (fs.zip (g ws)))) a (exo a C (some dx)))
abbrev E00 : St → XK := fun _ _ _ _ => False
theorem passNo {P : Program} {w : World} {X : Cx} (σ : St) : PassesAt (L2.CX P w) X σ (E00 σ) := fun pins H s e s' I c => by
  obtain ⟨a, B, H', cls, d, _, _, _, _, _, _, _, h⟩ := c
  exact False.elim h
theorem passNoC {P : Program} {w : World} {X : Cx} : Passes (L2.CX P w) X (fun _ _ _ => False) := fun pins σ H s e s' I c => by
  obtain ⟨a, B, H', cls, d, _, _, _, _, _, _, _, h⟩ := c
  exact False.elim h
theorem upd_old {H : Hp} {a dx : Addr} {C : Addr} {fs gs : List (Str × V)} (h : dx ≠ a) : upd (upd (upd H dx (exd dx fs)) a (exo a C (some dx))) dx (exd dx gs) = upd (upd H dx (exd dx gs)) a (exo a C (some dx)) := by
  funext b
  by_cases hb : b = dx
  · subst hb
    rw [upd_same, upd_ne h, upd_same]
  · rw [upd_ne hb]
    by_cases hba : b = a
    · subst hba
      rw [upd_same, upd_same]
    · rw [upd_ne hba, upd_ne hb, upd_ne hba, upd_ne hb]
theorem upd_ob {H : Hp} {a dx : Addr} {o u : HO} (h : dx ≠ a) : (upd (upd H dx o) a u) a = some u ∧ (upd (upd H dx o) a u) dx = some o := ⟨upd_same, by rw [upd_ne h, upd_same]⟩
section
variable {P : Program} {w : World} {K : PySem.W.Frag} {mg : Str → Option Value} {base : Heap} {k n : Nat} {f : Addr} {fd : FuncData} {x qual : Str} {params : Arguments} {body : List Stmt} {scope : Scope} {dvs : List V} {kws : List (Str × V)} {N ps fs : List Str} {g : List V → List V} {t : TS}
theorem init_of (F : FunD K x qual params body scope dvs kws f fd) (S : FnScope N ps scope) (hn : ps.length = n + 1)
    (hb : ∀ (cdv : Value) (A : Around) (outer : List Env) (s : Shared) (H : Hp) (E : XK), Room k (A.deeper (envOfC qual scope s.heap.objs.size f cdv)) → PSs (cxOf (L2.CX P w) P w K mg base N qual scope f cdv A outer s H E) body t)
    (ht : ∀ vs H Q E, spI K n fs g vs H Q E → t { nx := fun _ H' => Q .non H', rt := Q } (L2.start N vs) H) : FnOk P w K mg base (L2.CX P w) (k + 1) f fd ps (spI K n fs g) :=
  FunD.ok F S (fun vs H Q E h => by
    obtain ⟨a, C, ws, rfl, hl, _⟩ := h
    simp [hl, hn]) (fun cdv A outer s H vs Q E hr h => ⟨t, hb cdv A outer s H E hr, ht vs H Q E h⟩)
end
section
variable {K : PySem.W.Frag} {fs0 : List Str} {g0 : List V → List V} {fl f1 f2 : Str} {vs : List V} {H : Hp} {Q : VK} {E : XK} {c : Str} {s1 s2 s3 : Str}
/-- B.__init__(self, word); self.f = word -/
theorem shapeR (h : spI K 1 [fl] (fun ws => ws) vs H Q E) : tSeq (tDrop (tVeI K (tCons (tVar 0) (tCons (tVar 1) tNil)))) (tOst K fl (tVar 0) (tVar 1)) { nx := fun _ H' => Q .non H', rt := Q } (L2.start [s1, s2] vs) H := by
  obtain ⟨a, C, ws, rfl, hl, T, hf, ha, q⟩ := h
  match ws, hl with
  | [w], _ =>
    refine ⟨_, rfl, _, rfl, a, C, [w], rfl, by simp, T, ha, ?_⟩
    exact ⟨_, rfl, _, rfl, a, C, rfl, T, hf fl (by simp), .inl ⟨ha, fun dx h1 h2 => q dx h1 h2⟩⟩
/-- B.__init__(self, 'c') -/
theorem shape0 (h : spI K 0 fs0 (fun _ => g0 [.str c]) vs H Q E) : tDrop (tCallS (spI K 1 fs0 g0) E00 (tCons (tVar 0) (tCons (tC (.str c)) tNil))) { nx := fun _ H' => Q .non H', rt := Q } (L2.start [s1] vs) H := by
  obtain ⟨a, C, ws, rfl, hl, T, hf, ha, q⟩ := h
  match ws, hl with
  | [], _ =>
    refine ⟨_, rfl, a, C, [.str c], rfl, rfl, T, hf, ha, fun dx h1 h2 => q dx h1 h2⟩
/-- B.__init__(self, 'c'); self.f = x -/
theorem shape1 (h : spI K 1 (f1 :: fs0) (fun ws => ws ++ g0 [.str c]) vs H Q E) (hlen : fs0.length ≤ 900) : tSeq (tDrop (tCallS (spI K 1 fs0 g0) E00 (tCons (tVar 0) (tCons (tC (.str c)) tNil)))) (tOst K f1 (tVar 0) (tVar 1)) { nx := fun _ H' => Q .non H', rt := Q } (L2.start [s1, s2] vs) H := by
  obtain ⟨a, C, ws, rfl, hl, T, hf, ha, q⟩ := h
  match ws, hl with
  | [w], _ =>
    refine ⟨_, rfl, a, C, [.str c], rfl, rfl, T, fun f hm => hf f (List.mem_cons_of_mem _ hm), ha, fun dx h1 h2 => ?_⟩
    obtain ⟨e1, e2⟩ := upd_ob (H := H) (o := exd dx (fs0.zip (g0 [.str c]))) (u := exo a C (some dx)) h2
    refine ⟨_, rfl, _, rfl, a, C, rfl, T, hf f1 (by simp), .inr ⟨dx, _, e1, e2, by rw [List.length_zip]; omega, ?_⟩⟩
    rw [upd_old h2]
    exact q dx h1 h2
/-- B.__init__(self, 'c'); self.f1 = x; self.f2 = y -/
theorem shape2 (h : spI K 2 (f2 :: f1 :: fs0) (fun ws => ws.reverse ++ g0 [.str c]) vs H Q E) (hlen : fs0.length ≤ 800) : tSeq (tDrop (tCallS (spI K 1 fs0 g0) E00 (tCons (tVar 0) (tCons (tC (.str c)) tNil)))) (tSeq (tOst K f1 (tVar 0) (tVar 1)) (tOst K f2 (tVar 0) (tVar 2))) { nx := fun _ H' => Q .non H', rt := Q } (L2.start [s1, s2, s3] vs) H := by
  obtain ⟨a, C, ws, rfl, hl, T, hf, ha, q⟩ := h
  match ws, hl with
  | [w, v], _ =>
    refine ⟨_, rfl, a, C, [.str c], rfl, rfl, T, fun f hm => hf f (List.mem_cons_of_mem _ (List.mem_cons_of_mem _ hm)), ha, fun dx h1 h2 => ?_⟩
    obtain ⟨e1, e2⟩ := upd_ob (H := H) (o := exd dx (fs0.zip (g0 [.str c]))) (u := exo a C (some dx)) h2
    refine ⟨_, rfl, _, rfl, a, C, rfl, T, hf f1 (by simp), .inr ⟨dx, _, e1, e2, by rw [List.length_zip]; omega, ?_⟩⟩
    rw [upd_old h2]
    obtain ⟨e3, e4⟩ := upd_ob (H := H) (o := exd dx ((f1, w) :: fs0.zip (g0 [.str c]))) (u := exo a C (some dx)) h2
    refine ⟨_, rfl, _, rfl, a, C, rfl, T, hf f2 (by simp), .inr ⟨dx, _, e3, e4, by simp only [List.length_cons, List.length_zip]; omega, ?_⟩⟩
    rw [upd_old h2]
    exact q dx h1 h2
end
/-! ### making -/
def PMD (X : Cx) (W : WX) (e : Expr) (mx : DEnv → Store → Res Ex) : Prop := PMk X e (fun σ H Q => ∃ δ S ρ, StE σ H δ S ρ ∧ RunG W RX σ H ρ (mx δ S) (fun p H' => Q p.1 p.2 H'))
def mkxM (C : Addr) (n : Nat) (fs : List Str) (gd : List D → List D) (ms : MA) : DEnv → Store → Res Ex := fun δ S => (ms δ S).bind fun xs S1 => if xs.length = n ∧ (gd xs).length = fs.length then .ok ⟨C, fs, gd xs⟩ S1 else .stuck
structure GRX (gd : List D → List D) (g : List V → List V) : Prop where
  rel : ∀ {H : Hp} {ρ : List Addr} {ds : List D} {vs : List V}, Reps H ρ ds vs → Reps H ρ (gd ds) (g vs)
theorem del_upd {H : Hp} {a d C : Addr} {o u z : HO} (h : d ≠ a) (ha : H a = none) : upd (L2.del (upd (upd (upd H a z) d o) a u) a) d (.xd fs) = upd H d (.xd fs) := by
  funext b
  by_cases hb : b = d
  · subst hb
    rw [upd_same, upd_same]
  · rw [upd_ne hb, upd_ne hb]
    by_cases hba : b = a
    · subst hba
      rw [del_same, ha]
    · rw [del_ne hba, upd_ne hba, upd_ne hb, upd_ne hba]
section
variable {X : Cx} {W : WX} {k n : Nat} {fI C : Addr} {fd : FuncData} {ps fs : List Str} {g : List V → List V} {gd : List D → List D} {x : Str} {p pos : Pos} {e : Expr} {es : List Expr} {ms : MA} {mx : DEnv → Store → Res Ex}
/-- what of the text an own exception class must have -/
structure OexI (K : PySem.W.Frag) (C fI : Addr) (fd : FuncData) (ps fs : List Str) : Prop where
  T : OexC K C
  iC : PySem.W.findIn K (.ref C) "__init__" = some (some (.ref fI))
  tI : PySem.W.typeIn K (.ref fI) = some (.type "function")
  hb : Binds K fd ps []
  hf : ∀ f ∈ fs, PySem.W.findIn K (.ref C) f = some none
theorem mk_sem (J : OexI X.K C fI fd ps fs) (gr : GRX gd g) {σ : St} {H1 : Hp} {ρ1 : List Addr} {S1 : Store} {xs : List D} {vs : List V} {Q : XK} (st : StS H1 S1 ρ1) (r : Reps H1 ρ1 xs vs) (hn : n ≤ 1000)
    (h : RunG W RX σ H1 ρ1 (if xs.length = n ∧ (gd xs).length = fs.length then Res.ok (⟨C, fs, gd xs⟩ : Ex) S1 else .stuck) (fun p H' => Q p.1 p.2 H')) :
    vs.length ≤ 1000 ∧ ∀ a, H1 a = none → spI X.K n fs g (.ref a :: (vs ++ [])) (upd H1 a (exo a C none)) (fun v H2 => v = .non ∧ ∃ (d : Addr) (gs : List (Str × V)), H2 a = some (exo a C (some d)) ∧ H2 d = some (exd d gs) ∧ H1 d = none ∧ Q (.ref C) (some d) (upd (L2.del H2 a) d (.xd gs))) (fun _ _ _ => False) := by
  split at h
  · rename_i hl
    have e := r.len
    refine ⟨by omega, fun a ha => ⟨a, C, _, rfl, by simp only [List.append_nil]; omega, J.T, J.hf, upd_same, fun dx h1 h2 => ⟨rfl, dx, _, upd_same, by rw [upd_ne h2, upd_same], by rw [upd_ne h2] at h1; exact h1, ?_⟩⟩⟩
    rw [upd_ne h2] at h1
    rw [del_upd (C := C) h2 ha, List.append_nil]
    have nx : Nx H1 ρ1 (upd H1 dx (.xd (fs.zip (g vs)))) ρ1 := Nx.alloc h1
    exact h (.ref C, some dx) _ ρ1 nx (st.alloc h1) ⟨rfl, dx, g vs, rfl, upd_same, fun z => st.trk z h1, hl.2.symm, Reps.mono nx _ _ (gr.rel r)⟩
  · exact False.elim h
theorem pmd_mk (J : OexI X.K C fI fd ps fs) (gr : GRX gd g) (F1 : FnOk X.prog X.w X.K X.mg X.base (L2.CX X.prog X.w) k fI fd ps (spI X.K n fs g)) (hr : Room (k + 1) X.A) (hm : X.mg x = some (.ref C)) (ha : PA X (e :: es) (tA W ms)) (hn : n ≤ 1000 := by decide) (hg : Gl X x := by rfl)
    (hdb : (x == ("__debug__" : Str)) = false := by decide) (he : starEach (e :: es) X.env = (false, eval e X.env) :: starEach es X.env := by rfl) (hpl : (backTo pos (starEach es X.env)).any (·.1) = false := by rfl) :
    PMD X W (.Call (.Name x p) (e :: es) [] pos) (mkxM C n fs gd ms) := by
  intro pins s σ H Q I h
  refine pmk_oex J.T J.iC J.tI F1 hr J.hb .nil passNoC hg hm ha hdb he hpl pins s σ H Q I ?_
  obtain ⟨δ, S, ρ, I', h⟩ := h
  refine bindG (R2 := RX) I' h fun xs vs S1 H1 ρ1 n1 I1 r1 h1 => ?_
  exact mk_sem J gr I1.st r1 hn h1
theorem pmk_oex0 {CX : CXT} {sp : Sp} {ds : List Value} {dvs : List V} (T : OexC X.K C) (iC : PySem.W.findIn X.K (.ref C) "__init__" = some (some (.ref fI))) (tI : PySem.W.typeIn X.K (.ref fI) = some (.type "function"))
    (F1 : FnOk X.prog X.w X.K X.mg X.base CX k fI fd ps sp) (hr : Room (k + 1) X.A) (hb : Binds X.K fd ps ds) (hd : Vals dvs ds) (hx : Passes CX X (fun _ _ _ => False)) (hg : Gl X x) (hm : X.mg x = some (.ref C))
    (hdb : (x == ("__debug__" : Str)) = false := by decide) :
    PMk X (.Call (.Name x p) [] [] pos) (tMkO C sp dvs tNil) := by
  intro pins s σ H Q I h
  obtain ⟨nm, q, N, bs, bm, sn, sub, ab, col, dd, k0, k1, k2, k3, k5, hC, hbm⟩ := T.cls
  refine wpAny_Call_Name_kw (ld_glob I hg hm ?_ hdb)
  refine PySem.W.callWith_K0 I.kIn T.kC ?_
  obtain ⟨hz, q1⟩ := h
  show wpAny _ _ (call (.ref C) []) _ _ _
  obtain ⟨hp, g, dr, tk, os⟩ := s
  have hsz : hp.objs.size ≤ hp.objs.size + 1 := Nat.le_succ _
  have hn : H (hp.objs.size + 1) = none := I.hok.fresh hsz
  have hq := q1 (hp.objs.size + 1) hn
  have kk : ∀ b o, hp.get? b = some o → ((hp.push (PySem.W.kdv_tup [])).push (PySem.HandSPX.excO C hp.objs.size)).get? b = some o := fun b o e => Heap.get?_push_of_some _ (Heap.get?_push_of_some _ e)
  have hget : ((hp.push (PySem.W.kdv_tup [])).push (PySem.HandSPX.excO C hp.objs.size)).get? (hp.objs.size + 1) = some (PySem.HandSPX.excO C hp.objs.size) := by heap_get
  have I2 : Inv X pins σ (upd H (hp.objs.size + 1) (exo (hp.objs.size + 1) C none)) ⟨(hp.push (PySem.W.kdv_tup [])).push (PySem.HandSPX.excO C hp.objs.size), g, dr, tk, os⟩ :=
    I.laid (t' := tk) (a := hp.objs.size + 1) (o := exo (hp.objs.size + 1) C none) (h' := (hp.push (PySem.W.kdv_tup [])).push (PySem.HandSPX.excO C hp.objs.size)) kk hsz (exo_ok hget)
  have r2 : Vals (V.ref (hp.objs.size + 1) :: dvs) (Value.ref (hp.objs.size + 1) :: ds) := .cons rfl hd
  have hq' : sp (V.ref (hp.objs.size + 1) :: dvs) _ _ _ := hq
  have hb' : BindsTo ⟨(hp.push (PySem.W.kdv_tup [])).push (PySem.HandSPX.excO C hp.objs.size), g, dr, tk, os⟩ fd ⟨[Value.ref (hp.objs.size + 1)], []⟩ (ps.zip (Value.ref (hp.objs.size + 1) :: ds)) := hb _ [Value.ref (hp.objs.size + 1)] I2.kIn (by
    have e := r2.length
    rw [F1.len _ _ _ _ hq'] at e
    exact e.symm)
  have hl : (Value.ref (hp.objs.size + 1) :: ds).length = ps.length := by
    have e := r2.length
    rw [F1.len _ _ _ _ hq'] at e
    exact e.symm
  refine wpAny_call (PySem.HandSPX.call_own F.excBase_ValueError (fun Y => PySem.HandSPX.refsVE_contains Y bm hbm) (I.kIn _ _ hC) (PySem.W.looks_findIn I.kIn iC) (fun self => PySem.W.bind_fn I.kIn self tI) (by rw [sizeLine_eq]; simp)
    (codeAny_mono (F1.run _ X.stack _ _ ⟨[Value.ref (hp.objs.size + 1)], []⟩ (Value.ref (hp.objs.size + 1) :: ds) _ _ (fun _ _ _ => False) (hr.make C [] []) (I2.env0.make C [] []) hb' r2 hq') fun r s' hq2 => ?_))
  cases r with
  | error er => exact hx pins σ _ _ er s' I2 hq2
  | ok fl =>
    cases fl with
    | ret u =>
      obtain ⟨v, H2, os2, bare2, un2, hok2, rv, ev, d, fs, ea, ed, hd1, q2⟩ := hq2
      subst ev
      obtain ⟨h2, g2, d2, t2, os'⟩ := s'
      exact ⟨rv, mk_end (raises_own T.exC T.tyC) I hsz kk un2 hok2 os2 bare2 ea ed hd1 q2⟩
    | next => exact False.elim hq2
    | brk => exact False.elim hq2
    | cont => exact False.elim hq2
theorem pmd_mk0 (J : OexI X.K C fI fd ps fs) (gr : GRX gd g) (F1 : FnOk X.prog X.w X.K X.mg X.base (L2.CX X.prog X.w) k fI fd ps (spI X.K 0 fs g)) (hr : Room (k + 1) X.A) (hm : X.mg x = some (.ref C)) (hg : Gl X x := by rfl)
    (hdb : (x == ("__debug__" : Str)) = false := by decide) :
    PMD X W (.Call (.Name x p) [] [] pos) (mkxM C 0 fs gd nilM) := by
  intro pins s σ H Q I h
  refine pmk_oex0 J.T J.iC J.tI F1 hr J.hb .nil passNoC hg hm hdb pins s σ H Q I ?_
  obtain ⟨δ, S, ρ, I', h⟩ := h
  exact mk_sem (n := 0) (xs := []) (vs := []) (W := W) (σ := σ) J gr I'.st Reps.nil (by decide) h
/-! ### raise -/
def raiseM (mx : DEnv → Store → Res Ex) : MS := fun δ S => match mx δ S with
  | .ok x S1 => .exc x δ S1
  | .exc x S1 => .exc x δ S1
  | .stuck => .stuck
theorem ps_draise (hc : X.calm = true) (tk : Takes X W) (h : PMD X W e mx) : PS X (.Raise (some e) none pos) (tS W (raiseM mx)) := PS.weak (ps_raise hc tk h) fun G σ H h => by
  obtain ⟨δ, S, ρ, I, h⟩ := h
  refine ⟨δ, S, ρ, I, ?_⟩
  unfold raiseM at h
  cases em : mx δ S with
  | ok x S1 =>
    rw [em] at h
    exact fun p H' ρ' n st r => h p.1 p.2 σ H' ρ' n (I.next n st) r
  | exc x S1 =>
    rw [em] at h
    exact fun c dd H' ρ' n st r => h c dd σ H' ρ' n (I.next n st) r
  | stuck => rw [em] at h; exact h
/-- a statement that is never run -/
theorem ps_dstuck {st : Stmt} : PS X st (tS W fun _ _ => .stuck) := ⟨fun pins s σ H D I ⟨_, _, _, _, h⟩ => False.elim h⟩
theorem pss_dstuck {st : List Stmt} : PSs X st (tS W fun _ _ => .stuck) := ⟨fun pins s σ H D I ⟨_, _, _, _, h⟩ => False.elim h⟩
theorem pd_stuck : PE X e (tE W fun _ _ => .stuck) := ⟨fun pins s σ H Q I ⟨_, _, _, _, h⟩ => False.elim h⟩
/-! ### try .. except X as e -/
/-- e.f of the exception at hand -/
def xfM (a dd : Addr) (f : Str) (me : ME) : ME := fun δ S => (me δ S).bind fun x S1 => match x with
  | .exn a' d' ns ds => if a' = a ∧ d' = dd then RO (lookS ns ds f) S1 else .stuck
  | _ => .stuck
theorem pd_xf {a dd : Addr} {oe : Obj} {pn : List (Addr × Obj)} {m : Str} {me : ME} (T : XfC X.K C) (hno : PySem.W.findIn X.K (.ref C) m = some none) (hz : Zc (.ref C) (some dd) oe) (hf : ∃ vs, oe.data = .fields vs)
    (he : PE (X.suite a ((a, oe) :: pn)) e (tE W me)) (hb : attributeBase e m X.env (eval e X.env) = eval e X.env := by rfl) : PE (X.suite a ((a, oe) :: pn)) (.Attribute e m pos) (tE W (xfM a dd m me)) := PE.weak (pe_xf T hno hz hf he hb) fun σ H Q h => by
  obtain ⟨δ, S, ρ, I, h⟩ := h
  refine bindG I h fun x v S1 H1 ρ1 n1 I1 r1 h1 => ?_
  split at h1
  · rename_i a' d' ns ds
    split at h1
    · rename_i hc
      obtain ⟨rfl, rfl⟩ := hc
      obtain ⟨z, e, kk⟩ := h1.ro
      obtain ⟨vs, rfl, hH, nd, l, r⟩ := r1
      obtain ⟨u, eu, ru⟩ := lookS_rep r e
      exact ⟨rfl, rfl, d', _, u, rfl, hH, by rw [lookup_zip]; exact eu, kk u H1 ρ1 (Nx.refl _ _) I1.st ru⟩
    · exact False.elim h1
  · exact False.elim h1
/-- the slot of the exception's name goes -/
def goneF (i : Nat) : Flw → Flw
  | .nx δ S => .nx (δ.set i none) S
  | .bk δ S => .bk (δ.set i none) S
  | .ct δ S => .ct (δ.set i none) S
  | .rt d S => .rt d S
  | _ => .stuck
def tryM (ct : Addr → Option Bool) (i : Nat) (hm : Addr → Addr → MS) (mb : MS) : MS := fun δ S => match mb δ S with
  | .exc x δ1 S1 => match ct x.C with
    | some true => goneF i (hm 0 0 (δ1.set i (some (.exn 0 0 x.ns x.ds))) S1)
    | some false => .exc x δ1 S1
    | none => .stuck
  | r => r
theorem ps_dtry {i : Nat} {c : Value} {ct : Addr → Option Bool} {body suite : List Stmt} {b₀ : Stmt} {np pos' : Pos} {nm : Str} {mb : MS} {hm : Addr → Addr → MS} (hs : X.stack = X.env :: X.outer) (hf : X.env.frame = some X.env.locals) (hN : X.N.Nodup) (hi : X.N[i]? = some nm) (hln : X.env.kindOf nm = some .local) (hc : Names X x c) (tk : Takes X W)
    (hct : ∀ C b, ct C = some b → PySem.W.exmOne X.K (.ref C) c = some b)
    (hb : ∀ (W : WX) (pn : List (Addr × Obj)) (xe : Value → Shared → Prop), Takes (X.tr pn xe) W → PassesOwn (model X.prog X.w) X.A X.env xe → PSs (X.tr pn xe) body (tS W mb))
    (hsu : ∀ (a : Addr) (oe : Obj) (C dd : Addr) (pn : List (Addr × Obj)), ct C = some true → Zc (.ref C) (some dd) oe → (∃ vs, oe.data = .fields vs) → PSs (X.suite a ((a, oe) :: pn)) (b₀ :: suite) (tS W0 (hm a dd)))
    (hin : ∀ (a dd : Addr) (ns : List Str) (ds : List D) (δ : DEnv) (S : Store), goneF i (hm a dd (δ.set i (some (.exn a dd ns ds))) S) = goneF i (hm 0 0 (δ.set i (some (.exn 0 0 ns ds))) S)) :
    PS X (.Try body [.ExceptHandler (some (.Name x np)) (some nm) (b₀ :: suite) pos'] [] [] pos) (tS W (tryM ct i hm mb)) := by
  refine PS.weak (ps_try_as (Wout := W) (tb := fun W => tS W mb) (ts := fun a cls d => fun D σ H => ∃ C dd, cls = .ref C ∧ d = some dd ∧ ct C = some true ∧ tS W0 (hm a dd) D σ H) hs hf hN hi hln hc tk hb (fun a oe cls d pn hz hfl => ⟨fun pins s σ H D I h => ?_⟩)) fun G σ H h => ?_
  · obtain ⟨C, dd, rfl, rfl, hC, h⟩ := h
    exact (hsu a oe C dd pn hC hz hfl).run pins s σ H D I h
  · obtain ⟨δ, S, ρ, I, h⟩ := h
    refine ⟨δ, S, ρ, I, ?_⟩
    unfold tryM at h
    cases em : mb δ S with
    | nx δ S => rw [em] at h; exact h
    | bk δ S => rw [em] at h; exact h
    | ct δ S => rw [em] at h; exact h
    | rt d S => rw [em] at h; exact h
    | stuck => rw [em] at h; exact h
    | exc y δ1 S1 =>
      rw [em] at h
      simp only at h
      intro cls d σ' H' ρ' n1 I1 r
      obtain ⟨rfl, dd, vs, rfl, hH, nd, l, rv⟩ := r
      cases ec : ct y.C with
      | none => rw [ec] at h; exact False.elim h
      | some b =>
        refine ⟨b, hct _ _ ec, fun hb1 a na => ?_, fun hb1 => ?_⟩
        · subst hb1
          rw [ec] at h
          simp only at h
          rw [← hin a dd] at h
          refine ⟨y.C, dd, rfl, rfl, ec, δ1.set i (some (.exn a dd y.ns y.ds)), S1, ρ', ⟨I1.st, I1.env.set i ⟨vs, rfl, hH, nd, l, rv⟩⟩, ?_⟩
          cases eh : hm a dd (δ1.set i (some (.exn a dd y.ns y.ds))) S1 with
          | nx δ2 S2 => rw [eh] at h; exact fun σ2 H2 ρ2 n2 I2 => h _ H2 ρ2 (n1.trans n2) ⟨I2.st, I2.env.unset i⟩
          | bk δ2 S2 => rw [eh] at h; exact fun σ2 H2 ρ2 n2 I2 => h _ H2 ρ2 (n1.trans n2) ⟨I2.st, I2.env.unset i⟩
          | ct δ2 S2 => rw [eh] at h; exact fun σ2 H2 ρ2 n2 I2 => h _ H2 ρ2 (n1.trans n2) ⟨I2.st, I2.env.unset i⟩
          | rt d S2 => rw [eh] at h; exact fun v H2 ρ2 n2 st r2 => h v H2 ρ2 (n1.trans n2) st r2
          | exc z δ2 S2 => rw [eh] at h; exact False.elim h
          | stuck => rw [eh] at h; exact h
        · subst hb1
          rw [ec] at h
          exact h (.ref y.C) (some dd) σ' H' ρ' n1 I1 ⟨rfl, dd, vs, rfl, hH, nd, l, rv⟩
theorem takes_fn {P : Program} {w : World} {K : PySem.W.Frag} {mg : Str → Option Value} {base : Heap} {N : List Str} {qual : Str} {scope : Scope} {f : Addr} {cd : Value} {A : Around} {outer : List Env} {s : Shared} {H : Hp} {E : XK} : Takes (cxOf (L2.CX P w) P w K mg base N qual scope f cd A outer s H E) (fun cls d _ H => E cls d H) := takes_of rfl rfl rfl rfl
end
end SL

/-! SL: facts off the head, small things for what is printed. -/
namespace SL
open PySem PySem.Spec L2
open PyProof.Rows hiding St
def clsDef (s : Stmt) (j : Nat) : Stmt := match s with
  | .ClassDef _ _ _ b _ _ _ _ _ _ _ => b.getD j (.Pass ⟨0, 0, 0, 0⟩)
  | _ => .Pass ⟨0, 0, 0, 0⟩
section
variable {K : PySem.W.Frag} {C f : Addr}
/-- an own exception class over ValueError, with own inits -/
def oexB (K : PySem.W.Frag) (C : Addr) : Bool := (match K.lookup C with
  | some ⟨.type "type", _, .cls cd, sl⟩ => (match cd.mro, sl.toList with
    | .ref C' :: bm, [_, _, _, _, some (.builtin n), _] => C' == C && n == "ValueError.__new__" && !cd.hasDel && cd.hasDict && PySem.HandSPX.refsVE bm
    | _, _ => false)
  | _ => false) && (decide (PySem.W.findIn K (.ref C) "__setattr__" = some (some (.builtin "object.__setattr__"))) && (decide (PySem.W.subIn K (.ref C) (.type "BaseException") = some true) && (decide (PySem.W.typeIn K (.ref C) = some (.type "type")) && PySem.W.keepIn K (.ref C))))
theorem oexB_ok (h : oexB K C = true) : OexC K C := by
  obtain ⟨h1, h⟩ := Bool.and_eq_true_iff.mp h
  obtain ⟨h2, h⟩ := Bool.and_eq_true_iff.mp h
  obtain ⟨h3, h⟩ := Bool.and_eq_true_iff.mp h
  obtain ⟨h4, h5⟩ := Bool.and_eq_true_iff.mp h
  refine ⟨?_, of_decide_eq_true h2, of_decide_eq_true h3, of_decide_eq_true h4, h5⟩
  split at h1
  · rename_i dd cd sl ho
    split at h1
    · rename_i C' bm k0 k1 k2 k3 n k5 hm hs
      simp only [Bool.and_eq_true, beq_iff_eq, Bool.not_eq_true'] at h1
      obtain ⟨⟨⟨⟨rfl, rfl⟩, hdel⟩, hdc⟩, hr⟩ := h1
      obtain ⟨nm, bs, mro, ns, qn, hd, sn, sub, ab, col, del⟩ := cd
      dsimp only at hm hdel hdc
      subst hm hdel hdc
      have hsl : sl = #[k0, k1, k2, k3, some (.builtin "ValueError.__new__"), k5] := by
        obtain ⟨l⟩ := sl
        simp only at hs
        rw [hs]
      subst hsl
      exact ⟨nm, qn, ns, bs, bm, sn, sub, ab, col, dd, k0, k1, k2, k3, k5, ho, hr⟩
    · cases h1
  · cases h1
/-- its init, its fields -/
def oexIB (K : PySem.W.Frag) (C fI : Addr) (fs : List Str) : Bool := oexB K C && (decide (PySem.W.findIn K (.ref C) "__init__" = some (some (.ref fI))) && (decide (PySem.W.typeIn K (.ref fI) = some (.type "function")) && fs.all fun f => decide (PySem.W.findIn K (.ref C) f = some none)))
theorem oexIB_ok {fI : Addr} {fs ps : List Str} {fd : FuncData} (h : oexIB K C fI fs = true) (hb : Binds K fd ps []) : OexI K C fI fd ps fs := by
  obtain ⟨h1, h⟩ := Bool.and_eq_true_iff.mp h
  obtain ⟨h2, h⟩ := Bool.and_eq_true_iff.mp h
  obtain ⟨h3, h4⟩ := Bool.and_eq_true_iff.mp h
  exact ⟨oexB_ok h1, of_decide_eq_true h2, of_decide_eq_true h3, hb, fun f hf => of_decide_eq_true (List.all_eq_true.mp h4 f hf)⟩
def crB (K : PySem.W.Frag) (C f : Addr) : Bool := PySem.W.readsIn K C (.type "type") && (decide (PySem.W.specialIn K (.ref C) "__getattribute__" = some (some (.builtin "type.__getattribute__"))) && (match PySem.W.findCls K (.ref C) (.type "type") "__init__" with
  | some (.val (.ref g)) => decide (g = f)
  | _ => false))
theorem crB_ok (h : crB K C f = true) : ClX.CRead K C (.type "type") ∧ ClX.CVal K C (.type "type") "__init__" (.ref f) (.ref f) := by
  obtain ⟨h1, h⟩ := Bool.and_eq_true_iff.mp h
  obtain ⟨h2, h3⟩ := Bool.and_eq_true_iff.mp h
  refine ⟨⟨h1, of_decide_eq_true h2⟩, ⟨?_, rfl⟩⟩
  split at h3
  · rename_i g e
    rw [e, of_decide_eq_true h3]
  · cases h3
def veiB (K : PySem.W.Frag) : Bool := match PySem.W.findCls K (.type "ValueError") (.type "type") "__init__" with
  | some (.val (.builtin n)) => decide (n = "ValueError.__init__")
  | _ => false
theorem veiB_ok (h : veiB K = true) : PySem.W.findCls K (.type "ValueError") (.type "type") "__init__" = some (.val (.builtin "ValueError.__init__")) := by
  unfold veiB at h
  split at h
  · rename_i n e
    rw [e, of_decide_eq_true h]
  · cases h
/-- what an except clause asks of the classes at hand: (class, whether the clause takes it) -/
def ctOf (l : List (Addr × Bool)) (C : Addr) : Option Bool := l.lookup C
def ctB (K : PySem.W.Frag) (c : Addr) (l : List (Addr × Bool)) : Bool := l.all fun p => decide (PySem.W.exmOne K (.ref p.1) (.ref c) = some p.2)
theorem mem_of_look : ∀ {l : List (Addr × Bool)} {a : Addr} {b : Bool}, l.lookup a = some b → (a, b) ∈ l
  | [], _, _, h => by cases h
  | (x, y) :: r, a, b, h => by
    rw [List.lookup_cons] at h
    by_cases e : a = x
    · subst e
      simp at h
      subst h
      exact List.mem_cons_self
    · have : (a == x) = false := by simpa using e
      rw [this] at h
      exact List.mem_cons_of_mem _ (mem_of_look h)
theorem ctB_ok {c : Addr} {l : List (Addr × Bool)} (h : ctB K c l = true) : ∀ C b, ctOf l C = some b → PySem.W.exmOne K (.ref C) (.ref c) = some b := fun C b e => of_decide_eq_true (List.all_eq_true.mp h (C, b) (mem_of_look e))
/-- .. and to read a field of what was taken -/
def xfAll (K : PySem.W.Frag) (l : List (Addr × Bool)) (fs : List Str) : Bool := l.all fun p => !p.2 || (xfB K p.1 && fs.all fun f => decide (PySem.W.findIn K (.ref p.1) f = some none))
theorem xfAll_ok {l : List (Addr × Bool)} {fs : List Str} (h : xfAll K l fs = true) : ∀ C, ctOf l C = some true → XfC K C ∧ ∀ f ∈ fs, PySem.W.findIn K (.ref C) f = some none := fun C e => by
  have := List.all_eq_true.mp h (C, true) (mem_of_look e)
  simp only [Bool.not_true, Bool.false_or] at this
  obtain ⟨h1, h2⟩ := Bool.and_eq_true_iff.mp this
  exact ⟨xfB_ok h1, fun f hf => of_decide_eq_true (List.all_eq_true.mp h2 f hf)⟩
end
section
variable {P : Program} {w : World} {K : PySem.W.Frag} {mg : Str → Option Value} {base : Heap} {k : Nat} {f : Addr} {fd : FuncData} {ps : List Str}
def stuckF : Fn := fun _ _ => .stuck
/-- of a def that is never called nothing need be known -/
theorem FnD.stuck : FnD P w K mg base k f fd ps stuckF := ⟨fun vs H Q E ⟨ds, S, ρ, _, _, _, h⟩ => False.elim h, fun A outer s H args us vs Q E hr he hb hv ⟨ds, S, ρ, _, _, _, h⟩ => False.elim h⟩
theorem FnD.up {φ : Fn} {j : Nat} (F : FnD P w K mg base j f fd ps φ) (h : j ≤ k) : FnD P w K mg base k f fd ps φ := FnOk.mono F h
end
/-! ### keyword-only parameters: those not given -/
theorem gr_end {dD : List D} {dV : List V} (h : ∀ H ρ, Reps H ρ dD dV) : GRel (fun ds es => ds ++ es ++ dD) (fun vs zs => vs ++ zs ++ dV) := ⟨fun r1 r2 => (r1.append r2).append (h _ _)⟩
theorem gr_mid {dD : List D} {dV : List V} (h : ∀ H ρ, Reps H ρ dD dV) : GRel (fun ds es => ds ++ dD ++ es) (fun vs zs => vs ++ dV ++ zs) := ⟨fun r1 r2 => (r1.append (h _ _)).append r2⟩
/-! ### blocks of comprehensions, checked -/
def blkB (N : List Str) (sc scope : Scope) (own : List (Str × Nat)) : Bool := decide (scope.kind = .function) && (decide (∀ y ∈ scope.names, scope.names.lookup y.1 = some y.2) && (decide (∀ p ∈ own, N[p.2]? = some p.1) &&
  (decide (∀ y ∈ scope.names, y.2 = .free → sc.names.lookup y.1 = some .cell ∨ sc.names.lookup y.1 = some .free) && decide (∀ y ∈ scope.names, y.2 = .local ∨ y.2 = .cell → y.1 ∈ own.map (·.1) ∨ y.1 ∉ N))))
theorem blk_of {N N' : List Str} {sc sc' scope : Scope} {own : List (Str × Nat)} (h : blkB N sc scope own = true) (hN : N' = N) (hs : sc' = sc) : BlkOk N' sc' scope own := by
  subst hN hs
  obtain ⟨h1, h⟩ := Bool.and_eq_true_iff.mp h
  obtain ⟨h2, h⟩ := Bool.and_eq_true_iff.mp h
  obtain ⟨h3, h⟩ := Bool.and_eq_true_iff.mp h
  obtain ⟨h4, h5⟩ := Bool.and_eq_true_iff.mp h
  exact ⟨of_decide_eq_true h1, of_decide_eq_true h2, of_decide_eq_true h3, of_decide_eq_true h4, of_decide_eq_true h5⟩
theorem set_out {δ : DEnv} {i j : Nat} (h : i ≠ j) (x y z : Option D) : ((δ.set i x).set j y).set i z = (δ.set j y).set i z := by
  rw [List.set_comm _ _ h, List.set_set]
/-! ### x += i -/
def addI (_ : Store) (x y : D) : Option D := match x, y with
  | .int i, .int j => some (.int (i + j))
  | _, _ => none
theorem snd_addI : OpSnd (rI0 fun i j => .int (i + j)) addI := by
  intro H ρ S x y z v u Q st rx ry e k
  unfold addI at e
  split at e
  · cases e; cases rx; cases ry
    exact ⟨_, _, rfl, rfl, k.now st rfl⟩
  · cases e
end SL

/-! SL: the laws' drawing: its start off the script. -/
namespace SL
open PySem PySem.Spec L2
open PyProof.Rows hiding St
def seedF (s c : Int) : Int := (s * 48271 + c % 1000003 + 17) % 2147483647
def seedOf (ns : List Int) : Int := ns.foldl seedF 9458
def drawS (ns : List Int) (i w s c : Int) : Cell := .lst [.lst (ns.map D.int), .int i, .int w, .int s, .int c]
def spStart (K : PySem.W.Frag) : Sp := fun vs H Q E => ∃ a ns, vs = [.ref a] ∧ SqL K H a (ns.map V.int) ∧ ns.length ≤ 63 ∧ ∀ p H', Nx H [] H' [p] → StS H' [drawS ns 0 0 (seedOf ns) 0] [p] → Q (.ref p) H'
abbrev tScr (K : PySem.W.Frag) : TE := L2.tSl (rSlL K) (tVar 0) tNoPart (tPart (tC (.int 63)))
abbrev rPl : R2 := rI0 fun i j => .int (i + j)
abbrev rMo : R2 := rI (fun _ j => 0 < j) fun i j => .int (i % j)
abbrev rMu : R2 := rI CMul fun i j => .int (i * j)
abbrev rLo (K : PySem.W.Frag) : List V → Hp → VK → Prop := fun xs H Q => ∃ p ys, xs = [.ref p] ∧ (SqL K H p ys ∨ SqT K H p ys) ∧ ∀ l, H l = none → Q (.ref l) (upd H l (.lst ys))
def tStart (K : PySem.W.Frag) : TS := tSeq (tAsg (tC (.int 9458)) (gName 1)) (tSeq (tFor (iList K (tScr K)) (gName 2) (tAsg (tOp rMo (tOp rPl (tOp rPl (tOp rMu (tVar 1) (tC (.int 48271))) (tOp rMo (tVar 2) (tC (.int 1000003)))) (tC (.int 17))) (tC (.int 2147483647))) (gName 1)))
  (tRet (tLst (tCons (tCB (rLo K) (tCons (tScr K) L2.tNil)) (tCons (tC (.int 0)) (tCons (tC (.int 0)) (tCons (tVar 1) (tCons (tC (.int 0)) L2.tNil))))))))
theorem cut63 {xs : List V} (h : xs.length ≤ 63) : cutV xs none (some 63) = xs := by
  unfold cutV
  rw [HT.sIx_none, show (63 : Int) = ((63 : Nat) : Int) from rfl, HT.sIx_nat, List.drop_zero, List.take_of_length_le]
  omega
theorem SqL.up {K : PySem.W.Frag} {H : Hp} {a p : Addr} {xs : List V} {o : HO} (h : SqL K H a xs) (hp : H p = none) : SqL K (upd H p o) a xs := by
  rcases h with (h | ⟨ob, h⟩) | h
  · exact .inl (.inl (by rw [upd_ne (ne_of_none h hp)]; exact h))
  · exact .inl (.inr ⟨ob, by rw [upd_ne (ne_of_none h hp)]; exact h⟩)
  · exact .inr h
theorem ints_reps {H : Hp} {ρ : List Addr} : ∀ ns : List Int, Reps H ρ (ns.map D.int) (ns.map V.int)
  | [] => rfl
  | n :: ns => ⟨_, _, rfl, rfl, ints_reps ns⟩
theorem start_sem {K : PySem.W.Frag} {s0 s1 s2 : Str} {vs : List V} {H : Hp} {Q : VK} {E : XK} (h : spStart K vs H Q E) : tStart K { nx := fun _ H' => Q .non H', rt := Q } (L2.start [s0, s1, s2] vs) H := by
  obtain ⟨a, ns, rfl, hs, hl, q⟩ := h
  have hc : cutV (ns.map V.int) none (some 63) = ns.map V.int := cut63 (by simpa using hl)
  show tScr K _ _ _
  refine ⟨_, rfl, 63, rfl, a, _, rfl, hs, fun p hp => ⟨p, rfl, ⟨_, .inl (.inl upd_same)⟩, ?_⟩⟩
  rw [hc]
  have hp' : SqL K (upd H p (.lst (ns.map V.int))) p (ns.map V.int) := .inl (.inl upd_same)
  refine ⟨fun i m σ H' => ∃ v, σ = [some (.ref a), some (.int ((ns.take i).foldl seedF 9458)), v] ∧ H' = upd H p (.lst (ns.map V.int)) ∧ m = ns.length - i, ⟨_, _, rfl, rfl, rfl⟩, ?_⟩
  rintro i m σ H' ⟨v, rfl, rfl, rfl⟩
  cases e : ns[i]? with
  | none =>
    have hi := List.getElem?_eq_none_iff.mp e
    refine .inl ⟨⟨_, hp', by simpa using hi⟩, ?_⟩
    rw [List.take_of_length_le hi]
    show tScr K _ _ _
    refine ⟨_, rfl, 63, rfl, a, _, rfl, SqL.up hs hp, fun p2 h2 => ?_⟩
    rw [hc]
    refine ⟨p2, _, rfl, .inl (.inl (.inl upd_same)), fun l hl' => ?_⟩
    refine ⟨_, rfl, by rw [sizeLine_eq]; simp, fun p3 h3 => ?_⟩
    have n1 : Nx H [] (upd H p (.lst (ns.map V.int))) [] := Nx.alloc hp
    have n2 := n1.trans (Nx.alloc (o := .lst (ns.map V.int)) h2)
    have n3 := n2.trans (Nx.alloc (o := .lst (ns.map V.int)) hl')
    have n4 := n3.trans (Nx.push (o := .lst [.ref l, .int 0, .int 0, .int (seedOf ns), .int 0]) h3)
    refine q p3 _ n4 ⟨rfl, by simp, fun n b c e1 e2 => ?_⟩
    match n with
    | 0 =>
      cases e1; cases e2
      refine ⟨_, upd_same, _, _, rfl, ⟨l, _, rfl, ?_, ?_, ints_reps ns⟩, _, _, rfl, rfl, _, _, rfl, rfl, _, _, rfl, rfl, _, _, rfl, rfl, rfl⟩
      · rw [upd_ne (fun z => ?_), upd_same]
        rw [← z, upd_same] at h3
        cases h3
      · intro z
        rw [List.mem_singleton] at z
        rw [← z, upd_same] at h3
        cases h3
    | n + 1 => cases e1
  | some c =>
    have hi := (List.getElem?_eq_some_iff.mp e).1
    refine .inr ⟨⟨_, _, hp', by rw [List.getElem?_map, e]; rfl⟩, fun σ' H' => ∃ v, σ' = [some (.ref a), some (.int ((ns.take (i + 1)).foldl seedF 9458)), v] ∧ H' = upd H p (.lst (ns.map V.int)), fun σ' H' ⟨v, h1, h2⟩ => ⟨_, Nat.sub_lt_sub_left hi (Nat.lt_succ_self i), v, h1, h2, rfl⟩, ?_⟩
    rintro x H' ⟨rfl, f⟩
    have hx := f _ hp'
    rw [List.getElem?_map, e] at hx
    cases hx
    refine ⟨_, rfl, _, _, rfl, rfl, .inr (by decide), _, rfl, _, _, rfl, rfl, (by decide : (0:Int) < 1000003), _, _, rfl, rfl, _, _, rfl, rfl, _, _, rfl, rfl, (by decide : (0:Int) < 2147483647), ?_⟩
    refine ⟨some (.int c), ?_, rfl⟩
    · have et : ns.take (i + 1) = ns.take i ++ [c] := by rw [List.take_add_one, e]; rfl
      rw [et, List.foldl_append]
      rfl
section
variable {P : Program} {w : World} {K : PySem.W.Frag} {mg : Str → Option Value} {base : Heap} {k : Nat} {f fS : Addr} {fd fdS : FuncData} {qual x : Str} {params : Arguments} {body : List Stmt} {scope : Scope} {kws : List (Str × V)} {N ps psS : List Str} {m : MS} {s0 s1 s2 : Str}
theorem start_ok (F : FunD K x qual params body scope [] kws f fd) (S : FnScope [s0, s1, s2] [s0] scope)
    (hb : ∀ (cdv : Value) (A : Around) (outer : List Env) (s : Shared) (H : Hp) (E : XK), Room k (A.deeper (envOfC qual scope s.heap.objs.size f cdv)) →
      PSs (cxOf (L2.CX P w) P w K mg base [s0, s1, s2] qual scope f cdv A outer s H E) body (tStart K)) : FnOk P w K mg base (L2.CX P w) (k + 1) f fd [s0] (spStart K) :=
  FunD.ok F S (fun vs H Q E h => by
    obtain ⟨a, ns, rfl, _⟩ := h
    rfl) (fun cdv A outer s H vs Q E hr h => ⟨_, hb cdv A outer s H E hr, start_sem h⟩)
/-- a law: from its drawing's start on it comes to True -/
def spLaw (K : PySem.W.Frag) (n : Nat) (m : MS) : Sp := fun vs H Q E => ∃ a ns, vs = [.ref a] ∧ SqL K H a (ns.map V.int) ∧ ns.length ≤ 63 ∧ (∃ S', m (none :: some (.loc 0) :: List.replicate n none) [drawS ns 0 0 (seedOf ns) 0] = .rt (.bl true) S') ∧ ∀ H', Q (.bl true) H'
theorem law_ok (F : FunD K x qual params body scope [] kws f fd) (S : FnScope N [s0] scope) {st : Stmt} {rest : List Stmt} {n : Nat} (hbody : body = st :: rest) (hN : N.length = n + 2)
    (hb1 : ∀ (cdv : Value) (A : Around) (outer : List Env) (s : Shared) (H : Hp) (E : XK), Room k (A.deeper (envOfC qual scope s.heap.objs.size f cdv)) →
      PS (cxOf (L2.CX P w) P w K mg base N qual scope f cdv A outer s H E) st (tAsg (tCallS (spStart K) E00 (tCons (tVar 0) L2.tNil)) (gName 1)))
    (hb : ∀ (cdv : Value) (A : Around) (outer : List Env) (s : Shared) (H : Hp) (E : XK), Room k (A.deeper (envOfC qual scope s.heap.objs.size f cdv)) →
      PSs (cxOf (L2.CX P w) P w K mg base N qual scope f cdv A outer s H E) rest (tS (fun c dd _ H' => E c dd H') m)) : FnOk P w K mg base (L2.CX P w) (k + 1) f fd [s0] (spLaw K n m) := by
  subst hbody
  refine FunD.ok F S (fun vs H Q E h => ?_) (fun cdv A outer s H vs Q E hr h => ⟨_, pss_cons (hb1 cdv A outer s H E hr) (hb cdv A outer s H E hr), ?_⟩)
  · obtain ⟨a, ns, rfl, _⟩ := h
    rfl
  · obtain ⟨a, ns, rfl, hs, hl, ⟨S', hm⟩, q⟩ := h
    have hst : L2.start N [V.ref a] = some (.ref a) :: List.replicate (n + 1) none := by
      unfold L2.start
      rw [hN]
      rfl
    rw [hst]
    refine ⟨_, rfl, a, ns, rfl, hs, hl, fun p H' nx st => ?_⟩
    refine ⟨none :: some (.loc 0) :: List.replicate n none, _, [p], ⟨st, ?_, ?_⟩, ?_⟩
    · simp [List.replicate_succ]
    · intro i d e
      match i with
      | 0 => cases e
      | 1 =>
        cases e
        exact ⟨.ref p, by simp [List.replicate_succ], p, rfl, rfl⟩
      | i + 2 =>
        have e' : (List.replicate n (none : Option SL.D))[i]? = some (some d) := e
        rw [List.getElem?_replicate] at e'
        split at e' <;> cases e'
    · rw [hm]
      intro v H2 ρ2 n2 st2 r
      cases r
      exact q H2
end
end SL
namespace SL
open PySem PySem.Spec L2
open PyProof.Rows hiding St
/-! ### a Hook that sees some further objects of the boot -/
section
variable {fa : List He.Fa} {fn : List He.DefD} {ex : PySem.W.Frag → Bool}
structure SaysY (fa : List He.Fa) (fn : List He.DefD) (ex : PySem.W.Frag → Bool) (K : PySem.W.Frag) : Prop where
  d : He.SaysD fa fn K
  more : ex K = true
def frY (n : Nat) (xs : List Addr) (g : Addr → Option Obj) : PySem.W.Frag := He.frT g (He.asD g n ++ xs)
def obsY (n : Nat) (xs : List Addr) (fa : List He.Fa) (fn : List He.DefD) (ex : PySem.W.Frag → Bool) (g : Addr → Option Obj) : He.AlD × Bool := (He.obsD fa fn (frY n xs g), ex (frY n xs g))
def hookY (n : Nat) (xs : List Addr) (fa : List He.Fa) (fn : List He.DefD) (ex : PySem.W.Frag → Bool) : PySem.W.Hook where
  α := He.AlD × Bool
  obs := fun s => obsY n xs fa fn ex s.heap.get?
  val := fun _ => (He.valD fn, true)
  says := fun _ h => ∃ K : PySem.W.Frag, K.In h ∧ SaysY fa fn ex K
  of := fun _ _ e => ⟨_, He.frT_in, ⟨congrArg Prod.fst e, congrArg Prod.snd e⟩⟩
  keeps := fun _ _ _ ⟨K, hK, c⟩ k => ⟨K, PySem.W.Frag.In.keeps hK k, c⟩
theorem obsY_eq {n : Nat} {xs : List Addr} {g : Addr → Option Obj} {s : Shared} (h : ∀ a, g a = s.heap.get? a) : obsY n xs fa fn ex g = (hookY n xs fa fn ex).obs s := by
  have e : g = s.heap.get? := funext h
  rw [e] <;> rfl
end
end SL
namespace SL
open PySem PySem.Spec L2
open PyProof.Rows hiding St
/-- a law lets nothing out -/
theorem no_out {P : Program} {w : World} {K : PySem.W.Frag} {mg : Str → Option Value} {base : Heap} {k : Nat} {f : Addr} {fd : FuncData} {ps : List Str} {sp : Sp} (F : FnOk P w K mg base (L2.CX P w) k f fd ps sp)
    (h : ∀ vs H Q E, sp vs H Q E → sp vs H Q (fun _ _ _ => False)) : FnOk P w K mg base CX0 k f fd ps sp := ⟨F.len, fun A outer s H args us vs Q E hr he hb hv hs => codeAny_mono (F.run A outer s H args us vs Q (fun _ _ _ => False) hr he hb hv (h _ _ _ _ hs)) fun r s' q => by
    cases r with
    | error e =>
      obtain ⟨a, B, H', cls, d, _, _, _, _, _, _, _, z⟩ := q
      exact False.elim z
    | ok fl => cases fl <;> exact q⟩
end SL

/-! SL: a, *b = a tuple. -/
namespace SL
open PySem PySem.Spec L2
open PyProof.Rows hiding St
/-- a walk from its k-th turn on -/
theorem walks_shift {prog : Program} {w : World} {A : Around} {I : Addr} {fp wr : List Addr} {G : Array GenState → Array GenState → Prop} {n : Nat} {P : Nat → Value → Prop} {St : Nat → Shared → Prop} (W : WalksS prog w A I fp wr G n P St) (k : Nat) (hk : k ≤ n) :
    WalksS prog w A I fp wr G (n - k) (fun i => P (k + i)) (fun i => St (k + i)) where
  sub := W.sub
  grefl := W.grefl
  gtrans := W.gtrans
  frame := fun i => W.frame (k + i)
  item := fun i s Q E hi st hQ => W.item (k + i) s Q E (by omega) st fun v s' h1 h2 h3 => hQ v s' h1 h2 h3
  done := fun s Q E st hQ => W.done s Q E (by rw [show k + (n - k) = n by omega] at st; exact st) hQ
  self := fun i => W.self (k + i)
section
variable {prog : Program} {w : World} {A : Around} {E : Value → Shared → Prop} {s : Shared}
theorem unpackItems_star {t : Addr} {items : Array Value} {n k : Nat} {Q : List Value → Shared → Prop} (hh : A.handled = none) (ht : IsTup s.heap t items) (hn : n = k + 1) (hk : k ≤ items.size) (hz : items.size ≤ sizeLine)
    (hQ : ∀ (h' : Heap) (tk' : Nat), (∀ b o, s.heap.get? b = some o → h'.get? b = some o) → Q (items.toList.take k ++ [.ref h'.objs.size]) { s with heap := h'.push { cls := .type "list", data := .seq (items.toList.drop k).toArray }, toks := tk' }) :
    wpAny (model prog w) A (unpackItems (.ref t) n (some k)) Q E s := by
  have hlt : t ≠ s.heap.objs.size := by obtain ⟨o, ho, _⟩ := ht; exact Nat.ne_of_lt (Heap.lt_size ho)
  unfold unpackItems
  refine wpAny_bind ?_
  unfold notIterableAtAll
  refine wpAny_bind (wpAny_specialOf ht.typeIs slot_tuple_iter.lookup ?_)
  refine wpAny_pure ?_
  simp only [Bool.false_eq_true, if_false]
  refine wpAny_bind (wpAny_holding (iter_tuple ht ?_))
  refine wpAny_bind (wpAny_holding (draw_tuple hlt k 0 _ _ ⟨_, Heap.get?_push_size _ rfl, rfl, rfl⟩ (ht.push _) (by omega) fun h₁ hit₁ hs₁ => ?_))
  have hlen : ((items.toList.drop 0).take k).length = k := by
    rw [List.drop_zero, List.length_take, Array.length_toList]
    omega
  rw [if_neg (by rw [hlen]; omega)]
  have ht₁ : IsTup h₁ t items := (ht.push _).extBut hs₁.extBut hlt
  rw [Nat.zero_add] at hit₁
  have W := walks_shift (Walks.tuple (prog := prog) (w := w) (A := A.in1) hh s.heap.objs.size t hlt items).toS k hk
  have hz1 : items.size - k ≤ sizeLine := Nat.le_trans (Nat.sub_le _ _) hz
  have hsz1 : s.heap.objs.size + 1 ≤ h₁.objs.size := by
    obtain ⟨o, ho, _⟩ := hit₁
    exact Heap.lt_size ho
  refine wpAny_bind (wpAny_holding (wpAny_collect_iter (T := "tuple_iterator") (.inr (.inr (.inr rfl))) W (fun i s st => by
    obtain ⟨o, ho, hc, _⟩ := st.1
    exact ⟨o, ho, hc⟩) (show _ ∧ _ from ⟨hit₁, ht₁⟩) (fun b hb => ?_) (by simp) (fun s' acc hm hacc => ?_) hz1))
  · show b < h₁.objs.size
    rcases List.mem_cons.mp hb with e | hb
    · rw [e]; exact hsz1
    · obtain ⟨o, ho, _⟩ := ht₁
      rw [List.mem_singleton.mp hb]
      exact Heap.lt_size ho
  · have hacl : acc.toList = items.toList.drop k := by
      apply List.ext_getElem?
      intro j
      rw [Array.getElem?_toList, List.getElem?_drop, Array.getElem?_toList]
      by_cases hj : j < items.size - k
      · have hj2 : j < acc.size := by rw [hacc.1]; exact hj
        have e := hacc.2 j acc[j] (by simp [hj2])
        rw [e]
        simp [hj2]
      · rw [Array.getElem?_eq_none (by rw [hacc.1]; omega), Array.getElem?_eq_none (by omega)]
    have hnn : n - 1 - k = 0 := by omega
    rw [hnn, if_neg (by omega)]
    show wpAny _ _ (newList _ >>= _) _ _ _
    unfold newList
    have e1 : List.take (acc.toList.length - 0) acc.toList = items.toList.drop k := by rw [Nat.sub_zero, List.take_length, hacl]
    have e2 : List.drop (acc.toList.length - 0) acc.toList = [] := by rw [Nat.sub_zero, List.drop_length]
    rw [e1, e2]
    refine wpAny_bind (wpAny_newObj_type ?_ ?_)
    rotate_left
    · show (items.toList.drop k).toArray.size ≤ sizeLine
      rw [List.size_toArray, List.length_drop, Array.length_toList]
      exact hz1
    refine wpAny_pure ?_
    rw [List.append_nil, List.drop_zero]
    have keep : ∀ b o, s.heap.get? b = some o → s'.heap.get? b = some o := fun b o e => by
      have hb : b ≠ s.heap.objs.size := Nat.ne_of_lt (Heap.lt_size e)
      exact hm.heap b o (by simp [hb]) (hs₁.extBut b o hb (Heap.get?_push_of_some _ e))
    have hs' : s' = { s with heap := s'.heap, toks := s'.toks } := by
      have := Moved.eq_with hm
      rw [this]
    rw [hs']
    exact hQ _ _ keep
theorem assign_star {env : Env} {elts : List Expr} {x1 k : Nat} {pos : Pos} {t : Addr} {items : Array Value} {Q : Unit → Shared → Prop} (hh : A.handled = none) (ht : IsTup s.heap t items) (hz : items.size ≤ sizeLine) (hk : k ≤ items.size)
    (hn : (assignEach elts env).length = k + 1) (hstar : (assignEach elts env).findIdx? (·.1) = some k)
    (h : ∀ (h' : Heap) (tk' : Nat), (∀ b o, s.heap.get? b = some o → h'.get? b = some o) → wpAny (model prog w) A (assignInOrder ((assignEach elts env).map (·.2)) (items.toList.take k ++ [.ref h'.objs.size])) Q E { s with heap := h'.push { cls := .type "list", data := .seq (items.toList.drop k).toArray }, toks := tk' }) :
    wpAny (model prog w) A (assign (.Tuple elts x1 pos) env (.ref t)) Q E s := by
  rw [assign_Tuple]
  refine wpAny_bind (wpAny_standAt ?_)
  unfold unpack
  rw [hn, hstar]
  exact wpAny_bind (wpAny_holding (unpackItems_star hh ht rfl hk hz h))
end
/-- (a, .., *z) = a tuple -/
def gStar (K : PySem.W.Frag) (k : Nat) (t : TGs) : TG := fun v σ H Q => ∃ a xs, v = .ref a ∧ SqT K H a xs ∧ k ≤ xs.length ∧ ∀ l, H l = none → t (xs.take k ++ [.ref l]) σ (upd H l (.lst (xs.drop k))) Q
section
variable {X : Cx} {W : WX} {es : List Expr} {e : Expr} {t : TGs} {k x1 : Nat} {pos pos' : Pos} {me : ME}
theorem vals_take : ∀ {vs : List V} {us : List Value} (n : Nat), Vals vs us → Vals (vs.take n) (us.take n)
  | _, _, 0, _ => .nil
  | _, _, n + 1, .nil => .nil
  | _, _, n + 1, .cons r rs => .cons r (vals_take n rs)
theorem vals_drop : ∀ {vs : List V} {us : List Value} (n : Nat), Vals vs us → Vals (vs.drop n) (us.drop n)
  | _, _, 0, h => h
  | _, _, n + 1, .nil => .nil
  | _, _, n + 1, .cons r rs => vals_drop n rs
theorem vals_app : ∀ {vs vs2 : List V} {us us2 : List Value}, Vals vs us → Vals vs2 us2 → Vals (vs ++ vs2) (us ++ us2)
  | _, _, _, _, .nil, h => h
  | _, _, _, _, .cons r rs, h => .cons r (vals_app rs h)
theorem pg_star (hc : X.calm = true) (h : PGs X es t) (hn : (assignEach es X.env).length = k + 1 := by rfl) (hst : (assignEach es X.env).findIdx? (·.1) = some k := by rfl) : PG X (.Tuple es x1 pos) (gStar X.K k t) := by
  refine ⟨fun pins s σ H v u Q I r hw => ?_⟩
  obtain ⟨a, xs, e1, hq, hl, hw⟩ := hw
  subst e1
  cases r
  obtain ⟨its, rv, ht, hz⟩ := I.tuple hq
  have hlen := rv.length
  refine assign_star (I.ok.hd hc) ht (by rw [List.size_toArray, ← hlen]; exact hz) (by rw [List.size_toArray, ← hlen]; exact hl) hn hst fun h' tk' hk => ?_
  have I1 : Inv X pins σ H { s with heap := h' } := I.kept (t' := s.toks) hk
  have hf : H h'.objs.size = none := I1.hok.fresh (Nat.le_refl _)
  have I2 : Inv X pins σ (upd H h'.objs.size (.lst (xs.drop k))) { s with heap := h'.push { cls := .type "list", data := .seq (its.drop k).toArray }, toks := tk' } :=
    I1.laid (t' := tk') (fun b u e => Heap.get?_push_of_some _ e) (Nat.le_refl _) (show ObjOk X.prog X.w _ _ _ (.lst (xs.drop k)) from ⟨by rw [List.length_drop]; exact Nat.le_trans (Nat.sub_le _ _) hz, its.drop k, 0, vals_drop k rv, Heap.get?_push_size _ rfl⟩)
  have := h.run pins _ σ _ (xs.take k ++ [.ref h'.objs.size]) (its.take k ++ [.ref h'.objs.size]) Q I2 (vals_app (vals_take k rv) (.cons (show RelV (.ref _) (.ref _) from rfl) .nil)) (hw _ hf)
  exact this
theorem pgs_dstar {tgt : Expr} {tg : Tg} (h1 : PG X tgt (gD tg)) (hs : (assignEach [.Starred tgt pos] X.env).map (·.2) = [assign tgt X.env] := by rfl) (hs0 : (assignEach [tgt] X.env).map (·.2) = assign tgt X.env :: (assignEach [] X.env).map (·.2) := by rfl) : PGs X [.Starred tgt pos] (gsD [tg]) := by
  have h2 := pgs_dcons h1 pgs_dnil hs0
  refine ⟨fun pins s σ H v u Q I r q => ?_⟩
  have := h2.run pins s σ H v u Q I r q
  rw [hs0] at this
  rw [hs]
  exact this
def asgS (tgs : List Tg) (k : Nat) (me : ME) : MS := fun δ S => bindS (me δ S) δ fun d S1 => match d with
  | .tup ds => if k ≤ ds.length then (match bindTs tgs (ds.take k ++ [.lst (ds.drop k)]) δ with
      | some δ1 => .nx δ1 S1
      | none => .stuck) else .stuck
  | _ => .stuck
theorem ps_dstar {tgs : List Tg} (hc : X.calm = true) (he : PE X e (tE W me)) (hg : PGs X es (gsD tgs)) (hn : (assignEach es X.env).length = k + 1 := by rfl) (hst : (assignEach es X.env).findIdx? (·.1) = some k := by rfl)
    (hs : swapsWithSole [.Tuple es x1 pos'] e pos.line X.env = pure false := by rfl) (hw : swappedStores [.Tuple es x1 pos'] e X.env = pure none := by rfl) (h1 : (assignEach [.Tuple es x1 pos'] X.env).map (·.2) = [assign (.Tuple es x1 pos') X.env] := by rfl) :
    PS X (.Assign [.Tuple es x1 pos'] e pos) (tS W (asgS tgs k me)) := PS.weak (ps_asg he (pg_star hc hg hn hst) hs hw h1) fun G σ H h => by
  obtain ⟨δ, S, ρ, I, h⟩ := h
  refine bindGF I h fun d v S1 H1 ρ1 n1 I1 r1 h1 => ?_
  split at h1
  · rename_i ds
    split at h1
    · rename_i hk
      split at h1
      · rename_i δ1 eb
        obtain ⟨a, vs, rfl, hH, na, r⟩ := r1
        refine ⟨a, vs, rfl, .inl (.inl hH), by rw [← r.len]; exact hk, fun l hl => ?_⟩
        have nx : Nx H1 ρ1 (upd H1 l (.lst (vs.drop k))) ρ1 := Nx.alloc hl
        have r' := Reps.mono nx _ _ r
        refine ⟨_, δ, S1, ρ1, δ1, I1.next nx (I1.st.alloc hl), (r'.take k).append (Reps.one (show Rep _ _ (.lst (ds.drop k)) _ from ⟨l, _, rfl, upd_same, fun z => I1.st.trk z hl, r'.drop k⟩)), eb, fun σ' I' _ => h1 σ' _ ρ1 nx I'⟩
      · exact False.elim h1
    · exact False.elim h1
  · exact False.elim h1
end
end SL

/-! SL: f-texts; list of a text. -/
namespace SL
open PySem PySem.Spec L2
open PyProof.Rows hiding St
section
variable {X : Cx} {W : WX} {e v1 v2 : Expr} {es rest : List Expr} {me : ME} {ms : List ME} {pos : Pos}
def fmtG (d : D) : Option D := match d with
  | .str l => if l.length ≤ 1000000 then some (.str l) else none
  | .int i => if i.natAbs.log2 < 1920 then some (.str (strI i)) else none
  | _ => none
def fmtM (me : ME) : ME := fun δ S => (me δ S).bind fun d S1 => RO (fmtG d) S1
theorem pd_fmt (h : PE X e (tE W me)) : PE X (.FormattedValue e (-1) none pos) (tE W (fmtM me)) := PE.weak (pe_fmt h) fun σ H Q h => by
  obtain ⟨δ, S, ρ, I, h⟩ := h
  refine bindG I h fun x v S1 H1 ρ1 n1 I1 r1 h1 => ?_
  obtain ⟨z, e, k⟩ := h1.ro
  unfold fmtG at e
  split at e
  · rename_i l
    split at e
    · rename_i hl
      cases e; cases r1
      exact .inl ⟨_, rfl, by rw [str_len]; exact sz6 hl, k _ H1 ρ1 (Nx.refl _ _) I1.st rfl⟩
    · cases e
  · rename_i i
    split at e
    · rename_i hl
      cases e; cases r1
      exact .inr ⟨i, rfl, hl, k _ H1 ρ1 (Nx.refl _ _) I1.st rfl⟩
    · cases e
  · cases e
def jsL : List ME → List Nat → ME
  | [], acc => fun _ S => .ok (.str acc) S
  | m :: ms, acc => fun δ S => (m δ S).bind fun d S1 => match d with
    | .str y => if acc.length + y.length ≤ 1000000 then jsL ms (acc ++ y) δ S1 else .stuck
    | _ => .stuck
theorem js_run : ∀ (ms : List ME) (acc : List Nat) {σ : St} {H : Hp} {δ : DEnv} {S : Store} {ρ : List Addr} {Q : VK}, StE σ H δ S ρ → RunG W Rep σ H ρ (jsL ms acc δ S) Q → tJs (ms.map (tE W)) ⟨acc.toArray⟩ σ H (fun out H1 => Q (.str out) H1)
  | [], acc, σ, H, δ, S, ρ, Q, I, h => RunG.ok (a := D.str acc) (b := V.str ⟨acc.toArray⟩) h I.st rfl
  | m :: ms, acc, σ, H, δ, S, ρ, Q, I, h => by
    refine bindG I h fun d v S1 H1 ρ1 n1 I1 r1 h1 => ?_
    split at h1
    · rename_i y
      split at h1
      · rename_i hl
        cases r1
        refine ⟨⟨y.toArray⟩, rfl, ?_, ?_⟩
        · rw [str_app, str_len, List.length_append]
          exact sz6 hl
        · rw [str_app]
          exact js_run ms (acc ++ y) I1 h1
      · exact False.elim h1
    · exact False.elim h1
theorem pj_dnil : PJ X [] (([] : List ME).map (tE W)) := .nil
theorem pj_dcons (h : PE X e (tE W me)) (r : PJ X es (ms.map (tE W))) : PJ X (e :: es) ((me :: ms).map (tE W)) := .cons h r
theorem pd_joined (h : PJ X (v1 :: v2 :: rest) (ms.map (tE W))) : PE X (.JoinedStr (v1 :: v2 :: rest) pos) (tE W (jsL ms [])) := PE.weak (pe_joined h) fun σ H Q h => by
  obtain ⟨δ, S, ρ, I, h⟩ := h
  exact js_run ms [] I h
theorem pd_joined1 (h : PE X e (tE W me)) : PE X (.JoinedStr [e] pos) (tE W me) := pe_joined1 h
end
end SL

/-! SL: list of a text; max(xs, default=n). -/
namespace SL
open PySem PySem.Spec L2
open PyProof.Rows hiding St
section
variable {X : Cx} {W : WX} {e : Expr} {es : List Expr} {ms mk : MA} {p pos : Pos} {x : Str} {kws : List Keyword}
theorem vals_pt : ∀ {xs : List V} {us : List Value}, xs.length = us.length → (∀ (j : Nat) (x : V) (u : Value), xs[j]? = some x → us[j]? = some u → RelV x u) → Vals xs us
  | [], [], _, _ => .nil
  | [], _ :: _, h, _ => by cases h
  | _ :: _, [], h, _ => by cases h
  | x :: xs, u :: us, h, r => .cons (r 0 x u rfl rfl) (vals_pt (by simpa using h) fun j x' u' h1 h2 => r (j + 1) x' u' (by simpa using h1) (by simpa using h2))
def sgD (l : List Nat) : List D := l.map fun c => D.str [c]
def sgV (l : List Nat) : List V := l.map fun c => V.str ⟨#[c]⟩
theorem sg_reps {H : Hp} {ρ : List Addr} : ∀ l : List Nat, Reps H ρ (sgD l) (sgV l)
  | [] => Reps.nil
  | c :: l => Reps.cons (show Rep H ρ (.str [c]) (.str ⟨#[c]⟩) from rfl) (sg_reps l)
def rLsg : List V → Hp → VK → Prop := fun xs H Q => ∃ l : List Nat, xs = [.str ⟨l.toArray⟩] ∧ l.length ≤ 1000000 ∧ ∀ p, H p = none → Q (.ref p) (upd H p (.lst (sgV l)))
theorem call_list_sg (hc : X.calm = true) : CallR X (.type "list") rLsg := by
  intro pins s σ H xs us Q I r h
  obtain ⟨l, rfl, hl, q⟩ := h
  obtain ⟨u, rfl, rx⟩ := vals1 r
  obtain ⟨t, rfl⟩ := rx
  have hz : l.length ≤ sizeLine := sz6 hl
  refine call_list_str (I.ok.hd hc) _ t (fun h' tk acc' c' hk hS ha => ?_) (by simpa using hz)
  refine ⟨.ref s.heap.objs.size, _, I.laid (t' := tk) hk (Nat.le_refl _) (show ObjOk X.prog X.w _ h' _ (.lst (sgV l)) from ⟨by unfold sgV; rw [List.length_map]; exact hz, acc'.toList, c', ?_, by simpa using hS⟩), rfl, q _ (I.hok.fresh (Nat.le_refl _))⟩
  refine vals_pt (by unfold sgV; rw [List.length_map]; exact ha.1.symm) fun j x u h1 h2 => ?_
  obtain ⟨c, t', hc', rfl⟩ := ha.2 j u (by simpa using h2)
  unfold sgV at h1
  rw [List.getElem?_map] at h1
  have hc2 : l[j]? = some c := by simpa using hc'
  rw [hc2] at h1
  cases h1
  exact ⟨t', rfl⟩
def rList2 (K : PySem.W.Frag) : List V → Hp → VK → Prop := fun xs H Q => (∃ p ys, xs = [.ref p] ∧ (SqL K H p ys ∨ SqT K H p ys) ∧ ∀ l, H l = none → Q (.ref l) (upd H l (.lst ys))) ∨ rLsg xs H Q
theorem call_list2 (hc : X.calm = true) : CallR X (.type "list") (rList2 X.K) := CallR.or call_list_of (call_list_sg hc)
def list2G (S : Store) (xs : List D) : Option D := match xs with
  | [.str l] => if l.length ≤ 1000000 then some (.lst (sgD l)) else none
  | xs => listG S xs
theorem snd_list2 {K : PySem.W.Frag} : CaSnd (rList2 K) list2G := by
  intro H ρ S xs z vs Q st rs e k
  unfold list2G at e
  split at e
  · obtain ⟨v, us, rfl, rx, ru⟩ := rs
    split at e
    · rename_i l hl
      cases ru; cases e; cases rx
      exact .inr ⟨l, rfl, hl, fun p hp => KD.lst k st (sg_reps l) hp⟩
    · cases e
  · exact .inl (snd_list H ρ S _ z vs Q st rs e k)
def list2LM (ms : MA) : ME := fun δ S => (ms δ S).bind fun xs S1 => match list2G S1 xs with
  | some (.lst ds) => .ok (.loc S1.length) (S1 ++ [.lst ds])
  | _ => .stuck
theorem pd_list2L (hc : X.calm = true) (hm : X.mg x = none) (ha : PA X (e :: es) (tA W ms)) (hg : Gl X x := by rfl) (hv : bootBuiltins x = some (.type "list") := by decide +kernel)
    (hn : x ≠ "__name__" := by decide) (hdb : (x == ("__debug__" : Str)) = false := by decide)
    (he : starEach (e :: es) X.env = (false, eval e X.env) :: starEach es X.env := by rfl) (hpl : (backTo pos (starEach es X.env)).any (·.1) = false := by rfl) : PE X (.Call (.Name x p) (e :: es) [] pos) (tE W (list2LM ms)) :=
  PE.weak (pe_callTy (call_list2 hc) hg hm hv ha hn hdb he hpl) fun σ H Q h => by
    obtain ⟨δ, S, ρ, I, h⟩ := h
    refine bindG I h fun xs vs S1 H1 ρ1 n1 I1 r1 h1 => ?_
    split at h1
    · rename_i ds el
      unfold list2G at el
      split at el
      · obtain ⟨v, us, rfl, rx, ru⟩ := r1
        split at el
        · rename_i l hl
          cases ru; cases el; cases rx
          refine .inr ⟨l, rfl, hl, fun p hp => ?_⟩
          refine RunG.okN h1 (Nx.push hp) (I1.st.push hp ⟨sgV l, upd_same, Reps.mono (Nx.push hp) _ _ (sg_reps l)⟩) ⟨p, ?_, rfl⟩
          rw [← I1.st.len]
          simp
        · cases el
      · unfold listG at el
        split at el
        · obtain ⟨v, us, rfl, rx, ru⟩ := r1
          split at el
          · rename_i ds' ed
            cases ru; cases el
            obtain ⟨a, vs, rfl, hq, r1⟩ := asQ_rep (K := X.K) I1.st rx ed
            refine .inl ⟨a, vs, rfl, hq, fun l hl => ?_⟩
            refine RunG.okN h1 (Nx.push hl) (I1.st.push hl ⟨vs, upd_same, Reps.mono (Nx.push hl) _ _ r1⟩) ⟨l, ?_, rfl⟩
            rw [← I1.st.len]
            simp
          · cases el
        · cases el
    · exact False.elim h1
/-! ### max(xs, default=n) -/
def rMaxDf (K : PySem.W.Frag) : List V → List V → Hp → VK → Prop := fun vs zs H Q => ∃ (a : Addr) (ns : List Int) (d : Int), vs = [V.ref a] ∧ zs = [V.int d] ∧ SqL K H a (ns.map V.int) ∧ (ns = [] → Q (.int d) H) ∧ ∀ y ys, ns = y :: ys → Q (.int (PySem.W.maxOf y ys)) H
theorem cr_maxDf (hc : X.calm = true) (hu : X.A.units + 64 < cLine) : CallRK X (.builtin "max") [Str.ofString "default"] (rMaxDf X.K) := by
  intro pins s σ H vs zs us ws Q I r rz h
  obtain ⟨a, ns, d, rfl, rfl, hs, q0, q⟩ := h
  obtain ⟨its, rv, hl, _⟩ := I.list hs
  obtain rfl := Vals.ref1 r
  obtain ⟨w1, rfl, t1, rfl⟩ := vals1 rz
  refine PySem.W.max_list_datum_default (α := Int) (I.ok.hd hc) hl.isList (PySem.W.HoldAll.of_ints rv.ints) (by show _ + 1 + 0 < _; omega) (fun e h' tk hk => ⟨.int d, H, I.kept hk, ⟨_, rfl⟩, q0 e⟩) fun y ys i v h' tk e _ hv hk => ?_
  obtain ⟨t, rfl⟩ := PySem.W.int_of_holds hv
  exact ⟨.int _, H, I.kept hk, ⟨t, rfl⟩, q y ys e⟩
def maxI : List Int → Int → Int
  | [], d => d
  | y :: ys, _ => PySem.W.maxOf y ys
def maxDfG (S : Store) (xs zs : List D) : Option D := match xs, zs with
  | [x], [.int d] => match asL S x with
    | some ds => match asIs ds with
      | some ns => some (.int (maxI ns d))
      | none => none
    | none => none
  | _, _ => none
def callKG (g : Store → List D → List D → Option D) (ms mk : MA) : ME := fun δ S => (ms δ S).bind fun xs S1 => (mk δ S1).bind fun zs S2 => RO (g S2 xs zs) S2
theorem pd_maxDf (hc : X.calm = true) (hu : X.A.units + 64 < cLine) (hm : X.mg x = none) (ha : PA X (e :: es) (tA W ms)) (hk : PK X kws (tA W mk)) (hg : Gl X x := by rfl) (hv : bootBuiltins x = some (.builtin "max") := by decide +kernel)
    (hn : x ≠ "__name__" := by decide) (hdb : (x == ("__debug__" : Str)) = false := by decide)
    (he : backTo pos (starEach (e :: es) X.env) = (false, eval e X.env) :: backTo pos (starEach es X.env) := by rfl) (hpl : (backTo pos (starEach (e :: es) X.env)).any (·.1) = false := by rfl)
    (hall : (backToKw pos (keywordEach kws X.env)).all (·.1.isSome) = true := by rfl) (hnone : (backToKw pos (keywordEach kws X.env)).any (·.1.isNone) = false := by rfl) (hks : (backToKw pos (keywordEach kws X.env)).filterMap (·.1) = [Str.ofString "default"] := by rfl) :
    PE X (.Call (.Name x p) (e :: es) kws pos) (tE W (callKG maxDfG ms mk)) := PE.weak (pe_callBK (cr_maxDf hc hu) hg hm hv ha hk hn hdb he hpl hall hnone hks) fun σ H Q h => by
  obtain ⟨δ, S, ρ, I, h⟩ := h
  refine bindG I h fun xs vs S1 H1 ρ1 n1 I1 r1 h1 => ?_
  refine bindG I1 h1 fun zs us S2 H2 ρ2 n2 I2 r2 h2 => ?_
  obtain ⟨z, e, k⟩ := h2.ro
  have r1 := Reps.mono n2 _ _ r1
  unfold maxDfG at e
  split at e
  · obtain ⟨v, _, rfl, rx, ru⟩ := r1
    obtain ⟨v2, _, rfl, rx2, ru2⟩ := r2
    cases ru; cases ru2; cases rx2
    split at e
    · rename_i ds ed
      split at e
      · rename_i ns en
        cases e
        obtain ⟨a, vs, rfl, h1, r1⟩ := asL_rep I2.st rx ed
        have := asIs_rep r1 en
        subst this
        have kk := k _ H2 ρ2 (Nx.refl _ _) I2.st rfl
        exact ⟨a, ns, _, rfl, rfl, .inl (.inl h1), fun e => by subst e; exact kk, fun y ys e => by subst e; exact kk⟩
      · cases e
    · cases e
  · cases e
end
end SL

/-! SL: plain laws, common parts: the drawing. -/
namespace SL
open PySem PySem.Spec L2
open PyProof.Rows hiding St
noncomputable def drawM : MS := (seqM (ifSM (andB (cmpB ltG (op2M ixG (vM 0) (cM (.int 2))) (vM 1)) (cmpB ltG (op2M ixG (vM 0) (cM (.int 1))) (callG lenG (consM (op2M ixG (vM 0) (cM (.int 0))) nilM)))) (seqM (asgM 2 (op2M ixG (op2M ixG (vM 0) (cM (.int 0))) (op2M ixG (vM 0) (cM (.int 1)))))
  (seqM (setIM (vM 0) (cM (.int 1)) (op2M addG (op2M ixG (vM 0) (cM (.int 1))) (cM (.int 1))))
  (seqM (setIM (vM 0) (cM (.int 2)) (ifM (cmpB geG (vM 2) (op2M powG (cM (.int 10)) (cM (.int 18)))) (vM 2) (cM (.int 0))))
  (setIM (vM 0) (cM (.int 3)) (op2M modG (op2M addG (op2M addG (op2M mulG (op2M ixG (vM 0) (cM (.int 3))) (cM (.int 69621))) (op2M modG (vM 2) (cM (.int 998244353)))) (cM (.int 1))) (cM (.int 2147483647))))))) nxM)
  (seqM (ifSM (cmpB geG (op2M ixG (vM 0) (cM (.int 2))) (vM 1)) (seqM (asgM 3 (op2M modG (op2M ixG (vM 0) (cM (.int 2))) (vM 1)))
  (seqM (setIM (vM 0) (cM (.int 2)) (op2M fdivG (op2M ixG (vM 0) (cM (.int 2))) (vM 1)))
  (retM (vM 3)))) nxM)
  (seqM (setIM (vM 0) (cM (.int 4)) (op2M addG (op2M ixG (vM 0) (cM (.int 4))) (cM (.int 1))))
  (seqM (asgM 4 (op2M addG (op2M addG (op2M mulG (op2M ixG (vM 0) (cM (.int 3))) (cM (.int 16807))) (op2M mulG (op2M ixG (vM 0) (cM (.int 4))) (cM (.int 40692)))) (cM (.int 7))))
  (seqM (asgM 4 (op2M addG (op2M mulG (vM 4) (op2M addG (op2M modG (vM 4) (cM (.int 65521))) (cM (.int 3)))) (op2M mulG (op2M ixG (vM 0) (cM (.int 4))) (cM (.int 9176)))))
  (seqM (setIM (vM 0) (cM (.int 3)) (op2M modG (vM 4) (cM (.int 2147483629))))
  (retM (op2M modG (op2M addG (op2M fdivG (op2M ixG (vM 0) (cM (.int 3))) (cM (.int 32))) (op2M mulG (op2M modG (op2M ixG (vM 0) (cM (.int 3))) (cM (.int 8191))) (cM (.int 13)))) (vM 1)))))))))
/-! ### what the operations give on plain values -/
theorem gAddI {S : Store} {x y : Int} : addG S (.int x) (.int y) = some (.int (x + y)) := rfl
theorem gAddS {S : Store} {x y : List Nat} (h : x.length + y.length ≤ 1000000) : addG S (.str x) (.str y) = some (.str (x ++ y)) := if_pos h
theorem gSubI {S : Store} {x y : Int} : subG S (.int x) (.int y) = some (.int (x - y)) := rfl
theorem gMulI {S : Store} {x y : Int} (h1 : -(2 ^ 64) < y) (h2 : y < 2 ^ 64) : mulG S (.int x) (.int y) = some (.int (x * y)) := if_pos (.inl (.inr ⟨h1, h2⟩))
theorem gModI {S : Store} {x y : Int} (h : 0 < y) : modG S (.int x) (.int y) = some (.int (x % y)) := if_pos h
theorem gFdivI {S : Store} {x y : Int} (h : 0 < y) (h2 : y.natAbs.log2 < 9000) : fdivG S (.int x) (.int y) = some (.int (x / y)) := if_pos ⟨h, h2⟩
theorem gLtI {S : Store} {x y : Int} : ltG S (.int x) (.int y) = some (.bl (decide (x < y))) := rfl
theorem gLeI {S : Store} {x y : Int} : leG S (.int x) (.int y) = some (.bl (decide (x ≤ y))) := rfl
theorem gGtI {S : Store} {x y : Int} : gtG S (.int x) (.int y) = some (.bl (decide (y < x))) := rfl
theorem gGeI {S : Store} {x y : Int} : geG S (.int x) (.int y) = some (.bl (decide (y ≤ x))) := rfl
theorem gEqI {S : Store} {x y : Int} : eqG S (.int x) (.int y) = some (.bl (decide (x = y))) := rfl
theorem gEqS {S : Store} {x y : List Nat} : eqG S (.str x) (.str y) = some (.bl (decide (x = y))) := rfl
theorem gNeI {S : Store} {x y : Int} : neG S (.int x) (.int y) = some (.bl (!decide (x = y))) := rfl
theorem gNeS {S : Store} {x y : List Nat} : neG S (.str x) (.str y) = some (.bl (!decide (x = y))) := rfl
theorem gInC {S : Store} {c : Nat} {z : List Nat} : inG S (.str [c]) (.str z) = some (.bl (decide (c ∈ z))) := rfl
theorem gLenS {S : Store} {z : List Nat} (h : z.length ≤ 1000000) : lenG S [.str z] = some (.int z.length) := by
  show (match (if z.length ≤ 1000000 then some z.length else none : Option Nat) with | some n => some (D.int n) | none => none) = _
  rw [if_pos h]
theorem gPow {S : Store} {x y : Int} (h : 0 ≤ y ∧ y ≤ 1000000 ∧ x.natAbs < 2 ^ 64) : powG S (.int x) (.int y) = some (.int (x ^ y.toNat)) := if_pos h
theorem gTup {S : Store} {xs : List D} (h : xs.length ≤ 100000) : tupG S xs = some (.tup xs) := if_pos h
theorem gLst {S : Store} {xs : List D} (h : xs.length ≤ 100000) : lstG S xs = some (.lst xs) := if_pos h
theorem gIxL {S : Store} {ds : List D} {n : Nat} {d : D} (h : ds[n]? = some d) : ixG S (.lst ds) (.int n) = some d := by
  have hl := (List.getElem?_eq_some_iff.mp h).1
  show atI ds n = some d
  unfold atI ixN
  rw [if_pos (by omega), if_pos (by omega)]
  simpa using h
theorem gIxT {S : Store} {ds : List D} {n : Nat} {d : D} (h : ds[n]? = some d) : ixG S (.tup ds) (.int n) = some d := by
  have hl := (List.getElem?_eq_some_iff.mp h).1
  show atI ds n = some d
  unfold atI ixN
  rw [if_pos (by omega), if_pos (by omega)]
  simpa using h
theorem gIxS {S : Store} {l : List Nat} {n c : Nat} (hz : l.length ≤ 1000000) (h : l[n]? = some c) : ixG S (.str l) (.int n) = some (.str [c]) := by
  have hl := (List.getElem?_eq_some_iff.mp h).1
  show (if l.length ≤ 1000000 then (match atI l n with | some c => some (D.str [c]) | none => none) else none) = _
  rw [if_pos hz]
  unfold atI ixN
  rw [if_pos (by omega), if_pos (by omega)]
  simp [h]
theorem cut_nat {α : Type} (l : List α) (p q : Nat) : cutL l (some (p : Int)) (some (q : Int)) = (l.drop p).take (q - p) := by
  unfold cutL
  rw [HT.sIx_nat, HT.sIx_nat]
  by_cases hp : p ≤ l.length
  · rw [Nat.min_eq_left hp]
    by_cases hq : q ≤ l.length
    · rw [Nat.min_eq_left hq]
    · rw [Nat.min_eq_right (by omega), List.take_of_length_le (by rw [List.length_drop]; omega), List.take_of_length_le (by rw [List.length_drop]; omega)]
  · rw [Nat.min_eq_right (by omega : l.length ≤ p), List.drop_of_length_le (Nat.le_refl _), List.drop_of_length_le (by omega : l.length ≤ p)]
    simp
theorem cut_to {α : Type} (l : List α) (q : Nat) : cutL l none (some (q : Int)) = l.take q := by
  have := cut_nat l 0 q
  simpa [cutL, HT.sIx] using this
theorem cut_from {α : Type} (l : List α) (p : Nat) : cutL l (some (p : Int)) none = l.drop p := by
  unfold cutL
  rw [HT.sIx_nat, HT.sIx_none]
  by_cases hp : p ≤ l.length
  · rw [Nat.min_eq_left hp, List.take_of_length_le (by rw [List.length_drop]; omega)]
  · rw [Nat.min_eq_right (by omega : l.length ≤ p), List.drop_of_length_le (Nat.le_refl _), List.drop_of_length_le (by omega : l.length ≤ p)]
    simp
theorem gSlS {S : Store} {l : List Nat} {lo hi : Option Int} (h : l.length ≤ 1000000) : slG S (.str l) lo hi = some (.str (cutL l lo hi)) := if_pos h
section
variable {ns : List Int} {i w s c x : Int} {T : Store}
theorem dr0 : ixG (drawS ns i w s c :: T) (.loc 0) (.int 0) = some (.lst (ns.map D.int)) := rfl
theorem dr1 : ixG (drawS ns i w s c :: T) (.loc 0) (.int 1) = some (.int i) := rfl
theorem dr2 : ixG (drawS ns i w s c :: T) (.loc 0) (.int 2) = some (.int w) := rfl
theorem dr3 : ixG (drawS ns i w s c :: T) (.loc 0) (.int 3) = some (.int s) := rfl
theorem dr4 : ixG (drawS ns i w s c :: T) (.loc 0) (.int 4) = some (.int c) := rfl
theorem dfold : Cell.lst [.lst (ns.map D.int), .int i, .int w, .int s, .int c] = drawS ns i w s c := rfl
theorem drL : locL (drawS ns i w s c :: T) (.loc 0) = some (0, [.lst (ns.map D.int), .int i, .int w, .int s, .int c]) := rfl
theorem st1 : setG [.lst (ns.map D.int), .int i, .int w, .int s, .int c] (.int 1) (.int x) = some [.lst (ns.map D.int), .int x, .int w, .int s, .int c] := rfl
theorem st2 : setG [.lst (ns.map D.int), .int i, .int w, .int s, .int c] (.int 2) (.int x) = some [.lst (ns.map D.int), .int i, .int x, .int s, .int c] := rfl
theorem st3 : setG [.lst (ns.map D.int), .int i, .int w, .int s, .int c] (.int 3) (.int x) = some [.lst (ns.map D.int), .int i, .int w, .int x, .int c] := rfl
theorem st4 : setG [.lst (ns.map D.int), .int i, .int w, .int s, .int c] (.int 4) (.int x) = some [.lst (ns.map D.int), .int i, .int w, .int s, .int x] := rfl

theorem fin_same {S S' : Store} {d : D} (h : fz S.length S' d = some d) (hl : S'.length = S.length) : finV S d S' = .ok d S' := by
  unfold finV
  rw [h]
  simp only
  split
  · rw [← hl, List.take_length]
  · rfl
theorem fin_int {S S' : Store} {j : Int} (hl : S'.length = S.length) : finV S (.int j) S' = .ok (.int j) S' := fin_same rfl hl
theorem draw_run {m : Int} (hi : 0 ≤ i) (hm : 0 < m) (hm2 : m < 2 ^ 64) : ∃ r i' w' s' c', 0 ≤ i' ∧ 0 ≤ r ∧ r < m ∧ defM 5 drawM [.loc 0, .int m] (drawS ns i w s c :: T) = .ok (.int r) (drawS ns i' w' s' c' :: T) := by
  have hlog : m.natAbs.log2 < 9000 := by
    have : m.natAbs < 2 ^ 64 := by omega
    have h2 : m.natAbs.log2 < 64 := (Nat.log2_lt (by omega)).mpr this
    omega
  have e9 : ∀ S (x : Int), modG S (.int x) (.int m) = some (.int (x % m)) := fun S x => gModI hm
  have e0 : ∀ S (x : Int), fdivG S (.int x) (.int m) = some (.int (x / m)) := fun S x => gFdivI hm hlog
  have tail : ∀ i w s c b, ∃ r s' c', 0 ≤ r ∧ r < m ∧ (seqM (setIM (vM 0) (cM (.int 4)) (op2M addG (op2M ixG (vM 0) (cM (.int 4))) (cM (.int 1))))
  (seqM (asgM 4 (op2M addG (op2M addG (op2M mulG (op2M ixG (vM 0) (cM (.int 3))) (cM (.int 16807))) (op2M mulG (op2M ixG (vM 0) (cM (.int 4))) (cM (.int 40692)))) (cM (.int 7))))
  (seqM (asgM 4 (op2M addG (op2M mulG (vM 4) (op2M addG (op2M modG (vM 4) (cM (.int 65521))) (cM (.int 3)))) (op2M mulG (op2M ixG (vM 0) (cM (.int 4))) (cM (.int 9176)))))
  (seqM (setIM (vM 0) (cM (.int 3)) (op2M modG (vM 4) (cM (.int 2147483629))))
  (retM (op2M modG (op2M addG (op2M fdivG (op2M ixG (vM 0) (cM (.int 3))) (cM (.int 32))) (op2M mulG (op2M modG (op2M ixG (vM 0) (cM (.int 3))) (cM (.int 8191))) (cM (.int 13)))) (vM 1))))))) [some (.loc 0), some (.int m), b, none, none] (drawS ns i w s c :: T) = .rt (.int r) (drawS ns i w s' c' :: T) := by
    intro i w s c b
    refine ⟨((((s * 16807 + (c + 1) * 40692 + 7) * ((s * 16807 + (c + 1) * 40692 + 7) % 65521 + 3) + (c + 1) * 9176) % 2147483629) / 32 + (((s * 16807 + (c + 1) * 40692 + 7) * ((s * 16807 + (c + 1) * 40692 + 7) % 65521 + 3) + (c + 1) * 9176) % 2147483629) % 8191 * 13) % m, ((s * 16807 + (c + 1) * 40692 + 7) * ((s * 16807 + (c + 1) * 40692 + 7) % 65521 + 3) + (c + 1) * 9176) % 2147483629, c + 1, Int.emod_nonneg _ (by omega), Int.emod_lt_of_pos _ hm, ?_⟩
    have e1 : ∀ S, mulG S (.int s) (.int 16807) = some (.int (s * 16807)) := fun S => gMulI (by omega) (by omega)
    have e2 : ∀ S, mulG S (.int (c + 1)) (.int 40692) = some (.int ((c + 1) * 40692)) := fun S => gMulI (by omega) (by omega)
    have e3 : ∀ S, mulG S (.int (c + 1)) (.int 9176) = some (.int ((c + 1) * 9176)) := fun S => gMulI (by omega) (by omega)
    generalize hm1 : s * 16807 + (c + 1) * 40692 + 7 = m1
    have e4 : ∀ S, mulG S (.int m1) (.int (m1 % 65521 + 3)) = some (.int (m1 * (m1 % 65521 + 3))) := fun S => gMulI (by omega) (by omega)
    have e5 : ∀ S (x : Int), mulG S (.int x) (.int 13) = some (.int (x * 13)) := fun S x => gMulI (by omega) (by omega)
    have e6 : ∀ S (x : Int), modG S (.int x) (.int 65521) = some (.int (x % 65521)) := fun S x => gModI (by omega)
    have e7 : ∀ S (x : Int), modG S (.int x) (.int 2147483629) = some (.int (x % 2147483629)) := fun S x => gModI (by omega)
    have e8 : ∀ S (x : Int), modG S (.int x) (.int 8191) = some (.int (x % 8191)) := fun S x => gModI (by omega)
    have e10 : ∀ S (x : Int), fdivG S (.int x) (.int 32) = some (.int (x / 32)) := fun S x => gFdivI (by omega) (by decide)
    simp only [seqM, setIM, asgM, retM, op2M, cM, vM, dr3, dr4, drL, gAddI, st3, st4, bindS_ok, bind_ok, RO_some, e1, e2, e3, e4, e5, e6, e7, e8, e9, e10, hm1, List.getElem?_cons_zero, List.getElem?_cons_succ, List.set_cons_zero, List.set_cons_succ, dfold]
  have rest : ∀ i w s c b, ∃ r w' s' c', 0 ≤ r ∧ r < m ∧ (seqM (ifSM (cmpB geG (op2M ixG (vM 0) (cM (.int 2))) (vM 1)) (seqM (asgM 3 (op2M modG (op2M ixG (vM 0) (cM (.int 2))) (vM 1)))
  (seqM (setIM (vM 0) (cM (.int 2)) (op2M fdivG (op2M ixG (vM 0) (cM (.int 2))) (vM 1)))
  (retM (vM 3)))) nxM)
  (seqM (setIM (vM 0) (cM (.int 4)) (op2M addG (op2M ixG (vM 0) (cM (.int 4))) (cM (.int 1))))
  (seqM (asgM 4 (op2M addG (op2M addG (op2M mulG (op2M ixG (vM 0) (cM (.int 3))) (cM (.int 16807))) (op2M mulG (op2M ixG (vM 0) (cM (.int 4))) (cM (.int 40692)))) (cM (.int 7))))
  (seqM (asgM 4 (op2M addG (op2M mulG (vM 4) (op2M addG (op2M modG (vM 4) (cM (.int 65521))) (cM (.int 3)))) (op2M mulG (op2M ixG (vM 0) (cM (.int 4))) (cM (.int 9176)))))
  (seqM (setIM (vM 0) (cM (.int 3)) (op2M modG (vM 4) (cM (.int 2147483629))))
  (retM (op2M modG (op2M addG (op2M fdivG (op2M ixG (vM 0) (cM (.int 3))) (cM (.int 32))) (op2M mulG (op2M modG (op2M ixG (vM 0) (cM (.int 3))) (cM (.int 8191))) (cM (.int 13)))) (vM 1)))))))) [some (.loc 0), some (.int m), b, none, none] (drawS ns i w s c :: T) = .rt (.int r) (drawS ns i w' s' c' :: T) := by
    intro i w s c b
    by_cases hw : m ≤ w
    · refine ⟨w % m, w / m, s, c, Int.emod_nonneg _ (by omega), Int.emod_lt_of_pos _ hm, ?_⟩
      simp only [seqM, ifSM, cmpB, setIM, asgM, retM, op2M, cM, vM, dr2, drL, st2, gGeI, asB, bindS_ok, bind_ok, RO_some, e9, e0, hw, decide_true, if_true, List.getElem?_cons_zero, List.getElem?_cons_succ, List.set_cons_zero, List.set_cons_succ, dfold]
    · obtain ⟨r, s', c', h1, h2, h3⟩ := tail i w s c b
      refine ⟨r, w, s', c', h1, h2, ?_⟩
      rw [seqM]
      have : (ifSM (cmpB geG (op2M ixG (vM 0) (cM (.int 2))) (vM 1)) (seqM (asgM 3 (op2M modG (op2M ixG (vM 0) (cM (.int 2))) (vM 1)))
  (seqM (setIM (vM 0) (cM (.int 2)) (op2M fdivG (op2M ixG (vM 0) (cM (.int 2))) (vM 1)))
  (retM (vM 3)))) nxM) [some (.loc 0), some (.int m), b, none, none] (drawS ns i w s c :: T) = .nx [some (.loc 0), some (.int m), b, none, none] (drawS ns i w s c :: T) := by
        simp only [ifSM, cmpB, op2M, cM, vM, dr2, gGeI, asB, bindS_ok, bind_ok, RO_some, hw, decide_false, Bool.false_eq_true, if_false, nxM, List.getElem?_cons_zero, List.getElem?_cons_succ]
      rw [this]
      exact h3
  have first : ∃ i1 w1 s1 b, 0 ≤ i1 ∧ (ifSM (andB (cmpB ltG (op2M ixG (vM 0) (cM (.int 2))) (vM 1)) (cmpB ltG (op2M ixG (vM 0) (cM (.int 1))) (callG lenG (consM (op2M ixG (vM 0) (cM (.int 0))) nilM)))) (seqM (asgM 2 (op2M ixG (op2M ixG (vM 0) (cM (.int 0))) (op2M ixG (vM 0) (cM (.int 1)))))
  (seqM (setIM (vM 0) (cM (.int 1)) (op2M addG (op2M ixG (vM 0) (cM (.int 1))) (cM (.int 1))))
  (seqM (setIM (vM 0) (cM (.int 2)) (ifM (cmpB geG (vM 2) (op2M powG (cM (.int 10)) (cM (.int 18)))) (vM 2) (cM (.int 0))))
  (setIM (vM 0) (cM (.int 3)) (op2M modG (op2M addG (op2M addG (op2M mulG (op2M ixG (vM 0) (cM (.int 3))) (cM (.int 69621))) (op2M modG (vM 2) (cM (.int 998244353)))) (cM (.int 1))) (cM (.int 2147483647))))))) nxM) [some (.loc 0), some (.int m), none, none, none] (drawS ns i w s c :: T) = .nx [some (.loc 0), some (.int m), b, none, none] (drawS ns i1 w1 s1 c :: T) := by
    have hlen : ∀ S : Store, lenG S [.lst (ns.map D.int)] = some (.int (ns.length : Nat)) := fun S => by
      show some (D.int ((ns.map D.int).length : Nat)) = _
      rw [List.length_map]
    by_cases h1 : w < m
    · by_cases h2 : i < ns.length
      · have hx : ∃ x, ns[i.toNat]? = some x := ⟨_, List.getElem?_eq_getElem (by omega)⟩
        obtain ⟨x, hx⟩ := hx
        have ex : ∀ S : Store, ixG S (.lst (ns.map D.int)) (.int i) = some (.int x) := fun S => by
          have hii : i = (i.toNat : Int) := by omega
          rw [hii]
          exact gIxL (by rw [List.getElem?_map, hx]; rfl)
        have e5 : ∀ S (y : Int), mulG S (.int y) (.int 69621) = some (.int (y * 69621)) := fun S y => gMulI (by omega) (by omega)
        have e6 : ∀ S (y : Int), modG S (.int y) (.int 998244353) = some (.int (y % 998244353)) := fun S y => gModI (by omega)
        have e7 : ∀ S (y : Int), modG S (.int y) (.int 2147483647) = some (.int (y % 2147483647)) := fun S y => gModI (by omega)
        have ep : ∀ S, powG S (.int 10) (.int 18) = some (.int (10 ^ 18)) := fun S => gPow (by decide)
        by_cases h3 : (10 ^ 18 : Int) ≤ x
        · refine ⟨i + 1, x, (s * 69621 + x % 998244353 + 1) % 2147483647, some (.int x), by omega, ?_⟩
          simp only [seqM, ifSM, ifM, andB, cmpB, setIM, asgM, callG, consM, nilM, op2M, cM, vM, dr0, dr1, dr2, dr3, drL, st1, st2, st3, gGeI, gLtI, gAddI, hlen, ex, e5, e6, e7, ep, asB, bindS_ok, bind_ok, RO_some, h1, h2, h3, decide_true, if_true, List.getElem?_cons_zero, List.getElem?_cons_succ, List.set_cons_zero, List.set_cons_succ, dfold]
        · refine ⟨i + 1, 0, (s * 69621 + x % 998244353 + 1) % 2147483647, some (.int x), by omega, ?_⟩
          simp only [seqM, ifSM, ifM, andB, cmpB, setIM, asgM, callG, consM, nilM, op2M, cM, vM, dr0, dr1, dr2, dr3, drL, st1, st2, st3, gGeI, gLtI, gAddI, hlen, ex, e5, e6, e7, ep, asB, bindS_ok, bind_ok, RO_some, h1, h2, h3, decide_true, decide_false, Bool.false_eq_true, if_false, if_true, List.getElem?_cons_zero, List.getElem?_cons_succ, List.set_cons_zero, List.set_cons_succ, dfold]
      · refine ⟨i, w, s, none, hi, ?_⟩
        simp only [ifSM, andB, cmpB, callG, consM, nilM, op2M, cM, vM, dr0, dr1, dr2, gLtI, hlen, asB, bindS_ok, bind_ok, RO_some, h1, h2, decide_true, decide_false, Bool.false_eq_true, if_false, if_true, nxM, List.getElem?_cons_zero, List.getElem?_cons_succ]
    · refine ⟨i, w, s, none, hi, ?_⟩
      simp only [ifSM, andB, cmpB, op2M, cM, vM, dr2, gLtI, asB, bindS_ok, bind_ok, RO_some, h1, decide_false, Bool.false_eq_true, if_false, nxM, List.getElem?_cons_zero, List.getElem?_cons_succ]
  obtain ⟨i1, w1, s1, b, hi1, ef⟩ := first
  obtain ⟨r, w', s', c', hr0, hr1, er⟩ := rest i1 w1 s1 c b
  refine ⟨r, i1, w', s', c', hi1, hr0, hr1, ?_⟩
  have hs : startD 5 [D.loc 0, .int m] = [some (.loc 0), some (.int m), none, none, none] := rfl
  unfold defM drawM
  rw [hs, seqM, ef]
  simp only
  rw [er]
  exact fin_int rfl
end
end SL

/-! SL: plain laws, common parts: closed trees, comprehensions, loops, sameness. -/
namespace SL
open PySem PySem.Spec L2
open PyProof.Rows hiding St
/-! ### closed trees -/
mutual
theorem okD_up : ∀ (d : D) (n : Nat), okD 0 d = true → okD n d = true
  | .loc m, n, h => by simp [okD] at h
  | .tup ds, n, h => by simp only [okD] at h ⊢; exact okL_up ds n h
  | .lst ds, n, h => by simp only [okD] at h ⊢; exact okL_up ds n h
  | .dct ks ds, n, h => by simp only [okD] at h ⊢; exact okL_up ds n h
  | .obj C ns ds, n, h => by simp only [okD] at h ⊢; exact okL_up ds n h
  | .exn a b ns ds, n, h => by simp only [okD] at h ⊢; exact okL_up ds n h
  | .non, n, h => rfl
  | .bl _, n, h => rfl
  | .int _, n, h => rfl
  | .str _, n, h => rfl
  | .raw _, n, h => rfl
theorem okL_up : ∀ (ds : List D) (n : Nat), okL 0 ds = true → okL n ds = true
  | [], n, h => rfl
  | d :: ds, n, h => by
    simp only [okL, Bool.and_eq_true] at h ⊢
    exact ⟨okD_up d n h.1, okL_up ds n h.2⟩
end
theorem fz1_cl {n : Nat} {S : Store} {d : D} (h : okD 0 d = true) : fz1 n S d = some d := by
  cases d with
  | loc m => simp [okD] at h
  | _ => simp only [fz1]; rw [if_pos (okD_up _ n h)]
theorem fzs_cl {n : Nat} {S : Store} : ∀ {ds : List D}, okL 0 ds = true → fzs n S ds = some ds
  | [], _ => rfl
  | d :: ds, h => by
    simp only [okL, Bool.and_eq_true] at h
    simp only [fzs, fz1_cl h.1, fzs_cl h.2]
theorem fz_cl {n : Nat} {S : Store} {d : D} (h : okD 0 d = true) : fz n S d = some d := by
  cases d with
  | tup ds =>
    simp only [okD] at h
    simp only [fz, fzs_cl h]
  | loc m => simp [okD] at h
  | _ => simp only [fz]; exact fz1_cl h
theorem fin_cl {S S' : Store} {d : D} (h : okD 0 d = true) (hl : S'.length = S.length) : finV S d S' = .ok d S' := fin_same (fz_cl h) hl
theorem rt_fin {S : Store} {d : D} (h : okD 0 d = true) : finD S (.rt d S) = .ok d S := fin_cl h rfl
theorem okL_iff {n : Nat} : ∀ {ds : List D}, okL n ds = true ↔ ∀ d ∈ ds, okD n d = true
  | [] => by simp [okL]
  | d :: ds => by simp [okL, okL_iff]
/-- what is let go: the elder part of the store as it stands -/
theorem fin_cut {S S' t : Store} {d e : D} (h : fz S.length (S' ++ t) d = some e) (hl : S'.length = S.length) (hs : Settles S S') : finV S d (S' ++ t) = .ok e S' := by
  unfold finV
  rw [h]
  simp only
  have hs2 : Settles S (S' ++ t) := fun i c hi e => hs i c hi (by rwa [List.getElem?_append_left (by omega)] at e)
  rw [if_pos hs2, ← hl, List.take_left]
theorem finX_cut {S S' t : Store} {x : Ex} (h : okL 0 x.ds = true) (hl : S'.length = S.length) (hs : Settles S S') : finX S x (S' ++ t) = .exc x S' := by
  unfold finX
  have hs2 : Settles S (S' ++ t) := fun i c hi e => hs i c hi (by rwa [List.getElem?_append_left (by omega)] at e)
  rw [if_pos ⟨okL_up _ _ h, hs2⟩, ← hl, List.take_left]
theorem Settles.set {S : Store} {n : Nat} {c : Cell} (h : okC 0 c = true) : Settles S (S.set n c) := fun i d hi e => by
  by_cases hn : n = i
  · subst hn
    rw [List.getElem?_set_self hi] at e
    cases e
    right
    cases c with
    | lst ds => exact okL_up ds _ h
    | dct ks ds => exact okL_up ds _ h
    | obj C ns ds => exact okL_up ds _ h
  · rw [List.getElem?_set_ne hn] at e
    exact .inl e
/-! ### the drawing's store -/
def Dw (T S : Store) : Prop := ∃ ns i w s c, 0 ≤ i ∧ S = drawS ns i w s c :: T
theorem okC_draw {ns : List Int} {i w s c : Int} : okC 0 (drawS ns i w s c) = true := by
  have : okL 0 (ns.map D.int) = true := okL_iff.mpr fun d hd => by
    obtain ⟨x, _, rfl⟩ := List.mem_map.mp hd
    rfl
  show okL 0 [.lst (ns.map D.int), .int i, .int w, .int s, .int c] = true
  simp [okL, okD, this]
theorem Dw.len {T S : Store} (h : Dw T S) : S.length = T.length + 1 := by
  obtain ⟨ns, i, w, s, c, _, rfl⟩ := h
  rfl
theorem Dw.settles {T S S' : Store} (h : Dw T S) (h' : Dw T S') : Settles S S' := by
  obtain ⟨ns, i, w, s, c, _, rfl⟩ := h
  obtain ⟨ns', i', w', s', c', _, rfl⟩ := h'
  have := Settles.set (S := drawS ns i w s c :: T) (n := 0) (c := drawS ns' i' w' s' c') okC_draw
  simpa using this
theorem Dw.app {T S t : Store} (h : Dw T S) : Dw (T ++ t) (S ++ t) := by
  obtain ⟨ns, i, w, s, c, hi, rfl⟩ := h
  exact ⟨ns, i, w, s, c, hi, rfl⟩
theorem Dw.cut {T S t : Store} (h : Dw (T ++ t) S) : ∃ S', Dw T S' ∧ S = S' ++ t := by
  obtain ⟨ns, i, w, s, c, hi, rfl⟩ := h
  exact ⟨_, ⟨ns, i, w, s, c, hi, rfl⟩, rfl⟩
theorem draw_dw {T S : Store} {m : Int} (h : Dw T S) (hm : 0 < m) (hm2 : m < 2 ^ 64) : ∃ r S', Dw T S' ∧ 0 ≤ r ∧ r < m ∧ defM 5 drawM [.loc 0, .int m] S = .ok (.int r) S' := by
  obtain ⟨ns, i, w, s, c, hi, rfl⟩ := h
  obtain ⟨r, i', w', s', c', h1, h2, h3, h4⟩ := draw_run (ns := ns) (w := w) (s := s) (c := c) (T := T) hi hm hm2
  exact ⟨r, _, ⟨ns, i', w', s', c', h1, rfl⟩, h2, h3, h4⟩
noncomputable def ofM (φ : Fn) : MS := (retM (op2M ixG (vM 1) (appM 2 φ (consM (vM 0) (consM (callG lenG (consM (vM 1) nilM)) nilM)) [])))
theorem of_lst {T S : Store} {ds : List D} (h : Dw T S) (hn : ds ≠ []) (hl : ds.length < 2 ^ 64) (hc : okL 0 ds = true) : ∃ d S', Dw T S' ∧ d ∈ ds ∧ defM 2 (ofM (defM 5 drawM)) [.loc 0, .lst ds] S = .ok d S' := by
  have hpos : 0 < ds.length := List.length_pos_iff.mpr hn
  obtain ⟨r, S', h1, h2, h3, h4⟩ := draw_dw (m := (ds.length : Int)) h (by omega) (by omega)
  obtain ⟨k, rfl⟩ : ∃ k : Nat, r = k := ⟨r.toNat, by omega⟩
  have hr : k < ds.length := by omega
  refine ⟨ds[k], S', h1, List.getElem_mem hr, ?_⟩
  have e : ixG S' (.lst ds) (.int k) = some ds[k] := gIxL (List.getElem?_eq_getElem hr)
  have hs : startD 2 [D.loc 0, .lst ds] = [some (.loc 0), some (.lst ds)] := rfl
  have hlen : lenG S [.lst ds] = some (.int ds.length) := rfl
  show finD S (ofM (defM 5 drawM) (startD 2 _) S) = _
  unfold ofM
  rw [hs]
  simp only [finD, retM, op2M, appM, consM, nilM, callG, vM, hlen, h4, e, bindS_ok, bind_ok, RO_some, List.getElem?_cons_zero, List.getElem?_cons_succ, List.append_nil, List.length_cons, List.length_nil, if_true, Nat.zero_add, Nat.reduceAdd]
  exact fin_cl (okL_iff.mp hc _ (List.getElem_mem hr)) (h1.len.trans h.len.symm)
theorem of_str {T S : Store} {l : List Nat} (h : Dw T S) (hn : l ≠ []) (hl : l.length ≤ 1000000) : ∃ c S', Dw T S' ∧ c ∈ l ∧ defM 2 (ofM (defM 5 drawM)) [.loc 0, .str l] S = .ok (.str [c]) S' := by
  have hpos : 0 < l.length := List.length_pos_iff.mpr hn
  obtain ⟨r, S', h1, h2, h3, h4⟩ := draw_dw (m := (l.length : Int)) h (by omega) (by omega)
  obtain ⟨k, rfl⟩ : ∃ k : Nat, r = k := ⟨r.toNat, by omega⟩
  have hr : k < l.length := by omega
  refine ⟨l[k], S', h1, List.getElem_mem hr, ?_⟩
  have e : ixG S' (.str l) (.int k) = some (.str [l[k]]) := gIxS hl (List.getElem?_eq_getElem hr)
  have hs : startD 2 [D.loc 0, .str l] = [some (.loc 0), some (.str l)] := rfl
  have hlen : lenG S [.str l] = some (.int l.length) := gLenS hl
  show finD S (ofM (defM 5 drawM) (startD 2 _) S) = _
  unfold ofM
  rw [hs]
  simp only [finD, retM, op2M, appM, consM, nilM, callG, vM, hlen, h4, e, bindS_ok, bind_ok, RO_some, List.getElem?_cons_zero, List.getElem?_cons_succ, List.append_nil, List.length_cons, List.length_nil, if_true, Nat.zero_add, Nat.reduceAdd]
  exact fin_cl (by rfl) (h1.len.trans h.len.symm)
/-! ### ranges -/
theorem src1_of {ma : ME} {δ : DEnv} {S S1 : Store} {n : Nat} (h : ma δ S = .ok (.int n) S1) (hn : n ≤ 1000000000) : src1 ma δ S = .ok (.rng 0 1 n) S1 := by
  unfold src1
  rw [h]
  show (if (n : Int).natAbs ≤ 1000000000 then Res.ok (Src.rng 0 1 (n : Int).toNat) S1 else .stuck) = _
  rw [if_pos (by simpa using hn)]
  rfl
theorem rng_at {n k : Nat} {d : D} (h : ((List.range n).map fun (i : Nat) => D.int (0 + (i : Int) * 1))[k]? = some d) : k < n ∧ d = .int k := by
  have hk : k < n := by
    have := (List.getElem?_eq_some_iff.mp h).1
    simpa using this
  rw [List.getElem?_map, List.getElem?_range hk] at h
  refine ⟨hk, ?_⟩
  have := Option.some.inj h
  rw [← this]
  simp
/-! ### comprehensions -/
theorem comp_gen {mi : DEnv → Store → Res Src} {el : ME} {i : Nat} {δ : DEnv} {S S1 : Store} {src : Src} {ds : List D} {Inv : Store → Prop} {P : Nat → D → Prop}
    (hmi : mi δ S = .ok src S1) (h1 : Inv S1) (hlen : ∀ S0, Inv S0 → S0.length = S1.length) (hset : ∀ S0, Inv S0 → Settles S1 S0)
    (hit : ∀ S0 t, Inv S0 → items (S0 ++ t) src = some ds) (hn : ds.length ≤ 1000000)
    (hel : ∀ (k : Nat) (d : D), ds[k]? = some d → ∀ S0 acc, Inv S0 → ∃ x S2, Inv S2 ∧ P k x ∧ okD 0 x = true ∧ el ((δ.set i none).set i (some d)) (S0 ++ [.lst acc]) = .ok x (S2 ++ [.lst acc])) :
    ∃ xs S2, Inv S2 ∧ xs.length = ds.length ∧ (∀ k x, xs[k]? = some x → P k x) ∧ okL 0 xs = true ∧ compM mi (.nm i) yesB el [i] δ S = .ok (.lst xs) S2 := by
  have key : ∀ (r : List D) (k : Nat) (acc : List D) (S0 : Store), ds.drop k = r → Inv S0 → acc.length = k → ∃ xs S2, Inv S2 ∧ xs.length = r.length ∧ (∀ j x, xs[j]? = some x → P (k + j) x) ∧ okL 0 xs = true ∧
      compL src (.nm i) yesB el S1.length ds (δ.set i none) r (S0 ++ [.lst acc]) = some (S2 ++ [.lst (acc ++ xs)]) := by
    intro r
    induction r with
    | nil =>
      intro k acc S0 hr hI ha
      refine ⟨[], S0, hI, rfl, fun j x e => by simp at e, rfl, ?_⟩
      unfold compL
      rw [if_pos (hit S0 _ hI), List.append_nil]
    | cons d r ih =>
      intro k acc S0 hr hI ha
      have hk : ds[k]? = some d := by
        have := congrArg (fun l => l[0]?) hr
        simpa using this
      have hr' : ds.drop (k + 1) = r := by
        have := congrArg List.tail hr
        simpa using this
      have hkl := (List.getElem?_eq_some_iff.mp hk).1
      obtain ⟨x, S2, hI2, hP, hok, he⟩ := hel k d hk S0 acc hI
      obtain ⟨xs, S3, hI3, hl, hP3, hok3, hc⟩ := ih (k + 1) (acc ++ [x]) S2 hr' hI2 (by simp [ha])
      refine ⟨x :: xs, S3, hI3, by simp [hl], fun j y e => ?_, by simp [okL, hok, hok3], ?_⟩
      · cases j with
        | zero => simp at e; subst e; exact hP
        | succ j =>
          simp at e
          have := hP3 j y e
          rwa [show k + 1 + j = k + (j + 1) by omega] at this
      · unfold compL
        rw [if_pos (hit S0 _ hI)]
        have ha2 : appC S1.length (S2 ++ [.lst acc]) x = some (S2 ++ [.lst (acc ++ [x])]) := by
          unfold appC
          have e1 : (S2 ++ [Cell.lst acc])[S1.length]? = some (.lst acc) := by rw [← hlen S2 hI2]; simp
          rw [e1]
          simp only
          rw [if_pos (by omega)]
          congr 1
          rw [← hlen S2 hI2, List.set_append_right _ _ (Nat.le_refl _)]
          simp
        simp only [bindT, yesB, he, ha2]
        rw [hc]
        simp
  obtain ⟨xs, S2, hI2, hl, hP, hok, hc⟩ := key ds 0 [] S1 rfl h1 rfl
  refine ⟨xs, S2, hI2, hl, fun k x e => by simpa using hP k x e, hok, ?_⟩
  unfold compM
  rw [hmi]
  have e0 : items S1 src = some ds := by simpa using hit S1 [] h1
  simp only [bind_ok, e0]
  have hw : wipeD δ [i] = δ.set i none := rfl
  rw [hw, hc]
  simp only [List.nil_append]
  unfold endC
  have e1 : (S2 ++ [Cell.lst xs])[S1.length]? = some (.lst xs) := by rw [← hlen S2 hI2]; simp
  rw [e1]
  simp only
  have hs : Settles S1 (S2 ++ [Cell.lst xs]) := fun j c hj e => hset S2 hI2 j c hj (by rwa [List.getElem?_append_left (by rw [hlen S2 hI2]; exact hj)] at e)
  rw [if_pos ⟨by rw [List.length_append, hlen S2 hI2]; rfl, okL_up _ _ hok, hs⟩, ← hlen S2 hI2, List.take_left]
/-! ### loops -/
theorem for_gen {src : Src} {tg : Tg} {b : MS} {ds : List D} {J : Nat → DEnv → Store → Prop} (hit : ∀ k δ S, J k δ S → items S src = some ds)
    (hb : ∀ (k : Nat) (d : D), ds[k]? = some d → ∀ δ S, J k δ S → ∃ δ1 δ2 S2, bindT tg d δ = some δ1 ∧ b δ1 S = .nx δ2 S2 ∧ J (k + 1) δ2 S2) {δ : DEnv} {S : Store} (h0 : J 0 δ S) :
    ∃ δ' S', J ds.length δ' S' ∧ forL src tg b ds ds δ S = .nx δ' S' := by
  have key : ∀ (r : List D) (k : Nat) (δ : DEnv) (S : Store), ds.drop k = r → J k δ S → ∃ δ' S', J (k + r.length) δ' S' ∧ forL src tg b ds r δ S = .nx δ' S' := by
    intro r
    induction r with
    | nil =>
      intro k δ S hr hJ
      refine ⟨δ, S, hJ, ?_⟩
      unfold forL
      rw [if_pos (hit k δ S hJ)]
    | cons d r ih =>
      intro k δ S hr hJ
      have hk : ds[k]? = some d := by
        have := congrArg (fun l => l[0]?) hr
        simpa using this
      have hr' : ds.drop (k + 1) = r := by
        have := congrArg List.tail hr
        simpa using this
      obtain ⟨δ1, δ2, S2, e1, e2, hJ2⟩ := hb k d hk δ S hJ
      obtain ⟨δ', S', hJ', e3⟩ := ih (k + 1) δ2 S2 hr' hJ2
      refine ⟨δ', S', by rwa [show k + (d :: r).length = k + 1 + r.length by simp; omega], ?_⟩
      unfold forL
      rw [if_pos (hit k δ S hJ), e1]
      simp only
      rw [e2]
      exact e3
  obtain ⟨δ', S', hJ, e⟩ := key ds 0 δ S rfl h0
  exact ⟨δ', S', by simpa using hJ, e⟩
/-! ### step by step -/
section
variable {m1 m2 b : MS} {δ δ1 δ2 : DEnv} {S S1 S2 : Store} {d x : D} {e : Ex} {src : Src} {tg : Tg} {ds r : List D} {mi : DEnv → Store → Res Src} {me : ME} {nc : MB} {i : Nat}
theorem seq_nx (h : m1 δ S = .nx δ1 S1) : seqM m1 m2 δ S = m2 δ1 S1 := by rw [seqM, h]
theorem seq_rt (h : m1 δ S = .rt d S1) : seqM m1 m2 δ S = .rt d S1 := by rw [seqM, h]
theorem seq_exc (h : m1 δ S = .exc e δ1 S1) : seqM m1 m2 δ S = .exc e δ1 S1 := by rw [seqM, h]
theorem if_t (h : nc δ S = .ok true S1) : ifSM nc m1 m2 δ S = m1 δ S1 := by rw [ifSM, h]; simp
theorem if_f (h : nc δ S = .ok false S1) : ifSM nc m1 m2 δ S = m2 δ S1 := by rw [ifSM, h]; simp
theorem if_fnx (h : nc δ S = .ok false S1) : ifSM nc m1 nxM δ S = .nx δ S1 := by rw [if_f h]; rfl
theorem asg_ok (h : me δ S = .ok d S1) : asgM i me δ S = .nx (δ.set i (some d)) S1 := by rw [asgM, h]; rfl
theorem asg_exc (h : me δ S = .exc e S1) : asgM i me δ S = .exc e δ S1 := by rw [asgM, h]; rfl
theorem asgT_ok (h : me δ S = .ok d S1) (hb : bindT tg d δ = some δ1) : asgT tg me δ S = .nx δ1 S1 := by
  unfold asgT
  rw [h]
  simp only [bindS_ok, hb]
theorem expr_ok (h : me δ S = .ok d S1) : exprM me δ S = .nx δ S1 := by rw [exprM, h]; rfl
theorem expr_exc (h : me δ S = .exc e S1) : exprM me δ S = .exc e δ S1 := by rw [exprM, h]; rfl
theorem ret_ok (h : me δ S = .ok d S1) : retM me δ S = .rt d S1 := by rw [retM, h]; rfl
theorem ret_exc (h : me δ S = .exc e S1) : retM me δ S = .exc e δ S1 := by rw [retM, h]; rfl
theorem forM_is (hm : mi δ S = .ok src S1) (hi : items S1 src = some ds) : SL.forM mi tg b δ S = forL src tg b ds ds δ S1 := by
  unfold SL.forM
  rw [hm]
  simp only [bindS_ok, hi]
theorem forL_nx (hi : items S src = some ds) (hb : bindT tg d δ = some δ1) (h : b δ1 S = .nx δ2 S2) : forL src tg b ds (d :: r) δ S = forL src tg b ds r δ2 S2 := by
  rw [forL, if_pos hi, hb]
  simp only
  rw [h]
theorem forL_rt (hi : items S src = some ds) (hb : bindT tg d δ = some δ1) (h : b δ1 S = .rt x S2) : forL src tg b ds (d :: r) δ S = .rt x S2 := by
  rw [forL, if_pos hi, hb]
  simp only
  rw [h]
theorem forL_nil (hi : items S src = some ds) : forL src tg b ds [] δ S = .nx δ S := by rw [forL, if_pos hi]
end
end SL

/-! SL: plain laws, common parts: _law_same of a tree with itself. -/
namespace SL
open PySem PySem.Spec L2
open PyProof.Rows hiding St
noncomputable def sameM (φ : Fn) : MS := (seqM (ifSM (trM (callG isiA (consM (vM 1) (consM (callG tupG (consM (cM (.raw (.ty "list"))) (consM (cM (.raw (.ty "tuple"))) nilM))) nilM)))) (seqM (ifSM (orB (cmpB neG (callG isiA (consM (vM 1) (consM (cM (.raw (.ty "list"))) nilM))) (callG isiA (consM (vM 0) (consM (cM (.raw (.ty "list"))) nilM)))) (cmpB neG (callG isiA (consM (vM 1) (consM (cM (.raw (.ty "tuple"))) nilM))) (callG isiA (consM (vM 0) (consM (cM (.raw (.ty "tuple"))) nilM))))) (retM (cM (.bl false))) nxM)
  (retM (andM (op2M eqG (callG lenG (consM (vM 0) nilM)) (callG lenG (consM (vM 1) nilM))) (callG allG (consM (compM (src1 (callG lenG (consM (vM 1) nilM))) (.nm 2) yesB (appM 2 φ (consM (op2M ixG (vM 0) (vM 2)) (consM (op2M ixG (vM 1) (vM 2)) nilM)) []) [2]) nilM))))) nxM)
  (seqM (ifSM (orB (cmpB neG (callG isiA (consM (vM 0) (consM (cM (.raw (.ty "bool"))) nilM))) (callG isiA (consM (vM 1) (consM (cM (.raw (.ty "bool"))) nilM)))) (cmpB neG (callG isiA (consM (vM 0) (consM (cM (.raw (.ty "str"))) nilM))) (callG isiA (consM (vM 1) (consM (cM (.raw (.ty "str"))) nilM))))) (retM (cM (.bl false))) nxM)
  (retM (andM (op2M eqG (op2M isG (vM 0) (cM .non)) (op2M isG (vM 1) (cM .non))) (op2M eqG (vM 0) (vM 1))))))
noncomputable def sameN : Nat → Fn
  | 0 => stuckF
  | n + 1 => defM 3 (sameM (sameN n))
/-- data of at most this many floors -/
def pl : Nat → D → Prop
  | 0, _ => False
  | n + 1, .tup ds => ds.length ≤ 100000 ∧ ∀ d ∈ ds, pl n d
  | n + 1, .lst ds => ds.length ≤ 100000 ∧ ∀ d ∈ ds, pl n d
  | _ + 1, .non => True
  | _ + 1, .bl _ => True
  | _ + 1, .int _ => True
  | _ + 1, .str _ => True
  | _ + 1, _ => False
theorem pl_cl : ∀ {n : Nat} {d : D}, pl n d → okD 0 d = true
  | 0, _, h => False.elim h
  | n + 1, .tup ds, h => by simp only [okD]; exact okL_iff.mpr fun d hd => pl_cl (h.2 d hd)
  | n + 1, .lst ds, h => by simp only [okD]; exact okL_iff.mpr fun d hd => pl_cl (h.2 d hd)
  | _ + 1, .non, _ => rfl
  | _ + 1, .bl _, _ => rfl
  | _ + 1, .int _, _ => rfl
  | _ + 1, .str _, _ => rfl
  | _ + 1, .loc _, h => False.elim h
  | _ + 1, .raw _, h => False.elim h
  | _ + 1, .dct _ _, h => False.elim h
  | _ + 1, .obj _ _ _, h => False.elim h
  | _ + 1, .exn _ _ _ _, h => False.elim h
theorem pl_up : ∀ {n : Nat} {d : D}, pl n d → ∀ m, n ≤ m → pl m d
  | 0, _, h, _, _ => False.elim h
  | _ + 1, _, _, 0, h => by omega
  | n + 1, .tup ds, h, m + 1, hm => ⟨h.1, fun d hd => pl_up (h.2 d hd) m (by omega)⟩
  | n + 1, .lst ds, h, m + 1, hm => ⟨h.1, fun d hd => pl_up (h.2 d hd) m (by omega)⟩
  | _ + 1, .non, _, _ + 1, _ => trivial
  | _ + 1, .bl _, _, _ + 1, _ => trivial
  | _ + 1, .int _, _, _ + 1, _ => trivial
  | _ + 1, .str _, _, _ + 1, _ => trivial
  | _ + 1, .loc _, h, _ + 1, _ => False.elim h
  | _ + 1, .raw _, h, _ + 1, _ => False.elim h
  | _ + 1, .dct _ _, h, _ + 1, _ => False.elim h
  | _ + 1, .obj _ _ _, h, _ + 1, _ => False.elim h
  | _ + 1, .exn _ _ _ _, h, _ + 1, _ => False.elim h
theorem gEqB {S : Store} {a b : Bool} : eqG S (.bl a) (.bl b) = some (.bl (decide (a = b))) := by cases a <;> cases b <;> rfl
theorem gNeB {S : Store} {a b : Bool} : neG S (.bl a) (.bl b) = some (.bl (!decide (a = b))) := by cases a <;> cases b <;> rfl
theorem bs_all {xs : List D} (h : ∀ (k : Nat) (x : D), xs[k]? = some x → x = D.bl true) : ∃ bs, asBs xs = some bs ∧ bs.all id = true := by
  induction xs with
  | nil => exact ⟨[], rfl, rfl⟩
  | cons x xs ih =>
    obtain ⟨bs, e1, e2⟩ := ih fun k y e => h (k + 1) y (by simpa using e)
    have := h 0 x rfl
    subst this
    exact ⟨true :: bs, by simp [asBs, e1], by simpa using e2⟩
theorem same_seq {n : Nat} {ds : List D} (ih : ∀ d ∈ ds, ∀ S, sameN n [d, d] S = .ok (.bl true) S) (hl : ds.length ≤ 100000) {x : D} (hx : x = .tup ds ∨ x = .lst ds) (S : Store) : sameN (n + 1) [x, x] S = .ok (.bl true) S := by
  have hix : ∀ (S : Store) (k : Nat) (d : D), ds[k]? = some d → ixG S x (.int k) = some d := fun S k d e => by
    rcases hx with rfl | rfl
    · exact gIxT e
    · exact gIxL e
  have hlen : ∀ S : Store, lenG S [x] = some (.int ds.length) := fun S => by rcases hx with rfl | rfl <;> rfl
  have hi1 : ∀ S : Store, isiA S [x, .tup [.raw (.ty "list"), .raw (.ty "tuple")]] = some (.bl true) := fun S => by rcases hx with rfl | rfl <;> rfl
  have hi2 : ∃ b, ∀ S : Store, isiA S [x, .raw (.ty "list")] = some (.bl b) := by rcases hx with rfl | rfl <;> exact ⟨_, fun S => rfl⟩
  have hi3 : ∃ b, ∀ S : Store, isiA S [x, .raw (.ty "tuple")] = some (.bl b) := by rcases hx with rfl | rfl <;> exact ⟨_, fun S => rfl⟩
  obtain ⟨b2, hi2⟩ := hi2
  obtain ⟨b3, hi3⟩ := hi3
  have hc : ∃ xs S2, S2 = S ∧ xs.length = ds.length ∧ (∀ (k : Nat) (y : D), xs[k]? = some y → y = D.bl true) ∧ okL 0 xs = true ∧
      compM (src1 (callG lenG (consM (vM 1) nilM))) (.nm 2) yesB (appM 2 (sameN n) (consM (op2M ixG (vM 0) (vM 2)) (consM (op2M ixG (vM 1) (vM 2)) nilM)) []) [2] [some x, some x, none] S = .ok (.lst xs) S2 := by
    have hsrc : src1 (callG lenG (consM (vM 1) nilM)) [some x, some x, none] S = .ok (.rng 0 1 ds.length) S := by
      refine src1_of ?_ (by omega)
      simp only [callG, consM, nilM, vM, hlen, bind_ok, RO_some, List.getElem?_cons_zero, List.getElem?_cons_succ]
    have := comp_gen (el := appM 2 (sameN n) (consM (op2M ixG (vM 0) (vM 2)) (consM (op2M ixG (vM 1) (vM 2)) nilM)) []) (i := 2) (ds := (List.range ds.length).map fun (i : Nat) => D.int (0 + (i : Int) * 1)) (Inv := fun S0 => S0 = S) (P := fun _ y => y = D.bl true) hsrc rfl (fun S0 h => by rw [h]) (fun S0 h => by rw [h]; exact Settles.same) (fun S0 t h => rfl) (by simp; omega) (fun k d hd S0 acc hI => ?_)
    · obtain ⟨xs, S2, e1, e2, e3, e4, e5⟩ := this
      exact ⟨xs, S2, e1, by simpa using e2, e3, e4, e5⟩
    · obtain ⟨hk, rfl⟩ := rng_at hd
      refine ⟨.bl true, S0, hI, rfl, rfl, ?_⟩
      have he := List.getElem?_eq_getElem hk
      have h1 := fun S => hix S k _ he
      have h2 := ih ds[k] (List.getElem_mem hk)
      simp only [appM, consM, nilM, op2M, vM, h1, bind_ok, RO_some, List.set_cons_succ, List.set_cons_zero, List.getElem?_cons_zero, List.getElem?_cons_succ, List.append_nil, List.length_cons, List.length_nil, Nat.reduceAdd, if_true, h2]
  obtain ⟨xs, S2, rfl, e2, e3, e4, e5⟩ := hc
  obtain ⟨bs, f1, f2⟩ := bs_all e3
  have hall : allG S2 [.lst xs] = some (.bl true) := by
    show (match asBs xs with | some bs => some (D.bl (bs.all id)) | none => none) = _
    rw [f1]
    simp [f2]
  show finD S2 (sameM (sameN n) (startD 3 [x, x]) S2) = _
  have hs : startD 3 [x, x] = [some x, some x, none] := rfl
  rw [hs]
  have htup : tupG S2 [.raw (.ty "list"), .raw (.ty "tuple")] = some (.tup [.raw (.ty "list"), .raw (.ty "tuple")]) := rfl
  have t1 : truthB S2 (.bl true) = some true := rfl
  unfold sameM
  simp only [seqM, ifSM, trM, orB, cmpB, andM, callG, consM, nilM, op2M, retM, nxM, vM, cM, htup, hi1, hi2, hi3, hlen, gNeB, gEqI, t1, asB, bindS_ok, bind_ok, RO_some, List.getElem?_cons_zero, List.getElem?_cons_succ, decide_true, Bool.not_true, Bool.false_eq_true, if_false, if_true]
  have e5' := e5
  rw [e5']
  simp only [bind_ok, hall, RO_some, bindS_ok, finD]
  exact fin_cl rfl rfl
theorem same_sc {n : Nat} {x : D} {S : Store} (h : sameM (sameN n) [some x, some x, none] S = .rt (.bl true) S) : sameN (n + 1) [x, x] S = .ok (.bl true) S := by
  show finD S (sameM (sameN n) [some x, some x, none] S) = _
  rw [h]
  exact fin_cl (d := .bl true) rfl rfl
theorem same_ok : ∀ (n : Nat) (x : D), pl n x → ∀ S, sameN n [x, x] S = .ok (.bl true) S
  | 0, _, h, _ => False.elim h
  | n + 1, .tup ds, h, S => same_seq (fun d hd S => same_ok n d (h.2 d hd) S) h.1 (.inl rfl) S
  | n + 1, .lst ds, h, S => same_seq (fun d hd S => same_ok n d (h.2 d hd) S) h.1 (.inr rfl) S
  | n + 1, .non, _, S => same_sc rfl
  | n + 1, .bl b, _, S => same_sc (by cases b <;> rfl)
  | n + 1, .int i, _, S => by
    have e : eqG S (.int i) (.int i) = some (.bl true) := by rw [gEqI]; simp
    refine same_sc ?_
    show bindS ((RO (eqG S (.int i) (.int i)) S : Res D)) [some (.int i), some (.int i), none] (fun d S1 => Flw.rt d S1) = _
    rw [e]; rfl
  | n + 1, .str l, _, S => by
    have e : eqG S (.str l) (.str l) = some (.bl true) := by rw [gEqS]; simp
    refine same_sc ?_
    show bindS ((RO (eqG S (.str l) (.str l)) S : Res D)) [some (.str l), some (.str l), none] (fun d S1 => Flw.rt d S1) = _
    rw [e]; rfl
  | _ + 1, .loc _, h, _ => False.elim h
  | _ + 1, .raw _, h, _ => False.elim h
  | _ + 1, .dct _ _, h, _ => False.elim h
  | _ + 1, .obj _ _ _, h, _ => False.elim h
  | _ + 1, .exn _ _ _ _, h, _ => False.elim h
end SL

/-! SL: plain laws, common parts: objects. -/
namespace SL
open PySem PySem.Spec L2
open PyProof.Rows hiding St
section
variable {mo mv me : ME} {ms mk : MA} {δ : DEnv} {S S1 S2 S3 : Store} {r n j q : Nat} {C : Addr} {ns ns2 : List Str} {ds ds2 xs zs : List D} {d y z : D} {f m : Str} {φ : Fn} {g : Store → D → D → Option D} {x : Ex} {gD : List D → List D → List D}
theorem asO_loc (h : S[r]? = some (.obj C ns ds)) : asO S (.loc r) = some (C, ns, ds) := by
  show (match S[r]? with | some (.obj C ns ds) => some (C, ns, ds) | _ => none) = _
  rw [h]
theorem fld_ok (h : mo δ S = .ok (.loc r) S1) (hS : S1[r]? = some (.obj C ns ds)) (hl : lookS ns ds f = some d) : fldM C f mo δ S = .ok d S1 := by
  unfold fldM
  rw [h]
  simp only [bind_ok, asO_loc hS, if_true, hl, RO_some]
theorem setf_ok (hv : mv δ S = .ok d S1) (h : mo δ S1 = .ok (.loc r) S2) (hS : S2[r]? = some (.obj C ns ds)) (hn : ns.length < 1000) : setfM C f mo mv δ S = .nx δ (S2.set r (.obj C (putS ns ds f d).1 (putS ns ds f d).2)) := by
  unfold setfM
  rw [hv]
  simp only [bindS_ok, h, hS]
  rw [if_pos ⟨trivial, hn⟩]
theorem fldaug_ok (h : mo δ S = .ok (.loc r) S1) (hS : S1[r]? = some (.obj C ns ds)) (hl : lookS ns ds f = some d) (hv : mv δ S1 = .ok y S2) (hS2 : S2[r]? = some (.obj C ns2 ds2)) (hn : ns2.length < 1000) (hg : g S2 d y = some z) :
    fldaugM C f g mo mv δ S = .nx δ (S2.set r (.obj C (putS ns2 ds2 f z).1 (putS ns2 ds2 f z).2)) := by
  unfold fldaugM
  rw [h]
  simp only [bindS_ok, hS, if_true, hl, hv, hS2]
  rw [if_pos ⟨trivial, hn⟩, hg]
theorem meth_is (h : mo δ S = .ok (.loc r) S1) (hS : S1[r]? = some (.obj C ns ds)) (hl : lookS ns ds m = none) (ha : ms δ S1 = .ok xs S2) (hn : xs.length + 1 = n) : methM C m n φ mo ms [] δ S = φ (.loc r :: xs) S2 := by
  unfold methM selfM
  rw [h]
  simp only [bind_ok, asO_loc hS, hl, and_self, if_true, ha, List.append_nil, List.length_cons, hn]
theorem meth_exc (h : mo δ S = .ok (.loc r) S1) (hS : S1[r]? = some (.obj C ns ds)) (hl : lookS ns ds m = none) (ha : ms δ S1 = .exc x S2) : methM C m n φ mo ms [] δ S = .exc x S2 := by
  unfold methM selfM
  rw [h]
  simp only [bind_ok, asO_loc hS, hl, and_self, if_true, ha, bind_exc]
theorem methN_is (h : mo δ S = .ok (.loc r) S1) (hS : S1[r]? = some (.obj C ns ds)) (hl : lookS ns ds m = none) (ha : ms δ S1 = .ok xs S2) (hk : mk δ S2 = .ok zs S3) (hn : xs.length + 1 = n) (hj : zs.length = j) (hq : (gD (.loc r :: xs) zs).length = q) :
    methN C m n j q φ gD mo ms mk δ S = φ (gD (.loc r :: xs) zs) S3 := by
  unfold methN selfM
  rw [h]
  simp only [bind_ok, asO_loc hS, hl, and_self, if_true, ha, hk, List.length_cons, hn, hj, hq]
theorem if_exc {nc : MB} {m1 m2 : MS} (h : nc δ S = .exc x S1) : ifSM nc m1 m2 δ S = .exc x δ S1 := by rw [ifSM, h]; rfl
theorem finX_same {S : Store} {x : Ex} (h : okL 0 x.ds = true) : finX S x S = .exc x S := by
  have := finX_cut (t := []) h rfl (Settles.same (S := S))
  rwa [List.append_nil] at this
theorem raise_ok {mx : DEnv → Store → Res Ex} (h : mx δ S = .ok x S1) : raiseM mx δ S = .exc x δ S1 := by rw [raiseM, h]
theorem set_get {c : Cell} (h : r < S.length) : (S.set r c)[r]? = some c := List.getElem?_set_self h
theorem get_lt {c : Cell} (h : S[r]? = some c) : r < S.length := (List.getElem?_eq_some_iff.mp h).1
theorem set_app {c : Cell} {t : Store} (h : r < S.length) : (S ++ t).set r c = S.set r c ++ t := List.set_append_left _ _ h
end
end SL

/-! SL: one form, one lemma: what the semantic terms give. -/
namespace SL
open PySem PySem.Spec L2
section
variable {δ : DEnv} {S S1 S2 S3 : Store} {x y z w d : D} {xs zs : List D} {ma mb mc me mo : ME} {ms mk : MA} {na nb : MB} {i n : Nat} {φ : Fn} {b : Bool} {e : Ex}
theorem v_ok (h : δ[i]? = some (some d)) : vM i δ S = .ok d S := by unfold vM; rw [h]
theorem c_ok : cM d δ S = .ok d S := rfl
theorem op1_ok {g : Store → D → Option D} (ha : ma δ S = .ok x S1) (hg : g S1 x = some z) : op1M g ma δ S = .ok z S1 := by unfold op1M; rw [ha]; show RO (g S1 x) S1 = _; rw [hg]; rfl
theorem op2_ok {g : Store → D → D → Option D} (ha : ma δ S = .ok x S1) (hb : mb δ S1 = .ok y S2) (hg : g S2 x y = some z) : op2M g ma mb δ S = .ok z S2 := by
  unfold op2M; rw [ha]; show (mb δ S1).bind _ = _; rw [hb]; show RO (g S2 x y) S2 = _; rw [hg]; rfl
theorem nil_ok : nilM δ S = .ok [] S := rfl
theorem cons_ok (ha : ma δ S = .ok x S1) (hr : ms δ S1 = .ok xs S2) : consM ma ms δ S = .ok (x :: xs) S2 := by
  unfold consM; rw [ha]; show (ms δ S1).bind _ = _; rw [hr]; rfl
theorem one_ok (ha : ma δ S = .ok x S1) : consM ma nilM δ S = .ok [x] S1 := cons_ok ha nil_ok
theorem two_ok (ha : ma δ S = .ok x S1) (hb : mb δ S1 = .ok y S2) : consM ma (consM mb nilM) δ S = .ok [x, y] S2 := cons_ok ha (one_ok hb)
theorem three_ok (ha : ma δ S = .ok x S1) (hb : mb δ S1 = .ok y S2) (hc : mc δ S2 = .ok z S3) : consM ma (consM mb (consM mc nilM)) δ S = .ok [x, y, z] S3 := cons_ok ha (two_ok hb hc)
theorem cons_exc (ha : ma δ S = .exc e S1) : consM ma ms δ S = .exc e S1 := by unfold consM; rw [ha]; rfl
theorem callG_ok {g : Store → List D → Option D} (hs : ms δ S = .ok xs S1) (hg : g S1 xs = some z) : callG g ms δ S = .ok z S1 := by
  unfold callG; rw [hs]; show RO (g S1 xs) S1 = _; rw [hg]; rfl
theorem callKG_ok {g : Store → List D → List D → Option D} (hs : ms δ S = .ok xs S1) (hk : mk δ S1 = .ok zs S2) (hg : g S2 xs zs = some z) : callKG g ms mk δ S = .ok z S2 := by
  unfold callKG; rw [hs]; show (mk δ S1).bind _ = _; rw [hk]; show RO (g S2 xs zs) S2 = _; rw [hg]; rfl
theorem app_is (hs : ms δ S = .ok xs S1) (hn : xs.length = n) : appM n φ ms [] δ S = φ xs S1 := by
  unfold appM; rw [hs]; show (if (xs ++ []).length = n then φ (xs ++ []) S1 else .stuck) = _
  rw [List.append_nil, if_pos hn]
theorem cmp_ok {g : Store → D → D → Option D} (ha : ma δ S = .ok x S1) (hb : mb δ S1 = .ok y S2) (hg : g S2 x y = some (.bl b)) : cmpB g ma mb δ S = .ok b S2 := by
  unfold cmpB; rw [ha]; show (mb δ S1).bind _ = _; rw [hb]; show RO (asB (g S2 x y)) S2 = _; rw [hg]; rfl
theorem tr_ok (ha : ma δ S = .ok x S1) (ht : truthB S1 x = some b) : trM ma δ S = .ok b S1 := by
  unfold trM; rw [ha]; show RO (truthB S1 x) S1 = _; rw [ht]; rfl
theorem tr_bl (ha : ma δ S = .ok (.bl b) S1) : trM ma δ S = .ok b S1 := tr_ok ha rfl
theorem tr_exc (ha : ma δ S = .exc e S1) : trM ma δ S = .exc e S1 := by unfold trM; rw [ha]; rfl
theorem notB_ok (h : na δ S = .ok b S1) : notB na δ S = .ok (!b) S1 := by unfold notB; rw [h]; rfl
theorem andB_t (h : na δ S = .ok true S1) : andB na nb δ S = nb δ S1 := by unfold andB; rw [h]; rfl
theorem andB_f (h : na δ S = .ok false S1) : andB na nb δ S = .ok false S1 := by unfold andB; rw [h]; rfl
theorem orB_t (h : na δ S = .ok true S1) : orB na nb δ S = .ok true S1 := by unfold orB; rw [h]; rfl
theorem orB_f (h : na δ S = .ok false S1) : orB na nb δ S = nb δ S1 := by unfold orB; rw [h]; rfl
theorem andM_t (h : ma δ S = .ok (.bl true) S1) : andM ma mb δ S = mb δ S1 := by unfold andM; rw [h]; rfl
theorem andM_f (h : ma δ S = .ok (.bl false) S1) : andM ma mb δ S = .ok (.bl false) S1 := by unfold andM; rw [h]; rfl
theorem orM_t (h : ma δ S = .ok (.bl true) S1) : orM ma mb δ S = .ok (.bl true) S1 := by unfold orM; rw [h]; rfl
theorem orM_f (h : ma δ S = .ok (.bl false) S1) : orM ma mb δ S = mb δ S1 := by unfold orM; rw [h]; rfl
theorem notM_ok (h : ma δ S = .ok (.bl b) S1) : notM ma δ S = .ok (.bl (!b)) S1 := by unfold notM; rw [h]; rfl
theorem andM_bl {a c : Bool} (h : ma δ S = .ok (.bl a) S) (h2 : a = true → mb δ S = .ok (.bl c) S) : andM ma mb δ S = .ok (.bl (a && c)) S := by
  cases a with
  | false => exact andM_f h
  | true => exact (andM_t h).trans (h2 rfl)
theorem ch_t {g g' : Store → D → D → Option D} (ha : ma δ S = .ok x S1) (hb : mb δ S1 = .ok y S2) (hg : g S2 x y = some (.bl true)) (hc : mc δ S2 = .ok z S3) (hg' : g' S3 y z = some w) : chM g g' ma mb mc δ S = .ok w S3 := by
  unfold chM; rw [ha]; show (mb δ S1).bind _ = _; rw [hb]
  show (match asB (g S2 x y) with | some true => (mc δ S2).bind fun z S3 => RO (g' S3 y z) S3 | some false => .ok (.bl false) S2 | none => .stuck) = _
  rw [hg]; show (mc δ S2).bind _ = _; rw [hc]; show RO (g' S3 y z) S3 = _; rw [hg']; rfl
theorem ch_f {g g' : Store → D → D → Option D} (ha : ma δ S = .ok x S1) (hb : mb δ S1 = .ok y S2) (hg : g S2 x y = some (.bl false)) : chM g g' ma mb mc δ S = .ok (.bl false) S2 := by
  unfold chM; rw [ha]; show (mb δ S1).bind _ = _; rw [hb]
  show (match asB (g S2 x y) with | some true => (mc δ S2).bind fun z S3 => RO (g' S3 y z) S3 | some false => .ok (.bl false) S2 | none => .stuck) = _
  rw [hg]; rfl
theorem ifM_t (h : na δ S = .ok true S1) : ifM na ma mb δ S = ma δ S1 := by unfold ifM; rw [h]; rfl
theorem ifM_f (h : na δ S = .ok false S1) : ifM na ma mb δ S = mb δ S1 := by unfold ifM; rw [h]; rfl
theorem mtS_ok {g : Store → D → List D → Option D} (ho : mo δ S = .ok x S1) (hx : isS x = true) (hs : ms δ S1 = .ok xs S2) (hg : g S2 x xs = some z) : mtS g mo ms δ S = .ok z S2 := by
  unfold mtS; rw [ho]; show (if isS x = true then (ms δ S1).bind fun xs S2 => RO (g S2 x xs) S2 else .stuck) = _
  rw [if_pos hx, hs]; show RO (g S2 x xs) S2 = _; rw [hg]; rfl
end
end SL

/-! SL: a comprehension with a test, over a store that stays. -/
namespace SL
open PySem PySem.Spec L2
theorem comp_flt {mi : DEnv → Store → Res Src} {tst : MB} {el : ME} {i : Nat} {δ : DEnv} {S : Store} {src : Src} {ds : List D} {ps : List (D × Option D)} (hds : ds = ps.map (·.1))
    (hmi : mi δ S = .ok src S) (hit : ∀ t, items (S ++ t) src = some ds) (hn : ds.length ≤ 1000000)
    (hel : ∀ d f, (d, f) ∈ ps → ∀ acc, tst ((δ.set i none).set i (some d)) (S ++ [.lst acc]) = .ok f.isSome (S ++ [.lst acc]) ∧ ∀ x, f = some x → okD 0 x = true ∧ el ((δ.set i none).set i (some d)) (S ++ [.lst acc]) = .ok x (S ++ [.lst acc])) :
    compM mi (.nm i) tst el [i] δ S = .ok (.lst (ps.filterMap (·.2))) S := by
  have key : ∀ (r : List (D × Option D)) (acc : List D), (∀ d, d ∈ r → d ∈ ps) → acc.length + r.length ≤ 1000000 → compL src (.nm i) tst el S.length ds (δ.set i none) (r.map (·.1)) (S ++ [.lst acc]) = some (S ++ [.lst (acc ++ r.filterMap (·.2))]) := by
    intro r
    induction r with
    | nil =>
      intro acc _ _
      rw [List.map_nil]
      unfold compL
      rw [if_pos (hit _)]
      simp
    | cons p r ih =>
      obtain ⟨d, f⟩ := p
      intro acc hm hl
      obtain ⟨h1, h2⟩ := hel d f (hm _ (by simp)) acc
      simp only [List.length_cons] at hl
      rw [List.map_cons]
      unfold compL
      rw [if_pos (hit _)]
      simp only [bindT, h1]
      cases f with
      | none =>
        simp only [Option.isSome_none]
        rw [ih acc (fun d hd => hm d (by simp [hd])) (by omega)]
        simp
      | some x =>
        obtain ⟨h3, h4⟩ := h2 x rfl
        have ha2 : appC S.length (S ++ [.lst acc]) x = some (S ++ [.lst (acc ++ [x])]) := by
          unfold appC
          have e1 : (S ++ [Cell.lst acc])[S.length]? = some (.lst acc) := by simp
          rw [e1]
          simp only
          rw [if_pos (by omega)]
          congr 1
          rw [List.set_append_right _ _ (Nat.le_refl _)]
          simp
        simp only [Option.isSome_some, h4, ha2]
        rw [ih (acc ++ [x]) (fun d hd => hm d (by simp [hd])) (by simp; omega)]
        simp
  have hok : okL 0 (ps.filterMap (·.2)) = true := by
    refine okL_iff.mpr fun x hx => ?_
    obtain ⟨⟨d, f⟩, hd, e⟩ := List.mem_filterMap.mp hx
    exact ((hel d f hd []).2 x e).1
  unfold compM
  rw [hmi]
  have e0 : items S src = some ds := by simpa using hit []
  simp only [bind_ok, e0]
  have hw : wipeD δ [i] = δ.set i none := rfl
  rw [hw, show compL src (.nm i) tst el S.length ds (δ.set i none) ds (S ++ [.lst []]) = _ from (congrArg (fun z => compL src (.nm i) tst el S.length ds (δ.set i none) z (S ++ [.lst []])) hds).trans (key ps [] (fun d h => h) (by rw [hds, List.length_map] at hn; simpa using hn))]
  simp only [List.nil_append]
  unfold endC
  have e1 : (S ++ [Cell.lst (ps.filterMap (·.2))])[S.length]? = some (.lst (ps.filterMap (·.2))) := by simp
  rw [e1]
  simp only
  have hs : Settles S (S ++ [Cell.lst (ps.filterMap (·.2))]) := Settles.app
  rw [if_pos ⟨by rw [List.length_append]; rfl, okL_up _ _ hok, hs⟩, List.take_left]
end SL

/-! SL: a calculus of what must hold ahead: wp (values), wf (statements). -/
namespace SL
open PySem PySem.Spec L2
def wp {α : Type} (r : Res α) (Q : α → Store → Prop) (X : Ex → Store → Prop) : Prop := match r with
  | .ok a S => Q a S
  | .exc x S => X x S
  | .stuck => False
def wf (r : Flw) (N : DEnv → Store → Prop) (R : D → Store → Prop) (X : Ex → DEnv → Store → Prop) (B C : DEnv → Store → Prop) : Prop := match r with
  | .nx δ S => N δ S
  | .rt d S => R d S
  | .exc x δ S => X x δ S
  | .bk δ S => B δ S
  | .ct δ S => C δ S
  | .stuck => False
/-- a pure operation's answer -/
def GW {α : Type} (o : Option α) (P : α → Prop) : Prop := ∃ z, o = some z ∧ P z
abbrev noX : Ex → Store → Prop := fun _ _ => False
abbrev noXs : Ex → DEnv → Store → Prop := fun _ _ _ => False
abbrev noB : DEnv → Store → Prop := fun _ _ => False
abbrev noR : D → Store → Prop := fun _ _ => False
section
variable {α β : Type} {r : Res α} {Q Q' : α → Store → Prop} {X X' : Ex → Store → Prop} {S S1 S2 : Store} {a : α}
theorem wp_ok (h : r = .ok a S) (k : Q a S) : wp r Q X := by rw [h]; exact k
theorem wp_exc {x : Ex} (h : r = .exc x S) (k : X x S) : wp r Q X := by rw [h]; exact k
theorem wp_mono (h : wp r Q X) (k : ∀ a S, Q a S → Q' a S) (kx : ∀ x S, X x S → X' x S) : wp r Q' X' := by
  cases r with
  | ok a S => exact k a S h
  | exc x S => exact kx x S h
  | stuck => exact h
theorem wp_q (h : wp r Q X) (k : ∀ a S, Q a S → Q' a S) : wp r Q' X := wp_mono h k fun _ _ h => h
theorem wp_x {x : Ex → Store → Prop} (h : wp r Q noX) (k : ∀ a S, Q a S → Q' a S) : wp r Q' X := wp_mono h k fun _ _ h => h.elim
theorem wp_get (h : wp r Q noX) : ∃ a S, r = .ok a S ∧ Q a S := by
  cases r with
  | ok a S => exact ⟨a, S, rfl, h⟩
  | exc x S => exact h.elim
  | stuck => exact h.elim
theorem wp_eq {d : α} (h : wp r (fun z S2 => z = d ∧ S2 = S1) noX) : r = .ok d S1 := by
  obtain ⟨a, S, e, rfl, rfl⟩ := wp_get h
  exact e
theorem wp_bind {f : α → Store → Res β} {Q : β → Store → Prop} (h : wp r (fun a S => wp (f a S) Q X) X) : wp (r.bind f) Q X := by
  cases r with
  | ok a S => exact h
  | exc x S => exact h
  | stuck => exact h
theorem wp_RO {o : Option α} (h : GW o fun z => Q z S) : wp (RO o S) Q X := by
  obtain ⟨z, rfl, h⟩ := h
  exact h
end
section
variable {r : Flw} {N N' B B' C C' : DEnv → Store → Prop} {R R' : D → Store → Prop} {X X' : Ex → DEnv → Store → Prop}
theorem wf_mono (h : wf r N R X B C) (n : ∀ δ S, N δ S → N' δ S) (rt : ∀ d S, R d S → R' d S) (x : ∀ e δ S, X e δ S → X' e δ S) (b : ∀ δ S, B δ S → B' δ S) (c : ∀ δ S, C δ S → C' δ S) : wf r N' R' X' B' C' := by
  cases r with
  | nx δ S => exact n δ S h
  | rt d S => exact rt d S h
  | exc e δ S => exact x e δ S h
  | bk δ S => exact b δ S h
  | ct δ S => exact c δ S h
  | stuck => exact h
theorem wf_nx (h : wf r N noR noXs noB noB) : ∃ δ S, r = .nx δ S ∧ N δ S := by
  cases r with
  | nx δ S => exact ⟨δ, S, rfl, h⟩
  | _ => exact h.elim
theorem wf_rt (h : wf r noB R noXs noB noB) : ∃ d S, r = .rt d S ∧ R d S := by
  cases r with
  | rt d S => exact ⟨d, S, rfl, h⟩
  | _ => exact h.elim
theorem wf_is {δ : DEnv} {S : Store} (h : r = .nx δ S) (k : N δ S) : wf r N R X B C := by rw [h]; exact k
end
/-! ### values -/
section
variable {δ : DEnv} {S : Store} {x y z d : D} {ma mb mc mo mv : ME} {ms mk : MA} {na nb : MB} {i n : Nat} {φ : Fn} {b : Bool} {Q : D → Store → Prop} {QL : List D → Store → Prop} {QB : Bool → Store → Prop} {QO : Option Int → Store → Prop} {X : Ex → Store → Prop} {g g' : Store → D → D → Option D}
theorem wp_v (h : δ[i]? = some (some d)) (k : Q d S) : wp (vM i δ S) Q X := by unfold vM; rw [h]; exact k
theorem wp_c (k : Q d S) : wp (cM d δ S) Q X := k
theorem wp_nil (k : QL [] S) : wp (nilM δ S) QL X := k
theorem wp_cons (k : wp (ma δ S) (fun x S1 => wp (ms δ S1) (fun xs S2 => QL (x :: xs) S2) X) X) : wp (consM ma ms δ S) QL X := wp_bind (wp_q k fun _ _ h => wp_bind h)
theorem wp_op2 (k : wp (ma δ S) (fun x S1 => wp (mb δ S1) (fun y S2 => GW (g S2 x y) fun z => Q z S2) X) X) : wp (op2M g ma mb δ S) Q X := wp_bind (wp_q k fun _ _ h => wp_bind (wp_q h fun _ _ h => wp_RO h))
theorem wp_op1 {g : Store → D → Option D} (k : wp (ma δ S) (fun x S1 => GW (g S1 x) fun z => Q z S1) X) : wp (op1M g ma δ S) Q X := wp_bind (wp_q k fun _ _ h => wp_RO h)
theorem wp_callG {g : Store → List D → Option D} (k : wp (ms δ S) (fun xs S1 => GW (g S1 xs) fun z => Q z S1) X) : wp (callG g ms δ S) Q X := wp_bind (wp_q k fun _ _ h => wp_RO h)
theorem wp_callKG {g : Store → List D → List D → Option D} (k : wp (ms δ S) (fun xs S1 => wp (mk δ S1) (fun zs S2 => GW (g S2 xs zs) fun z => Q z S2) X) X) : wp (callKG g ms mk δ S) Q X := wp_bind (wp_q k fun _ _ h => wp_bind (wp_q h fun _ _ h => wp_RO h))
theorem wp_appA (k : wp (ms δ S) (fun xs S1 => xs.length = n ∧ wp (φ xs S1) Q X) X) : wp (appM n φ ms [] δ S) Q X := wp_bind (wp_q k fun xs S1 h => by rw [List.append_nil, if_pos h.1]; exact h.2)
theorem wp_appD {dD : List D} (k : wp (ms δ S) (fun xs S1 => (xs ++ dD).length = n ∧ wp (φ (xs ++ dD) S1) Q X) X) : wp (appM n φ ms dD δ S) Q X := wp_bind (wp_q k fun xs S1 h => by rw [if_pos h.1]; exact h.2)
theorem wp_appN {j q : Nat} {gD : List D → List D → List D} (k : wp (ms δ S) (fun xs S1 => wp (mk δ S1) (fun zs S2 => (xs.length = n ∧ zs.length = j) ∧ (gD xs zs).length = q ∧ wp (φ (gD xs zs) S2) Q X) X) X) : wp (appN n j q φ gD ms mk δ S) Q X :=
  wp_bind (wp_q k fun xs S1 h => wp_bind (wp_q h fun zs S2 h => by rw [if_pos h.1, if_pos h.2.1]; exact h.2.2))
theorem wp_cmpB (k : wp (ma δ S) (fun x S1 => wp (mb δ S1) (fun y S2 => GW (asB (g S2 x y)) fun z => QB z S2) X) X) : wp (cmpB g ma mb δ S) QB X := wp_bind (wp_q k fun _ _ h => wp_bind (wp_q h fun _ _ h => wp_RO h))
theorem wp_trM (k : wp (ma δ S) (fun x S1 => GW (truthB S1 x) fun z => QB z S1) X) : wp (trM ma δ S) QB X := wp_bind (wp_q k fun _ _ h => wp_RO h)
theorem wp_bM (k : wp (ma δ S) (fun x S1 => GW (asB (some x)) fun z => QB z S1) X) : wp (bM ma δ S) QB X := wp_bind (wp_q k fun _ _ h => wp_RO h)
theorem wp_notB (k : wp (na δ S) (fun c S1 => QB (!c) S1) X) : wp (notB na δ S) QB X := wp_bind (wp_q k fun _ _ h => h)
theorem wp_andB (k : wp (na δ S) (fun c S1 => (c = true → wp (nb δ S1) QB X) ∧ (c = false → QB false S1)) X) : wp (andB na nb δ S) QB X := wp_bind (wp_q k fun c _ h => by cases c with | true => exact h.1 rfl | false => exact h.2 rfl)
theorem wp_orB (k : wp (na δ S) (fun c S1 => (c = true → QB true S1) ∧ (c = false → wp (nb δ S1) QB X)) X) : wp (orB na nb δ S) QB X := wp_bind (wp_q k fun c _ h => by cases c with | true => exact h.1 rfl | false => exact h.2 rfl)
theorem wp_yes (k : QB true S) : wp (yesB δ S) QB X := k
theorem wp_andM (k : wp (ma δ S) (fun x S1 => GW (truthB S1 x) fun c => (c = true → wp (mb δ S1) Q X) ∧ (c = false → Q x S1)) X) : wp (andM ma mb δ S) Q X := wp_bind (wp_q k fun x S1 h => by
  obtain ⟨c, e, h⟩ := h
  simp only [e]
  cases c with
  | true => exact h.1 rfl
  | false => exact h.2 rfl)
theorem wp_orM (k : wp (ma δ S) (fun x S1 => GW (truthB S1 x) fun c => (c = true → Q x S1) ∧ (c = false → wp (mb δ S1) Q X)) X) : wp (orM ma mb δ S) Q X := wp_bind (wp_q k fun x S1 h => by
  obtain ⟨c, e, h⟩ := h
  simp only [e]
  cases c with
  | true => exact h.1 rfl
  | false => exact h.2 rfl)
theorem wp_notM (k : wp (ma δ S) (fun x S1 => GW (truthB S1 x) fun c => Q (.bl (!c)) S1) X) : wp (notM ma δ S) Q X := wp_bind (wp_q k fun x S1 h => by
  obtain ⟨c, e, h⟩ := h
  simp only [e]
  exact h)
theorem wp_ifM (k : wp (na δ S) (fun c S1 => (c = true → wp (ma δ S1) Q X) ∧ (c = false → wp (mb δ S1) Q X)) X) : wp (ifM na ma mb δ S) Q X := wp_bind (wp_q k fun c _ h => by cases c with | true => exact h.1 rfl | false => exact h.2 rfl)
theorem wp_ch (k : wp (ma δ S) (fun x S1 => wp (mb δ S1) (fun y S2 => GW (asB (g S2 x y)) fun c => (c = true → wp (mc δ S2) (fun z S3 => GW (g' S3 y z) fun w => Q w S3) X) ∧ (c = false → Q (.bl false) S2)) X) X) : wp (chM g g' ma mb mc δ S) Q X :=
  wp_bind (wp_q k fun x S1 h => wp_bind (wp_q h fun y S2 h => by
    obtain ⟨c, e, h⟩ := h
    simp only [e]
    cases c with
    | true => exact wp_bind (wp_q (h.1 rfl) fun _ _ h => wp_RO h)
    | false => exact h.2 rfl))
theorem wp_mtM {g : Store → D → List D → Option D} (k : wp (mo δ S) (fun x S1 => wp (ms δ S1) (fun xs S2 => GW (g S2 x xs) fun z => Q z S2) X) X) : wp (mtM g mo ms δ S) Q X := wp_bind (wp_q k fun _ _ h => wp_bind (wp_q h fun _ _ h => wp_RO h))
theorem wp_mtS {g : Store → D → List D → Option D} (k : wp (mo δ S) (fun x S1 => isS x = true ∧ wp (ms δ S1) (fun xs S2 => GW (g S2 x xs) fun z => Q z S2) X) X) : wp (mtS g mo ms δ S) Q X := wp_bind (wp_q k fun _ _ h => by
  rw [if_pos h.1]
  exact wp_bind (wp_q h.2 fun _ _ h => wp_RO h))
theorem wp_noO (k : QO none S) : wp (noO δ S) QO X := k
theorem wp_soO (k : wp (ma δ S) (fun x S1 => GW (asI x) fun j => QO (some j) S1) X) : wp (soO ma δ S) QO X := wp_bind (wp_q k fun x S1 h => by
  obtain ⟨j, e, h⟩ := h
  simp only [e]
  exact h)
theorem wp_sl {ml mh : MO} (k : wp (ma δ S) (fun x S1 => wp (ml δ S1) (fun lo S2 => wp (mh δ S2) (fun hi S3 => GW (slG S3 x lo hi) fun z => Q z S3) X) X) X) : wp (slM ma ml mh δ S) Q X :=
  wp_bind (wp_q k fun _ _ h => wp_bind (wp_q h fun _ _ h => wp_bind (wp_q h fun _ _ h => wp_RO h)))
theorem wp_lstLM (k : wp (ms δ S) (fun xs S1 => xs.length ≤ 100000 ∧ Q (.loc S1.length) (S1 ++ [.lst xs])) X) : wp (lstLM ms δ S) Q X := wp_bind (wp_q k fun xs S1 h => by rw [if_pos h.1]; exact h.2)
theorem wp_listLM (k : wp (ms δ S) (fun xs S1 => ∃ ds, listG S1 xs = some (.lst ds) ∧ Q (.loc S1.length) (S1 ++ [.lst ds])) X) : wp (listLM ms δ S) Q X := wp_bind (wp_q k fun xs S1 h => by
  obtain ⟨ds, e, h⟩ := h
  simp only [e]
  exact h)
theorem wp_list2LM (k : wp (ms δ S) (fun xs S1 => ∃ ds, list2G S1 xs = some (.lst ds) ∧ Q (.loc S1.length) (S1 ++ [.lst ds])) X) : wp (list2LM ms δ S) Q X := wp_bind (wp_q k fun xs S1 h => by
  obtain ⟨ds, e, h⟩ := h
  simp only [e]
  exact h)
theorem wp_lm {g : List D → List D → Option (D × List D)} (k : wp (mo δ S) (fun x S1 => (locL S1 x).isSome = true ∧ wp (ms δ S1) (fun xs S2 => ∃ n ds d es, locL S2 x = some (n, ds) ∧ g ds xs = some (d, es) ∧ Q d (S2.set n (.lst es))) X) X) : wp (lmM g mo ms δ S) Q X := wp_bind (wp_q k fun x S1 h => by
  obtain ⟨q, e⟩ := Option.isSome_iff_exists.mp h.1
  simp only [e]
  refine wp_bind (wp_q h.2 fun xs S2 h => ?_)
  obtain ⟨n, ds, d, es, e1, e2, h⟩ := h
  simp only [e1, e2]
  exact h)
theorem locL_end {S : Store} {ds : List D} : locL (S ++ [.lst ds]) (.loc S.length) = some (S.length, ds) := by
  simp [locL]
theorem wp_lmEnd {g : List D → List D → Option (D × List D)} {ds : List D} {j : Nat} (hv : δ[j]? = some (some (.loc S.length))) (k : wp (ms δ (S ++ [.lst ds])) (fun xs S2 => ∃ S3 d es, S2 = S3 ++ [.lst ds] ∧ S3.length = S.length ∧ g ds xs = some (d, es) ∧ Q d (S3 ++ [.lst es])) X) : wp (lmM g (vM j) ms δ (S ++ [.lst ds])) Q X := by
  refine wp_lm (wp_v hv ⟨by rw [locL_end]; rfl, wp_q k fun xs S2 h => ?_⟩)
  obtain ⟨S3, d, es, rfl, hl, e, h⟩ := h
  refine ⟨S.length, ds, d, es, by rw [← hl]; exact locL_end, e, ?_⟩
  rw [List.set_append_right _ _ (by omega), hl]
  simpa using h
theorem wp_fld {C : Addr} {f : Str} {ns : List Str} {ds : List D} (k : wp (mo δ S) (fun x S1 => ∃ ns ds d, asO S1 x = some (C, ns, ds) ∧ lookS ns ds f = some d ∧ Q d S1) X) : wp (fldM C f mo δ S) Q X := wp_bind (wp_q k fun x S1 h => by
  obtain ⟨ns, ds, d, e1, e2, h⟩ := h
  simp only [e1, e2, if_true]
  exact h)
theorem wp_meth {C : Addr} {m : Str} {dD : List D} (k : wp (mo δ S) (fun x S1 => ∃ ns ds, asO S1 x = some (C, ns, ds) ∧ lookS ns ds m = none ∧ wp (ms δ S1) (fun xs S2 => (x :: (xs ++ dD)).length = n ∧ wp (φ (x :: (xs ++ dD)) S2) Q X) X) X) : wp (methM C m n φ mo ms dD δ S) Q X := by
  unfold methM selfM
  refine wp_bind (wp_q k fun x S1 h => ?_)
  obtain ⟨ns, ds, e1, e2, h⟩ := h
  simp only [e1, e2, and_self, if_true]
  exact wp_bind (wp_q h fun xs S2 h => by rw [if_pos h.1]; exact h.2)
theorem wp_methN {C : Addr} {m : Str} {j q : Nat} {gD : List D → List D → List D} (k : wp (mo δ S) (fun x S1 => ∃ ns ds, asO S1 x = some (C, ns, ds) ∧ lookS ns ds m = none ∧ wp (ms δ S1) (fun xs S2 => wp (mk δ S2) (fun zs S3 => ((x :: xs).length = n ∧ zs.length = j) ∧ (gD (x :: xs) zs).length = q ∧ wp (φ (gD (x :: xs) zs) S3) Q X) X) X) X) : wp (methN C m n j q φ gD mo ms mk δ S) Q X := by
  unfold methN selfM
  refine wp_bind (wp_q k fun x S1 h => ?_)
  obtain ⟨ns, ds, e1, e2, h⟩ := h
  simp only [e1, e2, and_self, if_true]
  exact wp_bind (wp_q h fun xs S2 h => wp_bind (wp_q h fun zs S3 h => by rw [if_pos h.1, if_pos h.2.1]; exact h.2.2))
theorem wp_fmt (k : wp (ma δ S) (fun x S1 => GW (fmtG x) fun z => Q z S1) X) : wp (fmtM ma δ S) Q X := wp_bind (wp_q k fun _ _ h => wp_RO h)
theorem wp_make {C : Addr} {dD : List D} (k : wp (ms δ S) (fun xs S1 => (D.loc S1.length :: (xs ++ dD)).length = n ∧ wp (φ (.loc S1.length :: (xs ++ dD)) (S1 ++ [.obj C [] []])) (fun r S2 => isNon r = true ∧ Q (.loc S1.length) S2) X) X) : wp (makeM C n φ ms dD δ S) Q X := wp_bind (wp_q k fun xs S1 h => by
  unfold mkM
  rw [if_pos h.1]
  exact wp_bind (wp_q h.2 fun r S2 h => by rw [if_pos h.1]; exact h.2))
theorem wp_freeze (k : wp (ma δ S) (fun d S2 => wp (finV S d S2) Q X) X) : wp (freezeM ma δ S) Q X := wp_bind (wp_q k fun _ _ h => h)
end
/-! ### statements -/
section
variable {δ : DEnv} {S : Store} {d : D} {me ma mo mi mv : ME} {m1 m2 : MS} {nc : MB} {i : Nat} {N B C : DEnv → Store → Prop} {R : D → Store → Prop} {X : Ex → DEnv → Store → Prop}
theorem wf_bind {α : Type} {r : Res α} {k : α → Store → Flw} (h : wp r (fun a S => wf (k a S) N R X B C) (fun x S => X x δ S)) : wf (bindS r δ k) N R X B C := by
  cases r with
  | ok a S => exact h
  | exc x S => exact h
  | stuck => exact h
theorem wf_seq (h : wf (m1 δ S) (fun δ S => wf (m2 δ S) N R X B C) R X B C) : wf (seqM m1 m2 δ S) N R X B C := by
  unfold seqM
  cases e : m1 δ S with
  | nx δ S => rw [e] at h; exact h
  | rt d S => rw [e] at h; exact h
  | exc e' δ S => rw [e] at h; exact h
  | bk δ S => rw [e] at h; exact h
  | ct δ S => rw [e] at h; exact h
  | stuck => rw [e] at h; exact h
theorem wf_asg (h : wp (me δ S) (fun d S1 => N (δ.set i (some d)) S1) (fun x S1 => X x δ S1)) : wf (asgM i me δ S) N R X B C := wf_bind (wp_q h fun _ _ h => h)
theorem wf_ret (h : wp (me δ S) R (fun x S1 => X x δ S1)) : wf (retM me δ S) N R X B C := wf_bind (wp_q h fun _ _ h => h)
theorem wf_retN (h : R .non S) : wf (retN δ S) N R X B C := h
theorem wf_expr (h : wp (me δ S) (fun _ S1 => N δ S1) (fun x S1 => X x δ S1)) : wf (exprM me δ S) N R X B C := wf_bind (wp_q h fun _ _ h => h)
theorem wf_if (h : wp (nc δ S) (fun c S1 => (c = true → wf (m1 δ S1) N R X B C) ∧ (c = false → wf (m2 δ S1) N R X B C)) (fun x S1 => X x δ S1)) : wf (ifSM nc m1 m2 δ S) N R X B C := wf_bind (wp_q h fun c _ h => by cases c with | true => exact h.1 rfl | false => exact h.2 rfl)
theorem wf_nxM (h : N δ S) : wf (nxM δ S) N R X B C := h
theorem wf_bkM (h : B δ S) : wf (bkM δ S) N R X B C := h
theorem wf_ctM (h : C δ S) : wf (ctM δ S) N R X B C := h
theorem wf_asgT {tg : Tg} (h : wp (me δ S) (fun d S1 => GW (bindT tg d δ) fun δ1 => N δ1 S1) (fun x S1 => X x δ S1)) : wf (asgT tg me δ S) N R X B C := wf_bind (wp_q h fun _ _ h => by
  obtain ⟨δ1, e, h⟩ := h
  simp only [e]
  exact h)
theorem wf_aug {g : Store → D → D → Option D} {x : D} (hx : δ[i]? = some (some x)) (h : wp (me δ S) (fun y S1 => GW (g S1 x y) fun z => N (δ.set i (some z)) S1) (fun x S1 => X x δ S1)) : wf (augM i g me δ S) N R X B C := by
  unfold augM
  simp only [hx]
  refine wf_bind (wp_q h fun _ _ h => ?_)
  obtain ⟨z, e, h⟩ := h
  simp only [e]
  exact h
theorem wf_setI (h : wp (mv δ S) (fun d S1 => wp (mo δ S1) (fun x S2 => wp (mi δ S2) (fun y S3 => ∃ n ds es, locL S3 x = some (n, ds) ∧ setG ds y d = some es ∧ N δ (S3.set n (.lst es))) (fun x S1 => X x δ S1)) (fun x S1 => X x δ S1)) (fun x S1 => X x δ S1)) : wf (setIM mo mi mv δ S) N R X B C :=
  wf_bind (wp_q h fun _ _ h => wf_bind (wp_q h fun _ _ h => wf_bind (wp_q h fun _ _ h => by
    obtain ⟨n, ds, es, e1, e2, h⟩ := h
    simp only [e1, e2]
    exact h)))
theorem wf_setf {Cl : Addr} {f : Str} (h : wp (mv δ S) (fun d S1 => wp (mo δ S1) (fun x S2 => ∃ n ns ds, x = .loc n ∧ S2[n]? = some (.obj Cl ns ds) ∧ ns.length < 1000 ∧ N δ (S2.set n (.obj Cl (putS ns ds f d).1 (putS ns ds f d).2))) (fun x S1 => X x δ S1)) (fun x S1 => X x δ S1)) : wf (setfM Cl f mo mv δ S) N R X B C :=
  wf_bind (wp_q h fun _ _ h => wf_bind (wp_q h fun _ _ h => by
    obtain ⟨n, ns, ds, rfl, e, hl, h⟩ := h
    simp only [e]
    rw [if_pos ⟨trivial, hl⟩]
    exact h))
theorem wf_raise {mx : DEnv → Store → Res Ex} (h : wp (mx δ S) (fun x S1 => X x δ S1) (fun x S1 => X x δ S1)) : wf (raiseM mx δ S) N R X B C := by
  unfold raiseM
  cases e : mx δ S with
  | ok x S1 => rw [e] at h; exact h
  | exc x S1 => rw [e] at h; exact h
  | stuck => rw [e] at h; exact h
theorem wp_mkx {Cl : Addr} {n : Nat} {fs : List Str} {gd : List D → List D} {ms : MA} {Q : Ex → Store → Prop} {Y : Ex → Store → Prop} (h : wp (ms δ S) (fun xs S1 => (xs.length = n ∧ (gd xs).length = fs.length) ∧ Q ⟨Cl, fs, gd xs⟩ S1) Y) : wp (mkxM Cl n fs gd ms δ S) Q Y := wp_bind (wp_q h fun xs S1 h => by rw [if_pos h.1]; exact h.2)
/-! ### loops -/
theorem wf_for {mi : DEnv → Store → Res Src} {tg : Tg} {b : MS} (J : Nat → DEnv → Store → Prop) (h : wp (mi δ S) (fun src S1 => ∃ ds, (∀ k δ S, J k δ S → items S src = some ds) ∧ J 0 δ S1 ∧
      (∀ (k : Nat) (d : D), ds[k]? = some d → ∀ δ S, J k δ S → GW (bindT tg d δ) fun δ1 => wf (b δ1 S) (J (k + 1)) R X N (J (k + 1))) ∧ ∀ δ S, J ds.length δ S → N δ S) (fun x S1 => X x δ S1)) : wf (SL.forM mi tg b δ S) N R X B C := by
  refine wf_bind (wp_q h fun src S1 h => ?_)
  obtain ⟨ds, hit, h0, hb, hN⟩ := h
  simp only [hit 0 _ _ h0]
  have key : ∀ (r : List D) (k : Nat) (δ : DEnv) (S : Store), ds.drop k = r → k ≤ ds.length → J k δ S → wf (forL src tg b ds r δ S) N R X B C := by
    intro r
    induction r with
    | nil =>
      intro k δ S hr hkl hJ
      unfold forL
      rw [if_pos (hit k δ S hJ)]
      have hk : ds.length = k := by
        have := congrArg List.length hr
        rw [List.length_drop] at this
        simp only [List.length_nil] at this
        omega
      subst hk
      exact hN δ S hJ
    | cons d r ih =>
      intro k δ S hr hkl hJ
      have hk : ds[k]? = some d := by
        have := congrArg (fun l => l[0]?) hr
        simpa using this
      have hr' : ds.drop (k + 1) = r := by
        have := congrArg List.tail hr
        simpa using this
      obtain ⟨δ1, e1, hw⟩ := hb k d hk δ S hJ
      have hk1 : k + 1 ≤ ds.length := (List.getElem?_eq_some_iff.mp hk).1
      unfold forL
      rw [if_pos (hit k δ S hJ), e1]
      simp only
      cases e : b δ1 S with
      | nx δ2 S2 => rw [e] at hw; exact ih (k + 1) δ2 S2 hr' hk1 hw
      | ct δ2 S2 => rw [e] at hw; exact ih (k + 1) δ2 S2 hr' hk1 hw
      | bk δ2 S2 => rw [e] at hw; exact hw
      | rt d2 S2 => rw [e] at hw; exact hw
      | exc x δ2 S2 => rw [e] at hw; exact hw
      | stuck => rw [e] at hw; exact hw
  exact key ds 0 δ S1 rfl (Nat.zero_le _) h0
theorem wf_while {b : MS} (J : Nat → DEnv → Store → Prop) {n : Nat} (h0 : J n δ S) (hs : ∀ n δ S, J n δ S → wp (nc δ S) (fun c S1 => (c = true → ∃ m, n = m + 1 ∧ wf (b δ S1) (J m) R X N (J m)) ∧ (c = false → N δ S1)) (fun x S1 => X x δ S1)) : wf (whileM nc b δ S) N R X B C := by
  have key : ∀ (n : Nat) (δ : DEnv) (S : Store), J n δ S → ∃ r, whileN nc b (n + 1) δ S = r ∧ r ≠ .stuck ∧ wf r N R X B C := by
    intro n
    induction n with
    | zero =>
      intro δ S hJ
      have h := hs 0 δ S hJ
      refine ⟨_, rfl, ?_⟩
      unfold whileN
      cases e : nc δ S with
      | ok c S1 =>
        rw [e] at h
        cases c with
        | true => obtain ⟨m, hm, _⟩ := h.1 rfl; cases hm
        | false => exact ⟨by simp, h.2 rfl⟩
      | exc x S1 => rw [e] at h; exact ⟨by simp, h⟩
      | stuck => rw [e] at h; exact h.elim
    | succ n ih =>
      intro δ S hJ
      have h := hs (n + 1) δ S hJ
      refine ⟨_, rfl, ?_⟩
      unfold whileN
      cases e : nc δ S with
      | ok c S1 =>
        rw [e] at h
        cases c with
        | true =>
          obtain ⟨m, hm, hw⟩ := h.1 rfl
          have hm' : m = n := by omega
          subst hm'
          simp only [bindS_ok, if_true]
          cases eb : b δ S1 with
          | nx δ2 S2 => rw [eb] at hw; obtain ⟨r, er, h1, h2⟩ := ih δ2 S2 hw; simp only; rw [er]; exact ⟨h1, h2⟩
          | ct δ2 S2 => rw [eb] at hw; obtain ⟨r, er, h1, h2⟩ := ih δ2 S2 hw; simp only; rw [er]; exact ⟨h1, h2⟩
          | bk δ2 S2 => rw [eb] at hw; exact ⟨by simp, hw⟩
          | rt d2 S2 => rw [eb] at hw; exact ⟨by simp, hw⟩
          | exc x δ2 S2 => rw [eb] at hw; exact ⟨by simp, hw⟩
          | stuck => rw [eb] at hw; exact hw.elim
        | false => exact ⟨by simp, h.2 rfl⟩
      | exc x S1 => rw [e] at h; exact ⟨by simp, h⟩
      | stuck => rw [e] at h; exact h.elim
  obtain ⟨r, er, h1, h2⟩ := key n δ S h0
  rw [whileM_is (n + 1) er h1]
  exact h2
end
/-! ### comprehensions -/
section
variable {δ : DEnv} {S : Store} {Q : D → Store → Prop} {X : Ex → Store → Prop} {mi : DEnv → Store → Res Src} {tg : Tg} {tst : MB} {el : ME} {vs : List Nat}
/-- the turns of a comprehension, by an invariant over what is made so far -/
theorem comp_run {src : Src} {δ' : DEnv} {ds : List D} (J : Nat → List D → Store → Prop) {n : Nat} (hlen : ∀ k acc S0, J k acc S0 → S0.length = n ∧ acc.length ≤ k) (hn : ds.length ≤ 1000000)
    (hit : ∀ k acc S0 t, J k acc S0 → items (S0 ++ t) src = some ds)
    (hs : ∀ (k : Nat) (d : D), ds[k]? = some d → ∀ acc S0, J k acc S0 → GW (bindT tg d δ') fun δ1 => wp (tst δ1 (S0 ++ [.lst acc])) (fun c S2 => (c = true → wp (el δ1 S2) (fun x S3 => ∃ S4, S3 = S4 ++ [.lst acc] ∧ J (k + 1) (acc ++ [x]) S4) noX) ∧ (c = false → ∃ S4, S2 = S4 ++ [.lst acc] ∧ J (k + 1) acc S4)) noX) :
    ∀ (r : List D) (k : Nat) (acc : List D) (S0 : Store), ds.drop k = r → k ≤ ds.length → J k acc S0 → ∃ acc' S', J ds.length acc' S' ∧ compL src tg tst el n ds δ' r (S0 ++ [.lst acc]) = some (S' ++ [.lst acc']) := by
  intro r
  induction r with
  | nil =>
    intro k acc S0 hr hkl hJ
    have hk : ds.length = k := by
      have := congrArg List.length hr
      rw [List.length_drop] at this
      simp only [List.length_nil] at this
      omega
    subst hk
    refine ⟨acc, S0, hJ, ?_⟩
    unfold compL
    rw [if_pos (hit _ _ _ _ hJ)]
  | cons d r ih =>
    intro k acc S0 hr hkl hJ
    have hk : ds[k]? = some d := by
      have := congrArg (fun l => l[0]?) hr
      simpa using this
    have hr' : ds.drop (k + 1) = r := by
      have := congrArg List.tail hr
      simpa using this
    have hk1 : k + 1 ≤ ds.length := (List.getElem?_eq_some_iff.mp hk).1
    obtain ⟨δ1, e1, hw⟩ := hs k d hk acc S0 hJ
    obtain ⟨c, S2, e2, h1, h2⟩ := wp_get hw
    unfold compL
    rw [if_pos (hit _ _ _ _ hJ), e1]
    simp only [e2]
    cases c with
    | true =>
      obtain ⟨x, S3, e3, S4, rfl, hJ4⟩ := wp_get (h1 rfl)
      simp only [e3]
      have ha := hlen _ _ _ hJ4
      have ha0 := hlen _ _ _ hJ
      have e4 : appC n (S4 ++ [Cell.lst acc]) x = some (S4 ++ [.lst (acc ++ [x])]) := by
        unfold appC
        have e5 : (S4 ++ [Cell.lst acc])[n]? = some (.lst acc) := by rw [← ha.1]; simp
        rw [e5]
        simp only
        rw [if_pos (by omega)]
        congr 1
        rw [List.set_append_right _ _ (by omega), ha.1]
        simp
      simp only [e4]
      exact ih (k + 1) _ _ hr' hk1 hJ4
    | false =>
      obtain ⟨S4, rfl, hJ4⟩ := h2 rfl
      exact ih (k + 1) _ _ hr' hk1 hJ4
theorem wp_comp (J : Nat → List D → Store → Prop) (h : wp (mi δ S) (fun src S1 => ∃ ds, ds.length ≤ 1000000 ∧ (∀ k acc S0 t, J k acc S0 → items (S0 ++ t) src = some ds) ∧ (∀ k acc S0, J k acc S0 → S0.length = S1.length ∧ Settles S1 S0 ∧ okL 0 acc = true ∧ acc.length ≤ k) ∧ J 0 [] S1 ∧
      (∀ (k : Nat) (d : D), ds[k]? = some d → ∀ acc S0, J k acc S0 → GW (bindT tg d (wipeD δ vs)) fun δ1 => wp (tst δ1 (S0 ++ [.lst acc])) (fun c S2 => (c = true → wp (el δ1 S2) (fun x S3 => ∃ S4, S3 = S4 ++ [.lst acc] ∧ J (k + 1) (acc ++ [x]) S4) noX) ∧ (c = false → ∃ S4, S2 = S4 ++ [.lst acc] ∧ J (k + 1) acc S4)) noX) ∧
      ∀ acc S', J ds.length acc S' → Q (.lst acc) S') X) : wp (compM mi tg tst el vs δ S) Q X := by
  unfold compM
  refine wp_bind (wp_q h fun src S1 h => ?_)
  obtain ⟨ds, hn, hit, hlen, h0, hs, hQ⟩ := h
  have e0 : items S1 src = some ds := by simpa using hit 0 [] S1 [] h0
  obtain ⟨acc', S', hJ, e⟩ := comp_run (n := S1.length) J (fun k acc S0 hJ => ⟨(hlen _ _ _ hJ).1, (hlen _ _ _ hJ).2.2.2⟩) hn hit hs ds 0 [] S1 rfl (Nat.zero_le _) h0
  simp only [e0, e]
  obtain ⟨hl, hset, hok, _⟩ := hlen _ _ _ hJ
  unfold endC
  have e1 : (S' ++ [Cell.lst acc'])[S1.length]? = some (.lst acc') := by rw [← hl]; simp
  rw [e1]
  simp only
  have hst : Settles S1 (S' ++ [Cell.lst acc']) := fun j c hj e => hset j c hj (by rwa [List.getElem?_append_left (by omega)] at e)
  rw [if_pos ⟨by rw [List.length_append, hl]; rfl, okL_up _ _ hok, hst⟩, ← hl, List.take_left]
  exact hQ _ _ hJ
/-- the store stays -/
theorem wp_compF {α β : Type} (xs : List α) (en : α → D) (f : α → Option β) (en' : β → D) (h : wp (mi δ S) (fun src S1 => (∀ t, items (S1 ++ t) src = some (xs.map en)) ∧ xs.length ≤ 1000000 ∧
      (∀ x, x ∈ xs → ∀ acc, GW (bindT tg (en x) (wipeD δ vs)) fun δ1 => wp (tst δ1 (S1 ++ [.lst acc])) (fun c S2 => S2 = S1 ++ [.lst acc] ∧ (c = true → wp (el δ1 (S1 ++ [.lst acc])) (fun y S3 => S3 = S1 ++ [.lst acc] ∧ ∃ z, f x = some z ∧ y = en' z ∧ okD 0 y = true) noX) ∧ (c = false → f x = none)) noX) ∧
      Q (.lst ((xs.filterMap f).map en')) S1) X) : wp (compM mi tg tst el vs δ S) Q X := by
  unfold compM
  refine wp_bind (wp_q h fun src S1 h => ?_)
  obtain ⟨hit, hn, hs, hQ⟩ := h
  have hk := wp_comp (mi := fun _ S => .ok src S) (δ := δ) (S := S1) (tg := tg) (tst := tst) (el := el) (vs := vs) (X := X) (Q := Q) (fun k acc S0 => S0 = S1 ∧ acc = ((xs.take k).filterMap f).map en' ∧ okL 0 acc = true) ⟨xs.map en, by simpa using hn, fun k acc S0 t hJ => by rw [hJ.1]; exact hit t, fun k acc S0 hJ => by
    refine ⟨by rw [hJ.1], by rw [hJ.1]; exact Settles.same, hJ.2.2, ?_⟩
    rw [hJ.2.1, List.length_map]
    exact Nat.le_trans (List.length_filterMap_le _ _) (by rw [List.length_take]; omega), ⟨rfl, by simp, rfl⟩, fun k d hd acc S0 hJ => by
    obtain ⟨rfl, rfl, hok⟩ := hJ
    rw [List.getElem?_map] at hd
    cases hx : xs[k]? with
    | none => rw [hx] at hd; cases hd
    | some x =>
      rw [hx] at hd
      cases hd
      obtain ⟨δ1, e1, hw⟩ := hs x (List.mem_of_getElem? hx) (((xs.take k).filterMap f).map en')
      have htk : xs.take (k + 1) = xs.take k ++ [x] := by rw [List.take_succ, hx]; rfl
      refine ⟨δ1, e1, wp_q hw fun c S2 h => ⟨fun hc => ?_, fun hc => ?_⟩⟩
      · obtain ⟨rfl, h1, h2⟩ := h
        refine wp_q (h1 hc) fun y S3 h => ?_
        obtain ⟨rfl, z, ez, rfl, ho⟩ := h
        refine ⟨_, rfl, rfl, ?_, ?_⟩
        · rw [htk, List.filterMap_append, List.map_append]
          simp [ez]
        · exact okL_iff.mpr fun d hd => by
            rcases List.mem_append.mp hd with hd | hd
            · exact okL_iff.mp hok d hd
            · rw [List.mem_singleton.mp hd]; exact ho
      · obtain ⟨rfl, h1, h2⟩ := h
        refine ⟨_, rfl, rfl, ?_, hok⟩
        rw [htk, List.filterMap_append]
        simp [h2 hc], fun acc S' hJ => by
    obtain ⟨rfl, rfl, _⟩ := hJ
    rw [List.length_map, List.take_length]
    exact hQ⟩
  exact hk
theorem wp_compE {α β : Type} (xs : List α) (en : α → D) (f : α → β) (en' : β → D) (h : wp (mi δ S) (fun src S1 => (∀ t, items (S1 ++ t) src = some (xs.map en)) ∧ xs.length ≤ 1000000 ∧
      (∀ x, x ∈ xs → ∀ acc, GW (bindT tg (en x) (wipeD δ vs)) fun δ1 => wp (el δ1 (S1 ++ [.lst acc])) (fun y S3 => S3 = S1 ++ [.lst acc] ∧ y = en' (f x) ∧ okD 0 y = true) noX) ∧
      Q (.lst ((xs.map f).map en')) S1) X) : wp (compM mi tg yesB el vs δ S) Q X := by
  refine wp_compF xs en (fun x => some (f x)) en' (wp_q h fun src S1 h => ?_)
  obtain ⟨h1, h2, h3, h4⟩ := h
  refine ⟨h1, h2, fun x hx acc => ?_, ?_⟩
  · obtain ⟨δ1, e, hw⟩ := h3 x hx acc
    refine ⟨δ1, e, wp_yes ⟨rfl, fun _ => wp_q hw fun y S3 h => ?_, fun h => by cases h⟩⟩
    exact ⟨h.1, f x, rfl, h.2⟩
  · have : xs.filterMap (fun x => some (f x)) = xs.map f := by
      induction xs with
      | nil => rfl
      | cons x xs ih => simp [List.filterMap_cons]
    rw [this]
    exact h4
end
/-! ### the end of a def -/
section
variable {S S' S2 t : Store} {d : D} {Q : D → Store → Prop} {X : Ex → Store → Prop} {n : Nat} {m : MS} {ds : List D}
theorem wp_def (h : wf (m (startD n ds) S) (fun _ S' => wp (finV S .non S') Q X) (fun d S' => wp (finV S d S') Q X) (fun x _ S' => wp (finX S x S') Q X) noB noB) : wp (defM n m ds S) Q X := by
  unfold defM
  cases e : m (startD n ds) S with
  | nx δ S' => rw [e] at h; exact h
  | rt d S' => rw [e] at h; exact h
  | exc x δ S' => rw [e] at h; exact h
  | bk δ S' => rw [e] at h; exact h.elim
  | ct δ S' => rw [e] at h; exact h.elim
  | stuck => rw [e] at h; exact h.elim
theorem wp_fin (h : okD 0 d = true) (hl : S'.length = S.length) (k : Q d S') : wp (finV S d S') Q X := wp_ok (fin_cl h hl) k
theorem wp_finG (h : okD 0 d = true) (hl : S'.length = S.length) (hs : Settles S S') (k : Q d S') : wp (finV S d (S' ++ t)) Q X := wp_ok (fin_cut (fz_cl h) hl hs) k
theorem wp_finS (h : okD 0 d = true) (k : Q d S) : wp (finV S d S) Q X := wp_fin h rfl k
theorem wp_finT (h : okD 0 d = true) (k : Q d S) : wp (finV S d (S ++ t)) Q X := wp_finG h rfl Settles.same k
/-- a list of its own -/
theorem wp_finL {xs : List D} (h : okL 0 xs = true) (hl : S'.length = S.length) (hs : Settles S S') (k : Q (.lst xs) S') : wp (finV S (.loc S.length) (S' ++ (.lst xs :: t))) Q X := by
  refine wp_ok (fin_cut (e := .lst xs) ?_ hl hs) k
  have e1 : (S' ++ (Cell.lst xs :: t))[S.length]? = some (.lst xs) := by rw [← hl]; simp
  simp only [fz, fz1, Nat.lt_irrefl, if_false, e1, okL_up _ _ h, if_true]
theorem wp_finX {x : Ex} (h : okL 0 x.ds = true) (hl : S'.length = S.length) (hs : Settles S S') (k : X x S') : wp (finX S x (S' ++ t)) Q X := wp_exc (finX_cut h hl hs) k
theorem wp_finXS {x : Ex} (h : okL 0 x.ds = true) (k : X x S) : wp (finX S x S) Q X := wp_exc (finX_same h) k
end
/-! ### sources -/
section
variable {δ : DEnv} {S : Store} {ma mb : ME} {Q : Src → Store → Prop} {X : Ex → Store → Prop}
theorem wp_srcV (h : wp (ma δ S) (fun d S1 => (iterD S1 d).isSome = true ∧ Q (.vals d) S1) X) : wp (srcV ma δ S) Q X := wp_bind (wp_q h fun d S1 h => by
  obtain ⟨q, e⟩ := Option.isSome_iff_exists.mp h.1
  simp only [e]
  exact h.2)
theorem wp_src1 (h : wp (ma δ S) (fun d S1 => ∃ i : Int, d = .int i ∧ i.natAbs ≤ 1000000000 ∧ Q (.rng 0 1 i.toNat) S1) X) : wp (src1 ma δ S) Q X := wp_bind (wp_q h fun d S1 h => by
  obtain ⟨i, rfl, hi, h⟩ := h
  simp only
  rw [if_pos hi]
  exact h)
end
end SL

/-! SL: what the operations give, for the calculus. -/
namespace SL
open PySem PySem.Spec L2
section
variable {S : Store} {P : D → Prop} {PB : Bool → Prop} {x y : Int} {a b : List Nat} {ds es : List D} {d : D} {i n c : Nat}
theorem gw_addI (k : P (.int (x + y))) : GW (addG S (.int x) (.int y)) P := ⟨_, rfl, k⟩
theorem gw_addS (k : P (.str (a ++ b))) (h : a.length + b.length ≤ 1000000 := by first | assumption | ((try simp only [List.length_append, List.length_cons, List.length_nil, List.length_take, List.length_drop]); omega)) : GW (addG S (.str a) (.str b)) P := ⟨_, gAddS h, k⟩
theorem gw_addL (k : P (.lst (ds ++ es))) (h : ds.length + es.length ≤ 1000000 := by first | assumption | ((try simp only [List.length_append, List.length_cons, List.length_nil, List.length_map, List.length_take, List.length_drop]); omega)) : GW (addG S (.lst ds) (.lst es)) P := ⟨_, if_pos h, k⟩
theorem gw_addT (k : P (.tup (ds ++ es))) (h : ds.length + es.length ≤ 1000000 := by first | assumption | ((try simp only [List.length_append, List.length_cons, List.length_nil, List.length_map, List.length_take, List.length_drop]); omega)) : GW (addG S (.tup ds) (.tup es)) P := ⟨_, if_pos h, k⟩
theorem gw_subI (k : P (.int (x - y))) : GW (subG S (.int x) (.int y)) P := ⟨_, rfl, k⟩
theorem gw_mulR (k : P (.int (x * y))) (h1 : -(2 ^ 64) < y := by omega) (h2 : y < 2 ^ 64 := by omega) : GW (mulG S (.int x) (.int y)) P := ⟨_, gMulI h1 h2, k⟩
theorem gw_mulL (k : P (.int (x * y))) (h1 : -(2 ^ 64) < x := by omega) (h2 : x < 2 ^ 64 := by omega) : GW (mulG S (.int x) (.int y)) P := ⟨_, if_pos (.inl (.inl ⟨h1, h2⟩)), k⟩
theorem gw_mulS (k : P (.str (List.replicate n a).flatten)) (h : n ≤ 1000000 := by omega) (h2 : a.length * n ≤ 1000000 := by first | assumption | omega | (simp only [List.length_cons, List.length_nil]; omega)) : GW (mulG S (.str a) (.int (n : Int))) P :=
  ⟨_, (show (if 0 ≤ (n : Int) ∧ (n : Int) ≤ 1000000 ∧ a.length * (n : Int).toNat ≤ 1000000 then some (D.str (List.replicate (n : Int).toNat a).flatten) else none) = some (D.str (List.replicate n a).flatten) by
    rw [Int.toNat_natCast, if_pos ⟨by omega, by omega, h2⟩]), k⟩
theorem gw_mulLs (k : P (.lst (List.replicate n ds).flatten)) (h : n ≤ 1000000 := by omega) (h2 : ds.length * n ≤ 1000000 := by first | assumption | omega | (simp only [List.length_cons, List.length_nil]; omega)) : GW (mulG S (.lst ds) (.int (n : Int))) P :=
  ⟨_, (show (if 0 ≤ (n : Int) ∧ (n : Int) ≤ 1000000 ∧ ds.length * (n : Int).toNat ≤ 1000000 then some (D.lst (List.replicate (n : Int).toNat ds).flatten) else none) = some (D.lst (List.replicate n ds).flatten) by
    rw [Int.toNat_natCast, if_pos ⟨by omega, by omega, h2⟩]), k⟩
theorem gw_modI (k : P (.int (x % y))) (h : 0 < y := by first | assumption | omega | decide) : GW (modG S (.int x) (.int y)) P := ⟨_, if_pos h, k⟩
theorem log_small {y : Int} (h : y.natAbs < 2 ^ 64) : y.natAbs.log2 < 9000 := by
  rcases Nat.eq_zero_or_pos y.natAbs with e | hp
  · rw [e]; decide
  · have := (Nat.log2_lt (by omega)).mpr h
    omega
theorem gw_fdivI (k : P (.int (x / y))) (h : 0 < y := by first | assumption | omega | decide) (h2 : y.natAbs < 2 ^ 64 := by first | assumption | omega | decide) : GW (fdivG S (.int x) (.int y)) P := ⟨_, if_pos ⟨h, log_small h2⟩, k⟩
theorem gw_pow (k : P (.int (x ^ y.toNat))) (h : 0 ≤ y ∧ y ≤ 1000000 ∧ x.natAbs < 2 ^ 64 := by decide) : GW (powG S (.int x) (.int y)) P := ⟨_, if_pos h, k⟩
theorem gw_negI (k : P (.int (-x))) : GW (negG S (.int x)) P := ⟨_, rfl, k⟩
/-! ### comparisons -/
theorem gw_ltI (k : P (.bl (decide (x < y)))) : GW (ltG S (.int x) (.int y)) P := ⟨_, rfl, k⟩
theorem gw_leI (k : P (.bl (decide (x ≤ y)))) : GW (leG S (.int x) (.int y)) P := ⟨_, rfl, k⟩
theorem gw_gtI (k : P (.bl (decide (y < x)))) : GW (gtG S (.int x) (.int y)) P := ⟨_, rfl, k⟩
theorem gw_geI (k : P (.bl (decide (y ≤ x)))) : GW (geG S (.int x) (.int y)) P := ⟨_, rfl, k⟩
theorem gw_ltS (k : P (.bl (decide (a < b)))) : GW (ltG S (.str a) (.str b)) P := ⟨_, rfl, k⟩
theorem gw_leS (k : P (.bl (!decide (b < a)))) : GW (leG S (.str a) (.str b)) P := ⟨_, rfl, k⟩
theorem gw_gtS (k : P (.bl (decide (b < a)))) : GW (gtG S (.str a) (.str b)) P := ⟨_, rfl, k⟩
theorem gw_geS (k : P (.bl (!decide (a < b)))) : GW (geG S (.str a) (.str b)) P := ⟨_, rfl, k⟩
theorem gw_eqI (k : P (.bl (decide (x = y)))) : GW (eqG S (.int x) (.int y)) P := ⟨_, rfl, k⟩
theorem gw_neI (k : P (.bl (!decide (x = y)))) : GW (neG S (.int x) (.int y)) P := ⟨_, rfl, k⟩
theorem gw_eqS (k : P (.bl (decide (a = b)))) : GW (eqG S (.str a) (.str b)) P := ⟨_, rfl, k⟩
theorem gw_neS (k : P (.bl (!decide (a = b)))) : GW (neG S (.str a) (.str b)) P := ⟨_, rfl, k⟩
theorem gw_eqB {p q : Bool} (k : P (.bl (decide (p = q)))) : GW (eqG S (.bl p) (.bl q)) P := ⟨_, gEqB, k⟩
theorem gw_neB {p q : Bool} (k : P (.bl (!decide (p = q)))) : GW (neG S (.bl p) (.bl q)) P := ⟨_, gNeB, k⟩
theorem gw_inC (k : P (.bl (decide (c ∈ b)))) : GW (inG S (.str [c]) (.str b)) P := ⟨_, rfl, k⟩
theorem gw_ninC (k : P (.bl (!decide (c ∈ b)))) : GW (ninG S (.str [c]) (.str b)) P := ⟨_, rfl, k⟩
theorem gw_isN (h : isN d = isN d) (hr : isB S d .non = some (isN d) := by rfl) (k : P (.bl (isN d))) : GW (isG S d .non) P := ⟨_, by show (match isB S d .non with | some b => some (D.bl b) | none => none) = _; rw [hr], k⟩
/-! ### the same as tests -/
theorem gb_ltI (k : PB (decide (x < y))) : GW (asB (ltG S (.int x) (.int y))) PB := ⟨_, rfl, k⟩
theorem gb_leI (k : PB (decide (x ≤ y))) : GW (asB (leG S (.int x) (.int y))) PB := ⟨_, rfl, k⟩
theorem gb_gtI (k : PB (decide (y < x))) : GW (asB (gtG S (.int x) (.int y))) PB := ⟨_, rfl, k⟩
theorem gb_geI (k : PB (decide (y ≤ x))) : GW (asB (geG S (.int x) (.int y))) PB := ⟨_, rfl, k⟩
theorem gb_ltS (k : PB (decide (a < b))) : GW (asB (ltG S (.str a) (.str b))) PB := ⟨_, rfl, k⟩
theorem gb_leS (k : PB (!decide (b < a))) : GW (asB (leG S (.str a) (.str b))) PB := ⟨_, rfl, k⟩
theorem gb_gtS (k : PB (decide (b < a))) : GW (asB (gtG S (.str a) (.str b))) PB := ⟨_, rfl, k⟩
theorem gb_geS (k : PB (!decide (a < b))) : GW (asB (geG S (.str a) (.str b))) PB := ⟨_, rfl, k⟩
theorem gb_eqI (k : PB (decide (x = y))) : GW (asB (eqG S (.int x) (.int y))) PB := ⟨_, rfl, k⟩
theorem gb_neI (k : PB (!decide (x = y))) : GW (asB (neG S (.int x) (.int y))) PB := ⟨_, rfl, k⟩
theorem gb_eqS (k : PB (decide (a = b))) : GW (asB (eqG S (.str a) (.str b))) PB := ⟨_, rfl, k⟩
theorem gb_neS (k : PB (!decide (a = b))) : GW (asB (neG S (.str a) (.str b))) PB := ⟨_, rfl, k⟩
theorem gb_eqB {p q : Bool} (k : PB (decide (p = q))) : GW (asB (eqG S (.bl p) (.bl q))) PB := ⟨_, by rw [gEqB]; rfl, k⟩
theorem gb_neB {p q : Bool} (k : PB (!decide (p = q))) : GW (asB (neG S (.bl p) (.bl q))) PB := ⟨_, by rw [gNeB]; rfl, k⟩
theorem gb_inC (k : PB (decide (c ∈ b))) : GW (asB (inG S (.str [c]) (.str b))) PB := ⟨_, rfl, k⟩
theorem gb_ninC (k : PB (!decide (c ∈ b))) : GW (asB (ninG S (.str [c]) (.str b))) PB := ⟨_, rfl, k⟩
theorem gb_bl {p : Bool} (k : PB p) : GW (asB (some (.bl p))) PB := ⟨_, rfl, k⟩
theorem gt_bl {p : Bool} (k : PB p) : GW (truthB S (.bl p)) PB := ⟨_, rfl, k⟩
theorem gt_int (k : PB (x != 0)) : GW (truthB S (.int x)) PB := ⟨_, rfl, k⟩
theorem gt_str (k : PB (a.length != 0)) (h : a.length ≤ 1000000 := by first | assumption | omega | ((try simp only [List.length_append, List.length_cons, List.length_nil, List.length_map, List.length_take, List.length_drop]); omega)) : GW (truthB S (.str a)) PB := ⟨_, if_pos h, k⟩
theorem gt_lst (k : PB (!ds.isEmpty)) : GW (truthB S (.lst ds)) PB := ⟨_, rfl, k⟩
theorem gt_tup (k : PB (!ds.isEmpty)) : GW (truthB S (.tup ds)) PB := ⟨_, rfl, k⟩
theorem gt_non (k : PB false) : GW (truthB S .non) PB := ⟨_, rfl, k⟩
/-! ### calls -/
theorem gw_tup (k : P (.tup ds)) (h : ds.length ≤ 100000 := by first | assumption | ((try simp only [List.length_cons, List.length_nil]); omega)) : GW (tupG S ds) P := ⟨_, if_pos h, k⟩
theorem gw_lst (k : P (.lst ds)) (h : ds.length ≤ 100000 := by first | assumption | ((try simp only [List.length_cons, List.length_nil]); omega)) : GW (lstG S ds) P := ⟨_, if_pos h, k⟩
theorem gw_lenS (k : P (.int (a.length : Nat))) (h : a.length ≤ 1000000 := by first | assumption | omega | ((try simp only [List.length_append, List.length_cons, List.length_nil, List.length_map, List.length_take, List.length_drop]); omega)) : GW (lenG S [.str a]) P := ⟨_, gLenS h, k⟩
theorem gw_lenL (k : P (.int (ds.length : Nat))) : GW (lenG S [.lst ds]) P := ⟨_, rfl, k⟩
theorem gw_lenT (k : P (.int (ds.length : Nat))) : GW (lenG S [.tup ds]) P := ⟨_, rfl, k⟩
theorem gw_lenEnd (k : P (.int (ds.length : Nat))) : GW (lenG (S ++ [.lst ds]) [.loc S.length]) P := ⟨_, by
  show (match lenN (S ++ [Cell.lst ds]) (.loc S.length) with | some n => some (D.int n) | none => none) = some (D.int (ds.length : Nat))
  have : asL (S ++ [Cell.lst ds]) (.loc S.length) = some ds := by simp [asL]
  simp only [lenN, this], k⟩
theorem gw_tuple (k : P (.tup ds)) : GW (tupleG S [.lst ds]) P := ⟨_, rfl, k⟩
theorem gw_tupleT (k : P (.tup ds)) : GW (tupleG S [.tup ds]) P := ⟨_, rfl, k⟩
theorem gw_tupleEnd (k : P (.tup ds)) : GW (tupleG (S ++ [.lst ds]) [.loc S.length]) P := ⟨_, by
  have : asL (S ++ [Cell.lst ds]) (.loc S.length) = some ds := by simp [asL]
  show (match asL (S ++ [Cell.lst ds]) (.loc S.length) with | some ds => some (D.tup ds) | none => none) = _
  rw [this], k⟩
theorem gw_all {bs : List Bool} (k : P (.bl (bs.all id))) : GW (allG S [.lst (bs.map D.bl)]) P := ⟨_, by
  show (match asBs (bs.map D.bl) with | some bs => some (D.bl (bs.all id)) | none => none) = some (D.bl (bs.all id))
  rw [asBs_map], k⟩
theorem gw_any {bs : List Bool} (k : P (.bl (bs.any id))) : GW (anyG S [.lst (bs.map D.bl)]) P := ⟨_, by
  show (match asBs (bs.map D.bl) with | some bs => some (D.bl (bs.any id)) | none => none) = some (D.bl (bs.any id))
  rw [asBs_map], k⟩
theorem asIsMap : ∀ ls : List Int, asIs (ls.map D.int) = some ls
  | [] => rfl
  | x :: xs => by simp [asIs, asIsMap xs]
theorem asSsMap : ∀ xs : List (List Nat), asSs (xs.map D.str) = some xs
  | [] => rfl
  | x :: xs => by simp [asSs, asSsMap xs]
theorem gw_sum {ls : List Int} (k : P (.int ls.sum)) : GW (sumG S [.lst (ls.map D.int)]) P := ⟨_, by
  show (match asIs (ls.map D.int) with | some bs => some (D.int bs.sum) | none => none) = some (D.int ls.sum)
  rw [asIsMap], k⟩
theorem gw_joinL {xs : List (List Nat)} (k : P (.str (joinL a xs))) (h : (xs.map List.length).sum + xs.length * a.length ≤ 1000000 := by first | assumption | omega | ((try simp only [List.length_append, List.length_cons, List.length_nil, List.length_map, List.length_take, List.length_drop]); omega)) : GW (joinG S (.str a) [.lst (xs.map D.str)]) P := ⟨_, by
  show (match asSs (xs.map D.str) with | some ls => if (ls.map List.length).sum + ls.length * a.length ≤ 1000000 then some (D.str (joinL a ls)) else none | none => none) = some (D.str (joinL a xs))
  rw [asSsMap]
  exact if_pos h, k⟩
theorem gw_joinEnd {xs : List (List Nat)} (k : P (.str (joinL a xs))) (h : (xs.map List.length).sum + xs.length * a.length ≤ 1000000 := by first | assumption | omega | ((try simp only [List.length_append, List.length_cons, List.length_nil, List.length_map, List.length_take, List.length_drop]); omega)) : GW (joinG (S ++ [.lst (xs.map D.str)]) (.str a) [.loc S.length]) P := ⟨_, by
  have : asQ (S ++ [Cell.lst (xs.map D.str)]) (.loc S.length) = some (xs.map D.str) := by simp [asQ, asL]
  show (match asQ (S ++ [Cell.lst (xs.map D.str)]) (.loc S.length) with | some ds => (match asSs ds with | some ls => if (ls.map List.length).sum + ls.length * a.length ≤ 1000000 then some (D.str (joinL a ls)) else none | none => none) | none => none) = some (D.str (joinL a xs))
  rw [this]
  simp only [asSsMap]
  exact if_pos h, k⟩
theorem gw_upper (k : P (.str (a.map upL))) (h : asc a = true := by first | assumption | rfl) (h2 : a.length ≤ 1000000 := by first | assumption | omega | ((try simp only [List.length_append, List.length_cons, List.length_nil, List.length_map, List.length_take, List.length_drop]); omega)) : GW (upperG S (.str a) []) P := ⟨_, if_pos ⟨h, h2⟩, k⟩
theorem gw_lower (k : P (.str (a.map loL))) (h : asc a = true := by first | assumption | rfl) (h2 : a.length ≤ 1000000 := by first | assumption | omega | ((try simp only [List.length_append, List.length_cons, List.length_nil, List.length_map, List.length_take, List.length_drop]); omega)) : GW (lowerG S (.str a) []) P := ⟨_, if_pos ⟨h, h2⟩, k⟩
theorem gw_str (k : P (.str (strI x))) (h : x.natAbs.log2 < 1920 := by first | assumption | decide) : GW (strG S [.int x]) P := ⟨_, if_pos h, k⟩
theorem gw_intI (k : P (.int x)) : GW (intG S [.int x]) P := ⟨_, rfl, k⟩
theorem gw_intB {p : Bool} (k : P (.int (if p then 1 else 0))) : GW (intG S [.bl p]) P := ⟨_, rfl, k⟩
theorem gw_isi {nm t : String} {p : Bool} (k : P (.bl p)) (h : tyN S d = some t := by rfl) (h2 : isTy nm t = some p := by rfl) : GW (isiA S [d, .raw (.ty nm)]) P := ⟨_, by
  show (match tyN S d with | some t => (match isTy nm t with | some b => some (D.bl b) | none => none) | none => none) = _
  rw [h]
  simp only [h2], k⟩
theorem gb_isi {nm t : String} {p : Bool} (k : PB p) (h : tyN S d = some t := by rfl) (h2 : isTy nm t = some p := by rfl) : GW (asB (isiA S [d, .raw (.ty nm)])) PB := by
  obtain ⟨z, e, hz⟩ := gw_isi (S := S) (d := d) (P := fun z => z = .bl p) rfl h h2
  subst hz
  exact ⟨p, by rw [e]; rfl, k⟩
/-! ### places -/
theorem gw_ixL (h : ds[i]? = some d) (k : P d) : GW (ixG S (.lst ds) (.int (i : Int))) P := ⟨_, gIxL h, k⟩
theorem gw_ixT (h : ds[i]? = some d) (k : P d) : GW (ixG S (.tup ds) (.int (i : Int))) P := ⟨_, gIxT h, k⟩
theorem gw_ixS (h : a[i]? = some c) (k : P (.str [c])) (hl : a.length ≤ 1000000 := by first | assumption | omega | ((try simp only [List.length_append, List.length_cons, List.length_nil, List.length_map, List.length_take, List.length_drop]); omega)) : GW (ixG S (.str a) (.int (i : Int))) P := ⟨_, gIxS hl h, k⟩
theorem gw_ixSd (h : i < a.length) (k : ∀ c, c ∈ a → P (.str [c])) (hl : a.length ≤ 1000000 := by first | assumption | omega | ((try simp only [List.length_append, List.length_cons, List.length_nil, List.length_map, List.length_take, List.length_drop]); omega)) : GW (ixG S (.str a) (.int (i : Int))) P := gw_ixS (List.getElem?_eq_getElem h) (k _ (List.getElem_mem h))
theorem gw_ixLd (h : i < ds.length) (k : ∀ d, d ∈ ds → P d) : GW (ixG S (.lst ds) (.int (i : Int))) P := gw_ixL (List.getElem?_eq_getElem h) (k _ (List.getElem_mem h))
theorem gw_ix0L (k : P d) : GW (ixG S (.lst (d :: ds)) (.int 0)) P := gw_ixL (i := 0) rfl k
theorem gw_ix0T (k : P d) : GW (ixG S (.tup (d :: ds)) (.int 0)) P := gw_ixT (i := 0) rfl k
theorem gw_ix1L {e : D} (k : P d) : GW (ixG S (.lst (e :: d :: ds)) (.int 1)) P := gw_ixL (i := 1) rfl k
theorem gw_ix1T {e : D} (k : P d) : GW (ixG S (.tup (e :: d :: ds)) (.int 1)) P := gw_ixT (i := 1) rfl k
theorem gw_ix2L {e f : D} (k : P d) : GW (ixG S (.lst (e :: f :: d :: ds)) (.int 2)) P := gw_ixL (i := 2) rfl k
theorem gw_ix2T {e f : D} (k : P d) : GW (ixG S (.tup (e :: f :: d :: ds)) (.int 2)) P := gw_ixT (i := 2) rfl k
theorem gw_slS {lo hi : Option Int} (k : P (.str (cutL a lo hi))) (h : a.length ≤ 1000000 := by first | assumption | omega | ((try simp only [List.length_append, List.length_cons, List.length_nil, List.length_map, List.length_take, List.length_drop]); omega)) : GW (slG S (.str a) lo hi) P := ⟨_, if_pos h, k⟩
theorem gw_slT {lo hi : Option Int} (k : P (.tup (cutL ds lo hi))) : GW (slG S (.tup ds) lo hi) P := ⟨_, rfl, k⟩
theorem gw_slL {lo hi : Option Int} (k : P (.lst (cutL ds lo hi))) : GW (slG S (.lst ds) lo hi) P := ⟨_, rfl, k⟩
theorem gw_slTo {q : Nat} (k : P (.str (a.take q))) (h : a.length ≤ 1000000 := by first | assumption | omega | ((try simp only [List.length_append, List.length_cons, List.length_nil, List.length_map, List.length_take, List.length_drop]); omega)) : GW (slG S (.str a) none (some (q : Int))) P := gw_slS (by rw [cut_to]; exact k) h
theorem gw_slFrom {q : Nat} (k : P (.str (a.drop q))) (h : a.length ≤ 1000000 := by first | assumption | omega | ((try simp only [List.length_append, List.length_cons, List.length_nil, List.length_map, List.length_take, List.length_drop]); omega)) : GW (slG S (.str a) (some (q : Int)) none) P := gw_slS (by rw [cut_from]; exact k) h
theorem gw_slFT {p q : Nat} (k : P (.str ((a.drop p).take (q - p)))) (h : a.length ≤ 1000000 := by first | assumption | omega | ((try simp only [List.length_append, List.length_cons, List.length_nil, List.length_map, List.length_take, List.length_drop]); omega)) : GW (slG S (.str a) (some (p : Int)) (some (q : Int))) P := gw_slS (by rw [cut_nat]; exact k) h
theorem gw_asI {PI : Int → Prop} (k : PI x) : GW (asI (.int x)) PI := ⟨_, rfl, k⟩
theorem gw_fmtS (k : P (.str a)) (h : fmtG (.str a) = some (.str a) := by rfl) : GW (fmtG (.str a)) P := ⟨_, h, k⟩
theorem gw_bind {δ δ1 : DEnv} {tg : Tg} {PE : DEnv → Prop} (k : PE δ1) (h : bindT tg d δ = some δ1 := by rfl) : GW (bindT tg d δ) PE := ⟨_, h, k⟩
theorem append_ok {x : D} (h : ds.length < 1000000) : appendG ds [x] = some (.non, ds ++ [x]) := if_pos h
/-- what goes on the list at the store's end -/
theorem wp_append {δ : DEnv} {j : Nat} {ms : MA} {Q : D → Store → Prop} {X : Ex → Store → Prop} (hv : δ[j]? = some (some (.loc S.length))) (k : wp (ms δ (S ++ [.lst ds])) (fun xs S2 => ∃ S3 x, S2 = S3 ++ [.lst ds] ∧ S3.length = S.length ∧ xs = [x] ∧ ds.length < 1000000 ∧ Q .non (S3 ++ [.lst (ds ++ [x])])) X) : wp (lmM appendG (vM j) ms δ (S ++ [.lst ds])) Q X :=
  wp_lmEnd hv (wp_q k fun xs S2 h => by
    obtain ⟨S3, x, e1, e2, rfl, hl, h⟩ := h
    exact ⟨S3, .non, ds ++ [x], e1, e2, append_ok hl, h⟩)
/-! ### what a def may leave -/
theorem okC_up {c : Cell} (h : okC 0 c = true) (n : Nat) : okC n c = true := by
  cases c with
  | lst ds => exact okL_up ds n h
  | dct ks ds => exact okL_up ds n h
  | obj C ns ds => exact okL_up ds n h
theorem Dw.settles2 {U S S' t t' : Store} (h : Dw U S) (h' : Dw U S') (ht : ∀ c ∈ t', okC 0 c = true) : Settles (S ++ t) (S' ++ t') := by
  intro i c hi e
  by_cases hi' : i < S.length
  · rw [List.getElem?_append_left (by rw [h'.len, ← h.len]; exact hi')] at e
    rw [List.getElem?_append_left hi']
    obtain ⟨ns, a, w, s, b, _, rfl⟩ := h
    obtain ⟨ns', a', w', s', b', _, rfl⟩ := h'
    cases i with
    | zero => right; simp at e; subst e; exact okC_up okC_draw _
    | succ i => left; simpa using e
  · right
    rw [List.getElem?_append_right (by rw [h'.len, ← h.len]; omega)] at e
    exact okC_up (ht c (List.mem_of_getElem? e)) _
theorem loc_mid {S : Store} {l : List D} {t : Store} : locL (S ++ [.lst l] ++ t) (.loc S.length) = some (S.length, l) := by
  have : (S ++ [Cell.lst l] ++ t)[S.length]? = some (.lst l) := by simp
  show (match (S ++ [Cell.lst l] ++ t)[S.length]? with | some (.lst ds) => some (S.length, ds) | _ => none) = _
  rw [this]
theorem set_mid {S : Store} {l l' : List D} {t : Store} : (S ++ [Cell.lst l] ++ t).set S.length (.lst l') = S ++ [.lst l'] ++ t := by
  rw [List.append_assoc, List.set_append_right _ _ (Nat.le_refl _)]
  simp
theorem gw_lenMid {t : Store} (k : P (.int (ds.length : Nat))) : GW (lenG (S ++ [.lst ds] ++ t) [.loc S.length]) P := ⟨_, by
  show (match lenN (S ++ [Cell.lst ds] ++ t) (.loc S.length) with | some n => some (D.int n) | none => none) = some (D.int (ds.length : Nat))
  have : asL (S ++ [Cell.lst ds] ++ t) (.loc S.length) = some ds := by simp [asL]
  simp only [lenN, this], k⟩
theorem popAt_ok (h : ds[i]? = some d) (hi : i < 1000000) : popAtG ds [.int (i : Int)] = some (d, ds.eraseIdx i) := by
  show (if 0 ≤ (i : Int) ∧ (i : Int) < 1000000 then (match ds[(i : Int).toNat]? with | some d => some (d, ds.eraseIdx (i : Int).toNat) | none => none) else none) = _
  rw [if_pos ⟨by omega, by omega⟩, Int.toNat_natCast, h]
/-! ### drawing -/
theorem wd_draw {T : Store} {m : Int} {Q : D → Store → Prop} {X : Ex → Store → Prop} (h : Dw T S) (hm : 0 < m) (hm2 : m < 2 ^ 64) (k : ∀ (r : Nat) S', Dw T S' → (r : Int) < m → Q (.int (r : Int)) S') : wp (defM 5 drawM [.loc 0, .int m] S) Q X := by
  obtain ⟨r, S', h1, h2, h3, h4⟩ := draw_dw h hm hm2
  obtain ⟨j, rfl⟩ : ∃ j : Nat, r = j := ⟨r.toNat, by omega⟩
  exact wp_ok h4 (k j S' h1 h3)
theorem wd_of {T : Store} {Q : D → Store → Prop} {X : Ex → Store → Prop} (h : Dw T S) (hc : okL 0 ds = true) (k : ∀ d S', Dw T S' → d ∈ ds → Q d S') (hn : ds ≠ [] := by simp) (hl : ds.length < 2 ^ 64 := by first | assumption | (simp only [List.length_cons, List.length_nil]; omega)) : wp (defM 2 (ofM (defM 5 drawM)) [.loc 0, .lst ds] S) Q X := by
  obtain ⟨d, S', h1, h2, h3⟩ := of_lst h hn hl hc
  exact wp_ok h3 (k d S' h1 h2)
theorem wd_ofS {T : Store} {Q : D → Store → Prop} {X : Ex → Store → Prop} (h : Dw T S) (k : ∀ c S', Dw T S' → c ∈ a → Q (.str [c]) S') (hn : a ≠ [] := by simp) (hl : a.length ≤ 1000000 := by first | assumption | (simp only [List.length_cons, List.length_nil]; omega)) : wp (defM 2 (ofM (defM 5 drawM)) [.loc 0, .str a] S) Q X := by
  obtain ⟨c, S', h1, h2, h3⟩ := of_str h hn hl
  exact wp_ok h3 (k c S' h1 h2)
end
end SL

/-! What the defs of the law compute, as terms (printed by gen.py). -/
namespace K27
open PySem PySem.Spec L2 SL
structure Ad where
  (HallError BadText BadTree Reader : Addr)
abbrev s_FIGURES : List Nat := [48, 49, 50, 51, 52, 53, 54, 55, 56, 57]
abbrev s_LETTERS : List Nat := [97, 98, 99, 100, 101, 102, 103, 104, 105, 106, 107, 108, 109, 110, 111, 112, 113, 114, 115, 116, 117, 118, 119, 120, 121, 122, 65, 66, 67, 68, 69, 70, 71, 72, 73, 74, 75, 76, 77, 78, 79, 80, 81, 82, 83, 84, 85, 86, 87, 88, 89, 90]
abbrev s_SMALL : List Nat := [97, 98, 99, 100, 101, 102, 103, 104, 105, 106, 107, 108, 109, 110, 111, 112, 113, 114, 115, 116, 117, 118, 119, 120, 121, 122]
def gx_HallError : List SL.D → List SL.D := fun ds => ds
def gx_BadText : List SL.D → List SL.D := fun ds => ds ++ gx_HallError [.str [98, 97, 100, 116, 101, 120, 116]]
def gx_BadTree : List SL.D → List SL.D := fun _ => gx_HallError [.str [98, 97, 100, 116, 114, 101, 101]]
abbrev gD_Reader_run_0 : List SL.D → List SL.D → List SL.D := fun ds es => ds ++ es ++ [.int 0, .int 12]
abbrev gD_Reader_run_least : List SL.D → List SL.D → List SL.D := fun ds es => ds ++ es ++ [.int 12]
abbrev gD_Reader_run_least_most : List SL.D → List SL.D → List SL.D := fun ds es => ds ++ es ++ []
/-- law ['_law_script', '_law_d', '_law_turn', '_law_tree_here', '_law_k', '_law_text_here'] -/
noncomputable def m_law (A : Ad) (φlaw_of : Fn) (φlaw_tree : Fn) (φlaw_draw : Fn) (φlaw_number : Fn) (φlaw_text : Fn) (φis_row : Fn) (φrow_text : Fn) (φlaw_same : Fn) (φread_row : Fn) : MS := (seqM (forM (src1 (cM (.int 4))) (.nm 2) (seqM (asgM 3 (appM 3 φlaw_tree (consM (vM 1) (consM (appM 2 φlaw_of (consM (vM 1) (consM (callG lstG (consM (cM (.int 3)) (consM (cM (.int 7)) (consM (cM (.int 20)) nilM)))) nilM)) []) (consM (cM (.int 2)) nilM))) []))
  (seqM (forM (src1 (appM 2 φlaw_draw (consM (vM 1) (consM (cM (.int 10)) nilM)) [])) (.nm 4) (asgM 3 (callG tupG (consM (cM (.str [115, 116, 101, 112, 115])) (consM (callG tupG (consM (callG tupG (consM (cM (.str [116, 105, 109, 101, 115])) (consM (appM 1 φlaw_number (consM (vM 1) nilM) []) (consM (vM 3) nilM)))) nilM)) nilM)))))
  (seqM (asgM 5 (appM 1 φlaw_text (consM (vM 3) nilM) []))
  (seqM (ifSM (notB (trM (appM 1 φis_row (consM (vM 3) nilM) []))) ctM nxM)
  (ifSM (orB (notB (trM (appM 2 φlaw_same (consM (appM 1 φrow_text (consM (vM 3) nilM) []) (consM (vM 5) nilM)) []))) (notB (trM (appM 2 φlaw_same (consM (appM 1 φread_row (consM (vM 5) nilM) []) (consM (vM 3) nilM)) [])))) (retM (cM (.bl false))) nxM))))))
  (retM (appM 2 φlaw_same (consM (callG lstG (consM (appM 1 φread_row (consM (cM (.str [45])) nilM) []) (consM (appM 1 φrow_text (consM (callG tupG (consM (cM (.str [115, 116, 101, 112, 115])) (consM (callG tupG nilM) nilM))) nilM) []) nilM))) (consM (callG lstG (consM (callG tupG (consM (cM (.str [115, 116, 101, 112, 115])) (consM (callG tupG nilM) nilM))) (consM (cM (.str [45])) nilM))) nilM)) [])))
/-- _law_of ['_law_d', '_law_some'] -/
noncomputable def m_law_of (A : Ad) (φlaw_draw : Fn) : MS := (retM (op2M ixG (vM 1) (appM 2 φlaw_draw (consM (vM 0) (consM (callG lenG (consM (vM 1) nilM)) nilM)) [])))
/-- _law_tree ['_law_d', '_law_left', '_law_deep', '_law_steps', '_law_k', '_law_how', '_law_text_here'] -/
noncomputable def m_law_tree (A : Ad) (φlaw_of : Fn) (φlaw_draw : Fn) (φlaw_tree : Fn) (φlaw_number : Fn) (φlaw_name : Fn) (φlaw_letters : Fn) (φlaw_sides : Fn) (φlaw_mixed : Fn) : MS := (seqM (asgM 3 (lstLM nilM))
  (seqM (forM (src1 (appM 2 φlaw_of (consM (vM 0) (consM (callG lstG (consM (cM (.int 0)) (consM (cM (.int 1)) (consM (cM (.int 2)) (consM (cM (.int 3)) (consM (vM 1) nilM)))))) nilM)) [])) (.nm 4) (seqM (asgM 5 (appM 2 φlaw_draw (consM (vM 0) (consM (cM (.int 6)) nilM)) []))
  (ifSM (andB (cmpB eqG (vM 5) (cM (.int 0))) (cmpB gtG (vM 2) (cM (.int 0)))) (exprM (lmM appendG (vM 3) (consM (callG tupG (consM (cM (.str [116, 105, 109, 101, 115])) (consM (appM 1 φlaw_number (consM (vM 0) nilM) []) (consM (appM 3 φlaw_tree (consM (vM 0) (consM (op2M fdivG (vM 1) (cM (.int 8))) (consM (op2M subG (vM 2) (cM (.int 1))) nilM))) []) nilM)))) nilM))) (ifSM (cmpB eqG (vM 5) (cM (.int 1))) (exprM (lmM appendG (vM 3) (consM (callG tupG (consM (cM (.str [114, 111, 119])) (consM (appM 1 φlaw_name (consM (vM 0) nilM) []) nilM))) nilM))) (seqM (asgM 6 (appM 2 φlaw_mixed (consM (vM 0) (consM (appM 2 φlaw_sides (consM (vM 0) (consM (slM (appM 0 φlaw_letters nilM []) noO (soO (appM 2 φlaw_draw (consM (vM 0) (consM (cM (.int 13)) nilM)) []))) nilM)) []) nilM)) []))
  (seqM (asgM 6 (mtS joinG (cM (.str [])) (consM (vM 6) nilM)))
  (exprM (lmM appendG (vM 3) (consM (ifM (orB (cmpB ltG (vM 5) (cM (.int 5))) (cmpB eqG (vM 6) (cM (.str [])))) (callG tupG (consM (cM (.str [99, 97, 108, 108])) (consM (vM 6) nilM))) (callG tupG (consM (cM (.str [116, 117, 114, 110])) (consM (vM 6) nilM)))) nilM)))))))))
  (retM (callG tupG (consM (cM (.str [115, 116, 101, 112, 115])) (consM (callG tupleG (consM (vM 3) nilM)) nilM))))))
/-- _law_draw ['_law_d', '_law_many', '_law_cell', '_law_digit', '_law_mix'] -/
noncomputable def m_law_draw (A : Ad)  : MS := (seqM (ifSM (andB (cmpB ltG (op2M ixG (vM 0) (cM (.int 2))) (vM 1)) (cmpB ltG (op2M ixG (vM 0) (cM (.int 1))) (callG lenG (consM (op2M ixG (vM 0) (cM (.int 0))) nilM)))) (seqM (asgM 2 (op2M ixG (op2M ixG (vM 0) (cM (.int 0))) (op2M ixG (vM 0) (cM (.int 1)))))
  (seqM (setIM (vM 0) (cM (.int 1)) (op2M addG (op2M ixG (vM 0) (cM (.int 1))) (cM (.int 1))))
  (seqM (setIM (vM 0) (cM (.int 2)) (ifM (cmpB geG (vM 2) (op2M powG (cM (.int 10)) (cM (.int 18)))) (vM 2) (cM (.int 0))))
  (setIM (vM 0) (cM (.int 3)) (op2M modG (op2M addG (op2M addG (op2M mulG (op2M ixG (vM 0) (cM (.int 3))) (cM (.int 69621))) (op2M modG (vM 2) (cM (.int 998244353)))) (cM (.int 1))) (cM (.int 2147483647))))))) nxM)
  (seqM (ifSM (cmpB geG (op2M ixG (vM 0) (cM (.int 2))) (vM 1)) (seqM (asgM 3 (op2M modG (op2M ixG (vM 0) (cM (.int 2))) (vM 1)))
  (seqM (setIM (vM 0) (cM (.int 2)) (op2M fdivG (op2M ixG (vM 0) (cM (.int 2))) (vM 1)))
  (retM (vM 3)))) nxM)
  (seqM (setIM (vM 0) (cM (.int 4)) (op2M addG (op2M ixG (vM 0) (cM (.int 4))) (cM (.int 1))))
  (seqM (asgM 4 (op2M addG (op2M addG (op2M mulG (op2M ixG (vM 0) (cM (.int 3))) (cM (.int 16807))) (op2M mulG (op2M ixG (vM 0) (cM (.int 4))) (cM (.int 40692)))) (cM (.int 7))))
  (seqM (asgM 4 (op2M addG (op2M mulG (vM 4) (op2M addG (op2M modG (vM 4) (cM (.int 65521))) (cM (.int 3)))) (op2M mulG (op2M ixG (vM 0) (cM (.int 4))) (cM (.int 9176)))))
  (seqM (setIM (vM 0) (cM (.int 3)) (op2M modG (vM 4) (cM (.int 2147483629))))
  (retM (op2M modG (op2M addG (op2M fdivG (op2M ixG (vM 0) (cM (.int 3))) (cM (.int 32))) (op2M mulG (op2M modG (op2M ixG (vM 0) (cM (.int 3))) (cM (.int 8191))) (cM (.int 13)))) (vM 1)))))))))
/-- _law_number ['_law_d'] -/
noncomputable def m_law_number (A : Ad) (φlaw_draw : Fn) (φlaw_of : Fn) : MS := (retM (appM 2 φlaw_of (consM (vM 0) (consM (callG lstG (consM (cM (.int 0)) (consM (cM (.int 1)) (consM (cM (.int 2)) (consM (cM (.int 3)) (consM (appM 2 φlaw_draw (consM (vM 0) (consM (cM (.int 40)) nilM)) []) (consM (op2M addG (op2M powG (cM (.int 10)) (cM (.int 9))) (appM 2 φlaw_draw (consM (vM 0) (consM (op2M powG (cM (.int 10)) (cM (.int 6))) nilM)) [])) (consM (op2M subG (op2M powG (cM (.int 10)) (cM (.int 30))) (appM 2 φlaw_draw (consM (vM 0) (consM (cM (.int 1000)) nilM)) [])) nilM)))))))) nilM)) []))
/-- _law_text ['_law_tree_here', '_law_words', '_law_step'] -/
noncomputable def m_law_text (A : Ad) (φlaw_text : Fn) : MS := (seqM (asgM 1 (lstLM nilM))
  (seqM (forM (srcV (op2M ixG (vM 0) (cM (.int 1)))) (.nm 2) (ifSM (cmpB eqG (op2M ixG (vM 2) (cM (.int 0))) (cM (.str [116, 105, 109, 101, 115]))) (exprM (lmM appendG (vM 1) (consM (op2M addG (op2M addG (op2M addG (cM (.str [40])) (appM 1 φlaw_text (consM (op2M ixG (vM 2) (cM (.int 2))) nilM) [])) (cM (.str [41, 42]))) (callG strG (consM (op2M ixG (vM 2) (cM (.int 1))) nilM))) nilM))) (ifSM (cmpB eqG (op2M ixG (vM 2) (cM (.int 0))) (cM (.str [114, 111, 119]))) (exprM (lmM appendG (vM 1) (consM (op2M addG (op2M addG (cM (.str [60])) (op2M ixG (vM 2) (cM (.int 1)))) (cM (.str [62]))) nilM))) (exprM (lmM appendG (vM 1) (consM (op2M addG (op2M ixG (callG lstG (consM (cM (.str [46])) (consM (cM (.str [126])) nilM))) (callG intG (consM (op2M eqG (op2M ixG (vM 2) (cM (.int 0))) (cM (.str [116, 117, 114, 110]))) nilM))) (op2M ixG (vM 2) (cM (.int 1)))) nilM))))))
  (retM (ifM (cmpB eqG (vM 1) (callG lstG nilM)) (cM (.str [45])) (mtS joinG (cM (.str [32])) (consM (vM 1) nilM))))))
/-- is_row ['tree'] -/
noncomputable def m_is_row (A : Ad) (φis_built : Fn) (φmany_steps : Fn) (φdeep_of : Fn) : MS := (retM (andM (appM 1 φis_built (consM (vM 0) nilM) []) (andM (op2M leG (appM 1 φmany_steps (consM (vM 0) nilM) []) (cM (.int 60))) (op2M leG (appM 1 φdeep_of (consM (vM 0) nilM) []) (cM (.int 12))))))
/-- row_text ['tree'] -/
noncomputable def m_row_text (A : Ad) (φlook_row : Fn) (φtold_text : Fn) : MS := (seqM (exprM (appM 1 φlook_row (consM (vM 0) nilM) []))
  (retM (appM 1 φtold_text (consM (vM 0) nilM) [])))
/-- _law_same ['_law_x', '_law_due', '_law_k'] -/
noncomputable def m_law_same (A : Ad) (φlaw_same : Fn) : MS := (seqM (ifSM (trM (callG isiA (consM (vM 1) (consM (callG tupG (consM (cM (.raw (.ty "list"))) (consM (cM (.raw (.ty "tuple"))) nilM))) nilM)))) (seqM (ifSM (orB (cmpB neG (callG isiA (consM (vM 1) (consM (cM (.raw (.ty "list"))) nilM))) (callG isiA (consM (vM 0) (consM (cM (.raw (.ty "list"))) nilM)))) (cmpB neG (callG isiA (consM (vM 1) (consM (cM (.raw (.ty "tuple"))) nilM))) (callG isiA (consM (vM 0) (consM (cM (.raw (.ty "tuple"))) nilM))))) (retM (cM (.bl false))) nxM)
  (retM (andM (op2M eqG (callG lenG (consM (vM 0) nilM)) (callG lenG (consM (vM 1) nilM))) (callG allG (consM (compM (src1 (callG lenG (consM (vM 1) nilM))) (.nm 2) yesB (appM 2 φlaw_same (consM (op2M ixG (vM 0) (vM 2)) (consM (op2M ixG (vM 1) (vM 2)) nilM)) []) [2]) nilM))))) nxM)
  (seqM (ifSM (orB (cmpB neG (callG isiA (consM (vM 0) (consM (cM (.raw (.ty "bool"))) nilM))) (callG isiA (consM (vM 1) (consM (cM (.raw (.ty "bool"))) nilM)))) (cmpB neG (callG isiA (consM (vM 0) (consM (cM (.raw (.ty "str"))) nilM))) (callG isiA (consM (vM 1) (consM (cM (.raw (.ty "str"))) nilM))))) (retM (cM (.bl false))) nxM)
  (retM (andM (op2M eqG (op2M isG (vM 0) (cM .non)) (op2M isG (vM 1) (cM .non))) (op2M eqG (vM 0) (vM 1))))))
/-- read_row ['text', 'reader', 'found'] -/
noncomputable def m_read_row (A : Ad) (φReader_init : Fn) (φReader_row : Fn) (φReader_here : Fn) (φReader_need : Fn) : MS := (seqM (asgM 1 (makeM A.Reader 2 φReader_init (consM (vM 0) nilM) []))
  (seqM (asgM 2 (methM A.Reader "row" 2 φReader_row (vM 1) (consM (cM (.int 0)) nilM) []))
  (seqM (exprM (methM A.Reader "need" 2 φReader_need (vM 1) (consM (op2M eqG (methM A.Reader "here" 1 φReader_here (vM 1) nilM []) (cM (.str []))) nilM) []))
  (retM (vM 2)))))
/-- _law_name ['_law_d', '_law_stem', '_law_spot'] -/
noncomputable def m_law_name (A : Ad) (φlaw_letters : Fn) (φlaw_draw : Fn) : MS := (seqM (asgM 1 (op2M mulG (op2M ixG (appM 0 φlaw_letters nilM []) (appM 2 φlaw_draw (consM (vM 0) (consM (cM (.int 26)) nilM)) [])) (appM 2 φlaw_draw (consM (vM 0) (consM (cM (.int 7)) nilM)) [])))
  (seqM (asgM 2 (appM 2 φlaw_draw (consM (vM 0) (consM (op2M addG (callG lenG (consM (vM 1) nilM)) (cM (.int 1))) nilM)) []))
  (retM (op2M addG (op2M addG (slM (vM 1) noO (soO (vM 2))) (op2M ixG (appM 0 φlaw_letters nilM []) (appM 2 φlaw_draw (consM (vM 0) (consM (cM (.int 26)) nilM)) []))) (slM (vM 1) (soO (vM 2)) noO)))))
/-- _law_letters [] -/
noncomputable def m_law_letters (A : Ad)  : MS := (retM (cM (.str [97, 98, 99, 100, 101, 102, 103, 104, 105, 106, 107, 108, 109, 110, 111, 112, 113, 114, 115, 116, 117, 118, 119, 120, 121, 122])))
/-- _law_sides ['_law_d', '_law_shuts', '_law_odds', '_law_found', '_law_shut', '_law_how'] -/
noncomputable def m_law_sides (A : Ad) (φlaw_of : Fn) (φlaw_draw : Fn) : MS := (seqM (asgM 2 (appM 2 φlaw_of (consM (vM 0) (consM (callG lstG (consM (cM (.int 2)) (consM (cM (.int 3)) (consM (cM (.int 4)) (consM (cM (.int 6)) nilM))))) nilM)) []))
  (seqM (asgM 3 (cM (.str [])))
  (seqM (forM (srcV (vM 1)) (.nm 4) (seqM (asgM 5 (appM 2 φlaw_draw (consM (vM 0) (consM (op2M mulG (cM (.int 2)) (vM 2)) nilM)) []))
  (ifSM (cmpB ltG (vM 5) (cM (.int 2))) (asgM 3 (op2M addG (vM 3) (op2M ixG (callG lstG (consM (vM 4) (consM (mtS upperG (vM 4) nilM) nilM))) (vM 5)))) nxM)))
  (retM (vM 3)))))
/-- _law_mixed ['_law_d', '_law_some', '_law_left', '_law_one'] -/
noncomputable def m_law_mixed (A : Ad) (φlaw_draw : Fn) : MS := (seqM (asgM 2 (list2LM (consM (vM 1) nilM)))
  (retM (compM (srcV (vM 1)) (.nm 3) yesB (lmM popAtG (vM 2) (consM (appM 2 φlaw_draw (consM (vM 0) (consM (callG lenG (consM (vM 2) nilM)) nilM)) []) nilM)) [3])))
/-- is_built ['tree', 'step'] -/
noncomputable def m_is_built (A : Ad) (φis_step : Fn) : MS := (seqM (ifSM (orB (notB (trM (callG isiA (consM (vM 0) (consM (cM (.raw (.ty "tuple"))) nilM))))) (orB (cmpB neG (callG lenG (consM (vM 0) nilM)) (cM (.int 2))) (orB (cmpB neG (op2M ixG (vM 0) (cM (.int 0))) (cM (.str [115, 116, 101, 112, 115]))) (notB (trM (callG isiA (consM (op2M ixG (vM 0) (cM (.int 1))) (consM (cM (.raw (.ty "tuple"))) nilM)))))))) (retM (cM (.bl false))) nxM)
  (retM (callG allG (consM (compM (srcV (op2M ixG (vM 0) (cM (.int 1)))) (.nm 1) yesB (appM 1 φis_step (consM (vM 1) nilM) []) [1]) nilM))))
/-- many_steps ['tree', 'inner', 'step'] -/
noncomputable def m_many_steps (A : Ad) (φmany_steps : Fn) : MS := (seqM (asgM 1 (compM (srcV (op2M ixG (vM 0) (cM (.int 1)))) (.nm 2) (cmpB eqG (op2M ixG (vM 2) (cM (.int 0))) (cM (.str [116, 105, 109, 101, 115]))) (appM 1 φmany_steps (consM (op2M ixG (vM 2) (cM (.int 2))) nilM) []) [2]))
  (retM (op2M addG (callG lenG (consM (op2M ixG (vM 0) (cM (.int 1))) nilM)) (callG sumG (consM (vM 1) nilM)))))
/-- deep_of ['tree', 'step'] -/
noncomputable def m_deep_of (A : Ad) (φdeep_of : Fn) : MS := (retM (callKG maxDfG (consM (compM (srcV (op2M ixG (vM 0) (cM (.int 1)))) (.nm 1) (cmpB eqG (op2M ixG (vM 1) (cM (.int 0))) (cM (.str [116, 105, 109, 101, 115]))) (op2M addG (cM (.int 1)) (appM 1 φdeep_of (consM (op2M ixG (vM 1) (cM (.int 2))) nilM) [])) [1]) nilM) (consM (cM (.int 0)) nilM)))
/-- look_row ['tree'] -/
noncomputable def m_look_row (A : Ad) (φis_row : Fn) : MS := (ifSM (notB (trM (appM 1 φis_row (consM (vM 0) nilM) []))) (raiseM (mkxM A.BadTree 0 ["word"] gx_BadTree nilM)) nxM)
/-- told_text ['tree', 'step'] -/
noncomputable def m_told_text (A : Ad) (φstep_text : Fn) : MS := (retM (ifM (cmpB gtG (callG lenG (consM (op2M ixG (vM 0) (cM (.int 1))) nilM)) (cM (.int 0))) (mtS joinG (cM (.str [32])) (consM (compM (srcV (op2M ixG (vM 0) (cM (.int 1)))) (.nm 1) yesB (appM 1 φstep_text (consM (vM 1) nilM) []) [1]) nilM)) (cM (.str [45]))))
/-- Reader.__init__ ['self', 'signs'] -/
noncomputable def m_Reader_init (A : Ad)  : MS := (seqM (setfM A.Reader "signs" (vM 0) (vM 1))
  (seqM (setfM A.Reader "now" (vM 0) (cM (.int 0)))
  (setfM A.Reader "many" (vM 0) (cM (.int 0)))))
/-- Reader.row ['self', 'deep', 'found'] -/
noncomputable def m_Reader_row (A : Ad) (φReader_here : Fn) (φReader_step : Fn) : MS := (seqM (ifSM (cmpB eqG (methM A.Reader "here" 1 φReader_here (vM 0) nilM []) (cM (.str [45]))) (seqM (fldaugM A.Reader "now" addI (vM 0) (cM (.int 1)))
  (retM (callG tupG (consM (cM (.str [115, 116, 101, 112, 115])) (consM (callG tupG nilM) nilM))))) nxM)
  (seqM (asgM 2 (lstLM (consM (methM A.Reader "step" 2 φReader_step (vM 0) (consM (vM 1) nilM) []) nilM)))
  (seqM (whileM (cmpB eqG (methM A.Reader "here" 1 φReader_here (vM 0) nilM []) (cM (.str [32]))) (seqM (fldaugM A.Reader "now" addI (vM 0) (cM (.int 1)))
  (exprM (lmM appendG (vM 2) (consM (methM A.Reader "step" 2 φReader_step (vM 0) (consM (vM 1) nilM) []) nilM)))))
  (retM (callG tupG (consM (cM (.str [115, 116, 101, 112, 115])) (consM (callG tupleG (consM (vM 2) nilM)) nilM)))))))
/-- Reader.here ['self'] -/
noncomputable def m_Reader_here (A : Ad)  : MS := (retM (slM (fldM A.Reader "signs" (vM 0)) (soO (fldM A.Reader "now" (vM 0))) (soO (op2M addG (fldM A.Reader "now" (vM 0)) (cM (.int 1))))))
/-- Reader.need ['self', 'good'] -/
noncomputable def m_Reader_need (A : Ad)  : MS := (ifSM (notB (trM (vM 1))) (raiseM (mkxM A.BadText 1 ["at", "word"] gx_BadText (consM (fldM A.Reader "now" (vM 0)) nilM))) nxM)
/-- is_step ['tree'] -/
noncomputable def m_is_step (A : Ad) (φare_letters : Fn) (φis_name : Fn) (φis_times : Fn) (φis_built : Fn) : MS := (seqM (ifSM (orB (notB (trM (callG isiA (consM (vM 0) (consM (cM (.raw (.ty "tuple"))) nilM))))) (orB (cmpB ltG (callG lenG (consM (vM 0) nilM)) (cM (.int 2))) (notB (trM (callG isiA (consM (op2M ixG (vM 0) (cM (.int 0))) (consM (cM (.raw (.ty "str"))) nilM))))))) (retM (cM (.bl false))) nxM)
  (seqM (ifSM (cmpB eqG (op2M ixG (vM 0) (cM (.int 0))) (cM (.str [99, 97, 108, 108]))) (retM (andM (op2M eqG (callG lenG (consM (vM 0) nilM)) (cM (.int 2))) (appM 2 φare_letters (consM (op2M ixG (vM 0) (cM (.int 1))) (consM (cM (.int 0)) nilM)) []))) nxM)
  (seqM (ifSM (cmpB eqG (op2M ixG (vM 0) (cM (.int 0))) (cM (.str [116, 117, 114, 110]))) (retM (andM (op2M eqG (callG lenG (consM (vM 0) nilM)) (cM (.int 2))) (appM 2 φare_letters (consM (op2M ixG (vM 0) (cM (.int 1))) (consM (cM (.int 1)) nilM)) []))) nxM)
  (seqM (ifSM (cmpB eqG (op2M ixG (vM 0) (cM (.int 0))) (cM (.str [114, 111, 119]))) (retM (andM (op2M eqG (callG lenG (consM (vM 0) nilM)) (cM (.int 2))) (andM (callG isiA (consM (op2M ixG (vM 0) (cM (.int 1))) (consM (cM (.raw (.ty "str"))) nilM))) (appM 1 φis_name (consM (op2M ixG (vM 0) (cM (.int 1))) nilM) [])))) nxM)
  (retM (andM (op2M eqG (op2M ixG (vM 0) (cM (.int 0))) (cM (.str [116, 105, 109, 101, 115]))) (andM (op2M eqG (callG lenG (consM (vM 0) nilM)) (cM (.int 3))) (andM (appM 1 φis_times (consM (op2M ixG (vM 0) (cM (.int 1))) nilM) []) (appM 1 φis_built (consM (op2M ixG (vM 0) (cM (.int 2))) nilM) [])))))))))
/-- step_text ['step', 'kind', 'things'] -/
noncomputable def m_step_text (A : Ad) (φtold_text : Fn) : MS := (seqM (asgS [(.nm 1), (.nm 2)] 1 (vM 0))
  (seqM (ifSM (cmpB eqG (vM 1) (cM (.str [99, 97, 108, 108]))) (retM (jsL [(cM (.str [46])), (fmtM (op2M ixG (vM 2) (cM (.int 0))))] [])) nxM)
  (seqM (ifSM (cmpB eqG (vM 1) (cM (.str [116, 117, 114, 110]))) (retM (jsL [(cM (.str [126])), (fmtM (op2M ixG (vM 2) (cM (.int 0))))] [])) nxM)
  (seqM (ifSM (cmpB eqG (vM 1) (cM (.str [114, 111, 119]))) (retM (jsL [(cM (.str [60])), (fmtM (op2M ixG (vM 2) (cM (.int 0)))), (cM (.str [62]))] [])) nxM)
  (retM (jsL [(cM (.str [40])), (fmtM (appM 1 φtold_text (consM (op2M ixG (vM 2) (cM (.int 1))) nilM) [])), (cM (.str [41, 42])), (fmtM (op2M ixG (vM 2) (cM (.int 0))))] []))))))
/-- Reader.step ['self', 'deep', 'sign', 'name', 'inner'] -/
noncomputable def m_Reader_step (A : Ad) (φReader_here : Fn) (φReader_need : Fn) (φReader_run : Fn) (φReader_pass_by : Fn) (φReader_row : Fn) (φReader_number : Fn) : MS := (seqM (asgM 2 (methM A.Reader "here" 1 φReader_here (vM 0) nilM []))
  (seqM (exprM (methM A.Reader "need" 2 φReader_need (vM 0) (consM (andM (op2M neG (vM 2) (cM (.str []))) (andM (op2M inG (vM 2) (cM (.str [46, 126, 60, 40]))) (op2M ltG (fldM A.Reader "many" (vM 0)) (cM (.int 60))))) nilM) []))
  (seqM (exprM (methM A.Reader "need" 2 φReader_need (vM 0) (consM (orM (op2M neG (vM 2) (cM (.str [40]))) (op2M ltG (vM 1) (cM (.int 12)))) nilM) []))
  (seqM (fldaugM A.Reader "many" addI (vM 0) (cM (.int 1)))
  (seqM (fldaugM A.Reader "now" addI (vM 0) (cM (.int 1)))
  (seqM (ifSM (cmpB eqG (vM 2) (cM (.str [46]))) (retM (callG tupG (consM (cM (.str [99, 97, 108, 108])) (consM (methN A.Reader "run" 2 0 4 φReader_run gD_Reader_run_0 (vM 0) (consM (cM (.str s_LETTERS)) nilM) nilM) nilM)))) nxM)
  (seqM (ifSM (cmpB eqG (vM 2) (cM (.str [126]))) (retM (callG tupG (consM (cM (.str [116, 117, 114, 110])) (consM (methN A.Reader "run" 2 1 4 φReader_run gD_Reader_run_least (vM 0) (consM (cM (.str s_LETTERS)) nilM) (consM (cM (.int 1)) nilM)) nilM)))) nxM)
  (seqM (ifSM (cmpB eqG (vM 2) (cM (.str [60]))) (seqM (asgM 3 (methN A.Reader "run" 2 2 4 φReader_run gD_Reader_run_least_most (vM 0) (consM (cM (.str s_SMALL)) nilM) (consM (cM (.int 1)) (consM (cM (.int 8)) nilM))))
  (seqM (exprM (methM A.Reader "pass_by" 2 φReader_pass_by (vM 0) (consM (cM (.str [62])) nilM) []))
  (retM (callG tupG (consM (cM (.str [114, 111, 119])) (consM (vM 3) nilM)))))) nxM)
  (seqM (asgM 4 (methM A.Reader "row" 2 φReader_row (vM 0) (consM (op2M addG (vM 1) (cM (.int 1))) nilM) []))
  (seqM (exprM (methM A.Reader "pass_by" 2 φReader_pass_by (vM 0) (consM (cM (.str [41])) nilM) []))
  (seqM (exprM (methM A.Reader "pass_by" 2 φReader_pass_by (vM 0) (consM (cM (.str [42])) nilM) []))
  (retM (callG tupG (consM (cM (.str [116, 105, 109, 101, 115])) (consM (methM A.Reader "number" 1 φReader_number (vM 0) nilM []) (consM (vM 4) nilM))))))))))))))))
/-- are_letters ['text', 'least', 'sign'] -/
noncomputable def m_are_letters (A : Ad)  : MS := (retM (andM (callG isiA (consM (vM 0) (consM (cM (.raw (.ty "str"))) nilM))) (andM (chM leG leG (vM 1) (callG lenG (consM (vM 0) nilM)) (cM (.int 12))) (callG allG (consM (compM (srcV (vM 0)) (.nm 2) yesB (op2M inG (vM 2) (cM (.str s_LETTERS))) [2]) nilM)))))
/-- is_name ['name', 'sign'] -/
noncomputable def m_is_name (A : Ad)  : MS := (retM (andM (chM leG leG (cM (.int 1)) (callG lenG (consM (vM 0) nilM)) (cM (.int 8))) (callG allG (consM (compM (srcV (vM 0)) (.nm 1) yesB (op2M inG (vM 1) (cM (.str s_SMALL))) [1]) nilM))))
/-- is_times ['many'] -/
noncomputable def m_is_times (A : Ad)  : MS := (retM (andM (callG isiA (consM (vM 0) (consM (cM (.raw (.ty "int"))) nilM))) (andM (notM (callG isiA (consM (vM 0) (consM (cM (.raw (.ty "bool"))) nilM)))) (chM leG leG (cM (.int 0)) (vM 0) (cM (.int 1000000000000000000000000000000))))))
/-- Reader.run ['self', 'some', 'least', 'most', 'start'] -/
noncomputable def m_Reader_run (A : Ad) (φReader_here : Fn) (φReader_need : Fn) : MS := (seqM (asgM 4 (fldM A.Reader "now" (vM 0)))
  (seqM (whileM (andB (cmpB ltG (op2M subG (fldM A.Reader "now" (vM 0)) (vM 4)) (vM 3)) (andB (cmpB neG (methM A.Reader "here" 1 φReader_here (vM 0) nilM []) (cM (.str []))) (cmpB inG (methM A.Reader "here" 1 φReader_here (vM 0) nilM []) (vM 1)))) (fldaugM A.Reader "now" addI (vM 0) (cM (.int 1))))
  (seqM (exprM (methM A.Reader "need" 2 φReader_need (vM 0) (consM (op2M geG (op2M subG (fldM A.Reader "now" (vM 0)) (vM 4)) (vM 2)) nilM) []))
  (retM (slM (fldM A.Reader "signs" (vM 0)) (soO (vM 4)) (soO (fldM A.Reader "now" (vM 0))))))))
/-- Reader.pass_by ['self', 'sign'] -/
noncomputable def m_Reader_pass_by (A : Ad) (φReader_here : Fn) (φReader_need : Fn) : MS := (seqM (exprM (methM A.Reader "need" 2 φReader_need (vM 0) (consM (op2M eqG (methM A.Reader "here" 1 φReader_here (vM 0) nilM []) (vM 1)) nilM) []))
  (fldaugM A.Reader "now" addI (vM 0) (cM (.int 1))))
/-- Reader.number ['self', 'word'] -/
noncomputable def m_Reader_number (A : Ad) (φReader_here : Fn) (φReader_run : Fn) : MS := (seqM (ifSM (cmpB eqG (methM A.Reader "here" 1 φReader_here (vM 0) nilM []) (cM (.str [48]))) (seqM (fldaugM A.Reader "now" addI (vM 0) (cM (.int 1)))
  (retM (cM (.int 0)))) nxM)
  (seqM (asgM 1 (methN A.Reader "run" 2 2 4 φReader_run gD_Reader_run_least_most (vM 0) (consM (cM (.str s_FIGURES)) nilM) (consM (cM (.int 1)) (consM (cM (.int 31)) nilM))))
  (seqM (ifSM (cmpB gtG (callG intG (consM (vM 1) nilM)) (cM (.int 1000000000000000000000000000000))) (raiseM (mkxM A.BadText 1 ["at", "word"] gx_BadText (consM (op2M subG (fldM A.Reader "now" (vM 0)) (cM (.int 1))) nilM))) nxM)
  (retM (callG intG (consM (vM 1) nilM))))))
noncomputable def φlaw_draw (A : Ad) : Fn := defM 5 (m_law_draw A )
noncomputable def φlaw_of (A : Ad) : Fn := defM 2 (m_law_of A (φlaw_draw A))
noncomputable def φlaw_number (A : Ad) : Fn := defM 1 (m_law_number A (φlaw_draw A) (φlaw_of A))
noncomputable def φlaw_letters (A : Ad) : Fn := defM 0 (m_law_letters A )
noncomputable def φlaw_name (A : Ad) : Fn := defM 3 (m_law_name A (φlaw_letters A) (φlaw_draw A))
noncomputable def φlaw_sides (A : Ad) : Fn := defM 6 (m_law_sides A (φlaw_of A) (φlaw_draw A))
noncomputable def φlaw_mixed (A : Ad) : Fn := defM 4 (m_law_mixed A (φlaw_draw A))
noncomputable def grp_law_tree (A : Ad) : Nat → Fn
  | 0 => (stuckF)
  | n + 1 => (defM 7 (m_law_tree A (φlaw_of A) (φlaw_draw A) ((grp_law_tree A n)) (φlaw_number A) (φlaw_name A) (φlaw_letters A) (φlaw_sides A) (φlaw_mixed A)))
noncomputable def φn_law_tree (A : Ad) (n : Nat) : Fn := (grp_law_tree A n)
noncomputable def φlaw_tree (A : Ad) : Fn := φn_law_tree A 20
noncomputable def grp_law_text (A : Ad) : Nat → Fn
  | 0 => (stuckF)
  | n + 1 => (defM 3 (m_law_text A ((grp_law_text A n))))
noncomputable def φn_law_text (A : Ad) (n : Nat) : Fn := (grp_law_text A n)
noncomputable def φlaw_text (A : Ad) : Fn := φn_law_text A 40
noncomputable def φare_letters (A : Ad) : Fn := defM 3 (m_are_letters A )
noncomputable def φis_name (A : Ad) : Fn := defM 2 (m_is_name A )
noncomputable def φis_times (A : Ad) : Fn := defM 1 (m_is_times A )
noncomputable def grp_is_step_is_built (A : Ad) : Nat → Fn × Fn
  | 0 => (stuckF, stuckF)
  | n + 1 => (defM 1 (m_is_step A (φare_letters A) (φis_name A) (φis_times A) ((grp_is_step_is_built A n).2)),
    defM 2 (m_is_built A ((grp_is_step_is_built A n).1)))
noncomputable def φn_is_step (A : Ad) (n : Nat) : Fn := (grp_is_step_is_built A n).1
noncomputable def φis_step (A : Ad) : Fn := φn_is_step A 40
noncomputable def φn_is_built (A : Ad) (n : Nat) : Fn := (grp_is_step_is_built A n).2
noncomputable def φis_built (A : Ad) : Fn := φn_is_built A 40
noncomputable def grp_many_steps (A : Ad) : Nat → Fn
  | 0 => (stuckF)
  | n + 1 => (defM 3 (m_many_steps A ((grp_many_steps A n))))
noncomputable def φn_many_steps (A : Ad) (n : Nat) : Fn := (grp_many_steps A n)
noncomputable def φmany_steps (A : Ad) : Fn := φn_many_steps A 40
noncomputable def grp_deep_of (A : Ad) : Nat → Fn
  | 0 => (stuckF)
  | n + 1 => (defM 2 (m_deep_of A ((grp_deep_of A n))))
noncomputable def φn_deep_of (A : Ad) (n : Nat) : Fn := (grp_deep_of A n)
noncomputable def φdeep_of (A : Ad) : Fn := φn_deep_of A 40
noncomputable def φis_row (A : Ad) : Fn := defM 1 (m_is_row A (φis_built A) (φmany_steps A) (φdeep_of A))
noncomputable def φlook_row (A : Ad) : Fn := defM 1 (m_look_row A (φis_row A))
noncomputable def grp_step_text_told_text (A : Ad) : Nat → Fn × Fn
  | 0 => (stuckF, stuckF)
  | n + 1 => (defM 3 (m_step_text A ((grp_step_text_told_text A n).2)),
    defM 2 (m_told_text A ((grp_step_text_told_text A n).1)))
noncomputable def φn_step_text (A : Ad) (n : Nat) : Fn := (grp_step_text_told_text A n).1
noncomputable def φstep_text (A : Ad) : Fn := φn_step_text A 40
noncomputable def φn_told_text (A : Ad) (n : Nat) : Fn := (grp_step_text_told_text A n).2
noncomputable def φtold_text (A : Ad) : Fn := φn_told_text A 40
noncomputable def φrow_text (A : Ad) : Fn := defM 1 (m_row_text A (φlook_row A) (φtold_text A))
noncomputable def grp_law_same (A : Ad) : Nat → Fn
  | 0 => (stuckF)
  | n + 1 => (defM 3 (m_law_same A ((grp_law_same A n))))
noncomputable def φn_law_same (A : Ad) (n : Nat) : Fn := (grp_law_same A n)
noncomputable def φlaw_same (A : Ad) : Fn := φn_law_same A 40
noncomputable def φReader_init (A : Ad) : Fn := defM 2 (m_Reader_init A )
noncomputable def φReader_here (A : Ad) : Fn := defM 1 (m_Reader_here A )
noncomputable def φReader_need (A : Ad) : Fn := defM 2 (m_Reader_need A )
noncomputable def φReader_run (A : Ad) : Fn := defM 5 (m_Reader_run A (φReader_here A) (φReader_need A))
noncomputable def φReader_pass_by (A : Ad) : Fn := defM 2 (m_Reader_pass_by A (φReader_here A) (φReader_need A))
noncomputable def φReader_number (A : Ad) : Fn := defM 2 (m_Reader_number A (φReader_here A) (φReader_run A))
noncomputable def grp_Reader_step_Reader_row (A : Ad) : Nat → Fn × Fn
  | 0 => (stuckF, stuckF)
  | n + 1 => (defM 5 (m_Reader_step A (φReader_here A) (φReader_need A) (φReader_run A) (φReader_pass_by A) ((grp_Reader_step_Reader_row A n).2) (φReader_number A)),
    defM 3 (m_Reader_row A (φReader_here A) ((grp_Reader_step_Reader_row A n).1)))
noncomputable def φn_Reader_step (A : Ad) (n : Nat) : Fn := (grp_Reader_step_Reader_row A n).1
noncomputable def φReader_step (A : Ad) : Fn := φn_Reader_step A 60
noncomputable def φn_Reader_row (A : Ad) (n : Nat) : Fn := (grp_Reader_step_Reader_row A n).2
noncomputable def φReader_row (A : Ad) : Fn := φn_Reader_row A 60
noncomputable def φread_row (A : Ad) : Fn := defM 3 (m_read_row A (φReader_init A) (φReader_row A) (φReader_here A) (φReader_need A))
noncomputable def mlaw (A : Ad) : MS := m_law A (φlaw_of A) (φlaw_tree A) (φlaw_draw A) (φlaw_number A) (φlaw_text A) (φis_row A) (φrow_text A) (φlaw_same A) (φread_row A)
end K27

/-! The walks (printed by gen.py). -/
namespace K27
open PySem PySem.Spec L2 SL
open PyProof.Rows hiding St
def top (i : Nat) : Stmt := PySem.Challenge.pw_nearcall_k27_rows_written_and_read.main.body.getD i (.Pass ⟨0, 0, 0, 0⟩)
structure Fds where
  (d_law d_law_start d_law_of d_law_tree d_law_draw d_law_number d_law_text d_is_row d_row_text d_law_same d_read_row d_law_name d_law_letters d_law_sides d_law_mixed d_is_built d_many_steps d_deep_of d_look_row d_told_text d_Reader_init d_Reader_row d_Reader_here d_Reader_need d_is_step d_step_text d_Reader_step d_are_letters d_is_name d_is_times d_Reader_run d_Reader_pass_by d_Reader_number d_HallError_init d_BadText_init d_BadTree_init : FuncData)
abbrev adK (K : PySem.W.Frag) : Ad := ⟨He.ga K "HallError", He.ga K "BadText", He.ga K "BadTree", He.ga K "Reader"⟩
/-- what is known of the head -/
structure Fx (K : PySem.W.Frag) (mg : Str → Option Value) (E : Fds) : Prop where
  F_law : FunD K "law" "law" (defArgs (top 39)) (defBody (top 39)) (defScope (top 39)) [] [] (He.fAd K ("law", none)) E.d_law
  F_law_start : FunD K "_law_start" "_law_start" (defArgs (top 29)) (defBody (top 29)) (defScope (top 29)) [] [] (He.fAd K ("_law_start", none)) E.d_law_start
  F_law_of : FunD K "_law_of" "_law_of" (defArgs (top 31)) (defBody (top 31)) (defScope (top 31)) [] [] (He.fAd K ("_law_of", none)) E.d_law_of
  F_law_tree : FunD K "_law_tree" "_law_tree" (defArgs (top 37)) (defBody (top 37)) (defScope (top 37)) [] [] (He.fAd K ("_law_tree", none)) E.d_law_tree
  F_law_draw : FunD K "_law_draw" "_law_draw" (defArgs (top 30)) (defBody (top 30)) (defScope (top 30)) [] [] (He.fAd K ("_law_draw", none)) E.d_law_draw
  F_law_number : FunD K "_law_number" "_law_number" (defArgs (top 35)) (defBody (top 35)) (defScope (top 35)) [] [] (He.fAd K ("_law_number", none)) E.d_law_number
  F_law_text : FunD K "_law_text" "_law_text" (defArgs (top 38)) (defBody (top 38)) (defScope (top 38)) [] [] (He.fAd K ("_law_text", none)) E.d_law_text
  F_is_row : FunD K "is_row" "is_row" (defArgs (top 20)) (defBody (top 20)) (defScope (top 20)) [] [] (He.fAd K ("is_row", none)) E.d_is_row
  F_row_text : FunD K "row_text" "row_text" (defArgs (top 24)) (defBody (top 24)) (defScope (top 24)) [] [] (He.fAd K ("row_text", none)) E.d_row_text
  F_law_same : FunD K "_law_same" "_law_same" (defArgs (top 28)) (defBody (top 28)) (defScope (top 28)) [] [] (He.fAd K ("_law_same", none)) E.d_law_same
  F_read_row : FunD K "read_row" "read_row" (defArgs (top 26)) (defBody (top 26)) (defScope (top 26)) [] [] (He.fAd K ("read_row", none)) E.d_read_row
  F_law_name : FunD K "_law_name" "_law_name" (defArgs (top 36)) (defBody (top 36)) (defScope (top 36)) [] [] (He.fAd K ("_law_name", none)) E.d_law_name
  F_law_letters : FunD K "_law_letters" "_law_letters" (defArgs (top 33)) (defBody (top 33)) (defScope (top 33)) [] [] (He.fAd K ("_law_letters", none)) E.d_law_letters
  F_law_sides : FunD K "_law_sides" "_law_sides" (defArgs (top 34)) (defBody (top 34)) (defScope (top 34)) [] [] (He.fAd K ("_law_sides", none)) E.d_law_sides
  F_law_mixed : FunD K "_law_mixed" "_law_mixed" (defArgs (top 32)) (defBody (top 32)) (defScope (top 32)) [] [] (He.fAd K ("_law_mixed", none)) E.d_law_mixed
  F_is_built : FunD K "is_built" "is_built" (defArgs (top 17)) (defBody (top 17)) (defScope (top 17)) [] [] (He.fAd K ("is_built", none)) E.d_is_built
  F_many_steps : FunD K "many_steps" "many_steps" (defArgs (top 18)) (defBody (top 18)) (defScope (top 18)) [] [] (He.fAd K ("many_steps", none)) E.d_many_steps
  F_deep_of : FunD K "deep_of" "deep_of" (defArgs (top 19)) (defBody (top 19)) (defScope (top 19)) [] [] (He.fAd K ("deep_of", none)) E.d_deep_of
  F_look_row : FunD K "look_row" "look_row" (defArgs (top 21)) (defBody (top 21)) (defScope (top 21)) [] [] (He.fAd K ("look_row", none)) E.d_look_row
  F_told_text : FunD K "told_text" "told_text" (defArgs (top 23)) (defBody (top 23)) (defScope (top 23)) [] [] (He.fAd K ("told_text", none)) E.d_told_text
  F_Reader_init : FunD K "__init__" "Reader.__init__" (defArgs (clsDef (top 25) 0)) (defBody (clsDef (top 25) 0)) (defScope (clsDef (top 25) 0)) [] [] (He.fAd K ("Reader", some "__init__")) E.d_Reader_init
  F_Reader_row : FunD K "row" "Reader.row" (defArgs (clsDef (top 25) 7)) (defBody (clsDef (top 25) 7)) (defScope (clsDef (top 25) 7)) [] [] (He.fAd K ("Reader", some "row")) E.d_Reader_row
  F_Reader_here : FunD K "here" "Reader.here" (defArgs (clsDef (top 25) 1)) (defBody (clsDef (top 25) 1)) (defScope (clsDef (top 25) 1)) [] [] (He.fAd K ("Reader", some "here")) E.d_Reader_here
  F_Reader_need : FunD K "need" "Reader.need" (defArgs (clsDef (top 25) 2)) (defBody (clsDef (top 25) 2)) (defScope (clsDef (top 25) 2)) [] [] (He.fAd K ("Reader", some "need")) E.d_Reader_need
  F_is_step : FunD K "is_step" "is_step" (defArgs (top 16)) (defBody (top 16)) (defScope (top 16)) [] [] (He.fAd K ("is_step", none)) E.d_is_step
  F_step_text : FunD K "step_text" "step_text" (defArgs (top 22)) (defBody (top 22)) (defScope (top 22)) [] [] (He.fAd K ("step_text", none)) E.d_step_text
  F_Reader_step : FunD K "step" "Reader.step" (defArgs (clsDef (top 25) 6)) (defBody (clsDef (top 25) 6)) (defScope (clsDef (top 25) 6)) [] [] (He.fAd K ("Reader", some "step")) E.d_Reader_step
  F_are_letters : FunD K "are_letters" "are_letters" (defArgs (top 14)) (defBody (top 14)) (defScope (top 14)) [] [] (He.fAd K ("are_letters", none)) E.d_are_letters
  F_is_name : FunD K "is_name" "is_name" (defArgs (top 13)) (defBody (top 13)) (defScope (top 13)) [] [] (He.fAd K ("is_name", none)) E.d_is_name
  F_is_times : FunD K "is_times" "is_times" (defArgs (top 15)) (defBody (top 15)) (defScope (top 15)) [] [] (He.fAd K ("is_times", none)) E.d_is_times
  F_Reader_run : FunD K "run" "Reader.run" (defArgs (clsDef (top 25) 4)) (defBody (clsDef (top 25) 4)) (defScope (clsDef (top 25) 4)) [] [("least", V.int 0), ("most", V.int 12)] (He.fAd K ("Reader", some "run")) E.d_Reader_run
  F_Reader_pass_by : FunD K "pass_by" "Reader.pass_by" (defArgs (clsDef (top 25) 3)) (defBody (clsDef (top 25) 3)) (defScope (clsDef (top 25) 3)) [] [] (He.fAd K ("Reader", some "pass_by")) E.d_Reader_pass_by
  F_Reader_number : FunD K "number" "Reader.number" (defArgs (clsDef (top 25) 5)) (defBody (clsDef (top 25) 5)) (defScope (clsDef (top 25) 5)) [] [] (He.fAd K ("Reader", some "number")) E.d_Reader_number
  F_HallError_init : FunD K "__init__" "HallError.__init__" (defArgs (clsDef (top 1) 0)) (defBody (clsDef (top 1) 0)) (defScope (clsDef (top 1) 0)) [] [] (He.fAd K ("HallError", some "__init__")) E.d_HallError_init
  F_BadText_init : FunD K "__init__" "BadText.__init__" (defArgs (clsDef (top 2) 0)) (defBody (clsDef (top 2) 0)) (defScope (clsDef (top 2) 0)) [] [] (He.fAd K ("BadText", some "__init__")) E.d_BadText_init
  F_BadTree_init : FunD K "__init__" "BadTree.__init__" (defArgs (clsDef (top 3) 0)) (defBody (clsDef (top 3) 0)) (defScope (clsDef (top 3) 0)) [] [] (He.fAd K ("BadTree", some "__init__")) E.d_BadTree_init
  m_law_start : mg "_law_start" = some (.ref (He.fAd K ("_law_start", none)))
  n_range : mg "range" = none
  m_law_of : mg "_law_of" = some (.ref (He.fAd K ("_law_of", none)))
  m_law_tree : mg "_law_tree" = some (.ref (He.fAd K ("_law_tree", none)))
  m_law_draw : mg "_law_draw" = some (.ref (He.fAd K ("_law_draw", none)))
  m_law_number : mg "_law_number" = some (.ref (He.fAd K ("_law_number", none)))
  m_law_text : mg "_law_text" = some (.ref (He.fAd K ("_law_text", none)))
  m_is_row : mg "is_row" = some (.ref (He.fAd K ("is_row", none)))
  m_row_text : mg "row_text" = some (.ref (He.fAd K ("row_text", none)))
  m_law_same : mg "_law_same" = some (.ref (He.fAd K ("_law_same", none)))
  m_read_row : mg "read_row" = some (.ref (He.fAd K ("read_row", none)))
  n_list : mg "list" = none
  n_len : mg "len" = none
  m_law_name : mg "_law_name" = some (.ref (He.fAd K ("_law_name", none)))
  m_law_letters : mg "_law_letters" = some (.ref (He.fAd K ("_law_letters", none)))
  m_law_sides : mg "_law_sides" = some (.ref (He.fAd K ("_law_sides", none)))
  m_law_mixed : mg "_law_mixed" = some (.ref (He.fAd K ("_law_mixed", none)))
  n_tuple : mg "tuple" = none
  n_str : mg "str" = none
  n_int : mg "int" = none
  m_is_built : mg "is_built" = some (.ref (He.fAd K ("is_built", none)))
  m_many_steps : mg "many_steps" = some (.ref (He.fAd K ("many_steps", none)))
  i_MOST_STEPS : ∃ t, mg "MOST_STEPS" = some (.int 60 t)
  m_deep_of : mg "deep_of" = some (.ref (He.fAd K ("deep_of", none)))
  i_MOST_DEEP : ∃ t, mg "MOST_DEEP" = some (.int 12 t)
  m_look_row : mg "look_row" = some (.ref (He.fAd K ("look_row", none)))
  m_told_text : mg "told_text" = some (.ref (He.fAd K ("told_text", none)))
  n_isinstance : mg "isinstance" = none
  n_all : mg "all" = none
  n_bool : mg "bool" = none
  k_Reader : Mk K (He.ga K "Reader") (He.fAd K ("Reader", some "__init__"))
  g_Reader : mg "Reader" = some (.ref (He.ga K "Reader"))
  c_Reader : Cls K (He.ga K "Reader")
  h_Reader_row : Meth K (He.ga K "Reader") "row" (He.fAd K ("Reader", some "row"))
  h_Reader_here : Meth K (He.ga K "Reader") "here" (He.fAd K ("Reader", some "here"))
  h_Reader_need : Meth K (He.ga K "Reader") "need" (He.fAd K ("Reader", some "need"))
  m_is_step : mg "is_step" = some (.ref (He.fAd K ("is_step", none)))
  n_sum : mg "sum" = none
  n_max : mg "max" = none
  o_BadTree : OexI K (He.ga K "BadTree") (He.fAd K ("BadTree", some "__init__")) E.d_BadTree_init ["self"] ["word"]
  g_BadTree : mg "BadTree" = some (.ref (He.ga K "BadTree"))
  m_step_text : mg "step_text" = some (.ref (He.fAd K ("step_text", none)))
  a_Reader_signs : NoAttr K (He.ga K "Reader") "signs"
  a_Reader_now : NoAttr K (He.ga K "Reader") "now"
  a_Reader_many : NoAttr K (He.ga K "Reader") "many"
  h_Reader_step : Meth K (He.ga K "Reader") "step" (He.fAd K ("Reader", some "step"))
  o_BadText : OexI K (He.ga K "BadText") (He.fAd K ("BadText", some "__init__")) E.d_BadText_init ["self", "at"] ["at", "word"]
  g_BadText : mg "BadText" = some (.ref (He.ga K "BadText"))
  m_are_letters : mg "are_letters" = some (.ref (He.fAd K ("are_letters", none)))
  m_is_name : mg "is_name" = some (.ref (He.fAd K ("is_name", none)))
  m_is_times : mg "is_times" = some (.ref (He.fAd K ("is_times", none)))
  s_LETTERS : ∃ t, mg "LETTERS" = some (.str "abcdefghijklmnopqrstuvwxyzABCDEFGHIJKLMNOPQRSTUVWXYZ" t)
  h_Reader_run : Meth K (He.ga K "Reader") "run" (He.fAd K ("Reader", some "run"))
  s_SMALL : ∃ t, mg "SMALL" = some (.str "abcdefghijklmnopqrstuvwxyz" t)
  i_MOST_NAME : ∃ t, mg "MOST_NAME" = some (.int 8 t)
  h_Reader_pass_by : Meth K (He.ga K "Reader") "pass_by" (He.fAd K ("Reader", some "pass_by"))
  h_Reader_number : Meth K (He.ga K "Reader") "number" (He.fAd K ("Reader", some "number"))
  i_MOST_SIDES : ∃ t, mg "MOST_SIDES" = some (.int 12 t)
  i_MOST_TIMES : ∃ t, mg "MOST_TIMES" = some (.int 1000000000000000000000000000000 t)
  s_FIGURES : ∃ t, mg "FIGURES" = some (.str "0123456789" t)
  n_ValueError : mg "ValueError" = none
  v_VE : PySem.W.findCls K (.type "ValueError") (.type "type") "__init__" = some (.val (.builtin "ValueError.__init__"))
  g_HallError : mg "HallError" = some (.ref (He.ga K "HallError"))
  r_HallError : ClX.CRead K (He.ga K "HallError") (.type "type") ∧ ClX.CVal K (He.ga K "HallError") (.type "type") "__init__" (.ref (He.fAd K ("HallError", some "__init__"))) (.ref (He.fAd K ("HallError", some "__init__")))
  m_law : mg "law" = some (.ref (He.fAd K ("law", none)))
theorem sc_law : FnScope ["_law_script", "_law_d", "_law_turn", "_law_tree_here", "_law_k", "_law_text_here"] ["_law_script"] (defScope (top 39)) := ⟨rfl, rfl, rfl, by decide +kernel, rfl, by decide +kernel, by decide +kernel⟩
theorem sc_law_start : FnScope ["_law_script", "_law_seed", "_law_cell"] ["_law_script"] (defScope (top 29)) := ⟨rfl, rfl, rfl, by decide +kernel, rfl, by decide +kernel, by decide +kernel⟩
theorem sc_law_of : FnScope ["_law_d", "_law_some"] ["_law_d", "_law_some"] (defScope (top 31)) := ⟨rfl, rfl, rfl, by decide +kernel, rfl, by decide +kernel, by decide +kernel⟩
theorem sc_law_tree : FnScope ["_law_d", "_law_left", "_law_deep", "_law_steps", "_law_k", "_law_how", "_law_text_here"] ["_law_d", "_law_left", "_law_deep"] (defScope (top 37)) := ⟨rfl, rfl, rfl, by decide +kernel, rfl, by decide +kernel, by decide +kernel⟩
theorem sc_law_draw : FnScope ["_law_d", "_law_many", "_law_cell", "_law_digit", "_law_mix"] ["_law_d", "_law_many"] (defScope (top 30)) := ⟨rfl, rfl, rfl, by decide +kernel, rfl, by decide +kernel, by decide +kernel⟩
theorem sc_law_number : FnScope ["_law_d"] ["_law_d"] (defScope (top 35)) := ⟨rfl, rfl, rfl, by decide +kernel, rfl, by decide +kernel, by decide +kernel⟩
theorem sc_law_text : FnScope ["_law_tree_here", "_law_words", "_law_step"] ["_law_tree_here"] (defScope (top 38)) := ⟨rfl, rfl, rfl, by decide +kernel, rfl, by decide +kernel, by decide +kernel⟩
theorem sc_is_row : FnScope ["tree"] ["tree"] (defScope (top 20)) := ⟨rfl, rfl, rfl, by decide +kernel, rfl, by decide +kernel, by decide +kernel⟩
theorem sc_row_text : FnScope ["tree"] ["tree"] (defScope (top 24)) := ⟨rfl, rfl, rfl, by decide +kernel, rfl, by decide +kernel, by decide +kernel⟩
theorem sc_law_same : FnScope ["_law_x", "_law_due", "_law_k"] ["_law_x", "_law_due"] (defScope (top 28)) := ⟨rfl, rfl, rfl, by decide +kernel, rfl, by decide +kernel, by decide +kernel⟩
theorem sc_read_row : FnScope ["text", "reader", "found"] ["text"] (defScope (top 26)) := ⟨rfl, rfl, rfl, by decide +kernel, rfl, by decide +kernel, by decide +kernel⟩
theorem sc_law_name : FnScope ["_law_d", "_law_stem", "_law_spot"] ["_law_d"] (defScope (top 36)) := ⟨rfl, rfl, rfl, by decide +kernel, rfl, by decide +kernel, by decide +kernel⟩
theorem sc_law_letters : FnScope [] [] (defScope (top 33)) := ⟨rfl, rfl, rfl, by decide +kernel, rfl, by decide +kernel, by decide +kernel⟩
theorem sc_law_sides : FnScope ["_law_d", "_law_shuts", "_law_odds", "_law_found", "_law_shut", "_law_how"] ["_law_d", "_law_shuts"] (defScope (top 34)) := ⟨rfl, rfl, rfl, by decide +kernel, rfl, by decide +kernel, by decide +kernel⟩
theorem sc_law_mixed : FnScope ["_law_d", "_law_some", "_law_left", "_law_one"] ["_law_d", "_law_some"] (defScope (top 32)) := ⟨rfl, rfl, rfl, by decide +kernel, rfl, by decide +kernel, by decide +kernel⟩
theorem sc_is_built : FnScope ["tree", "step"] ["tree"] (defScope (top 17)) := ⟨rfl, rfl, rfl, by decide +kernel, rfl, by decide +kernel, by decide +kernel⟩
theorem sc_many_steps : FnScope ["tree", "inner", "step"] ["tree"] (defScope (top 18)) := ⟨rfl, rfl, rfl, by decide +kernel, rfl, by decide +kernel, by decide +kernel⟩
theorem sc_deep_of : FnScope ["tree", "step"] ["tree"] (defScope (top 19)) := ⟨rfl, rfl, rfl, by decide +kernel, rfl, by decide +kernel, by decide +kernel⟩
theorem sc_look_row : FnScope ["tree"] ["tree"] (defScope (top 21)) := ⟨rfl, rfl, rfl, by decide +kernel, rfl, by decide +kernel, by decide +kernel⟩
theorem sc_told_text : FnScope ["tree", "step"] ["tree"] (defScope (top 23)) := ⟨rfl, rfl, rfl, by decide +kernel, rfl, by decide +kernel, by decide +kernel⟩
theorem sc_Reader_init : FnScope ["self", "signs"] ["self", "signs"] (defScope (clsDef (top 25) 0)) := ⟨rfl, rfl, rfl, by decide +kernel, rfl, by decide +kernel, by decide +kernel⟩
theorem sc_Reader_row : FnScope ["self", "deep", "found"] ["self", "deep"] (defScope (clsDef (top 25) 7)) := ⟨rfl, rfl, rfl, by decide +kernel, rfl, by decide +kernel, by decide +kernel⟩
theorem sc_Reader_here : FnScope ["self"] ["self"] (defScope (clsDef (top 25) 1)) := ⟨rfl, rfl, rfl, by decide +kernel, rfl, by decide +kernel, by decide +kernel⟩
theorem sc_Reader_need : FnScope ["self", "good"] ["self", "good"] (defScope (clsDef (top 25) 2)) := ⟨rfl, rfl, rfl, by decide +kernel, rfl, by decide +kernel, by decide +kernel⟩
theorem sc_is_step : FnScope ["tree"] ["tree"] (defScope (top 16)) := ⟨rfl, rfl, rfl, by decide +kernel, rfl, by decide +kernel, by decide +kernel⟩
theorem sc_step_text : FnScope ["step", "kind", "things"] ["step"] (defScope (top 22)) := ⟨rfl, rfl, rfl, by decide +kernel, rfl, by decide +kernel, by decide +kernel⟩
theorem sc_Reader_step : FnScope ["self", "deep", "sign", "name", "inner"] ["self", "deep"] (defScope (clsDef (top 25) 6)) := ⟨rfl, rfl, rfl, by decide +kernel, rfl, by decide +kernel, by decide +kernel⟩
theorem sc_are_letters : FnScope ["text", "least", "sign"] ["text", "least"] (defScope (top 14)) := ⟨rfl, rfl, rfl, by decide +kernel, rfl, by decide +kernel, by decide +kernel⟩
theorem sc_is_name : FnScope ["name", "sign"] ["name"] (defScope (top 13)) := ⟨rfl, rfl, rfl, by decide +kernel, rfl, by decide +kernel, by decide +kernel⟩
theorem sc_is_times : FnScope ["many"] ["many"] (defScope (top 15)) := ⟨rfl, rfl, rfl, by decide +kernel, rfl, by decide +kernel, by decide +kernel⟩
theorem sc_Reader_run : FnScope ["self", "some", "least", "most", "start"] ["self", "some", "least", "most"] (defScope (clsDef (top 25) 4)) := ⟨rfl, rfl, rfl, by decide +kernel, rfl, by decide +kernel, by decide +kernel⟩
theorem sc_Reader_pass_by : FnScope ["self", "sign"] ["self", "sign"] (defScope (clsDef (top 25) 3)) := ⟨rfl, rfl, rfl, by decide +kernel, rfl, by decide +kernel, by decide +kernel⟩
theorem sc_Reader_number : FnScope ["self", "word"] ["self"] (defScope (clsDef (top 25) 5)) := ⟨rfl, rfl, rfl, by decide +kernel, rfl, by decide +kernel, by decide +kernel⟩
theorem sc_HallError_init : FnScope ["self", "word"] ["self", "word"] (defScope (clsDef (top 1) 0)) := ⟨rfl, rfl, rfl, by decide +kernel, rfl, by decide +kernel, by decide +kernel⟩
theorem sc_BadText_init : FnScope ["self", "at"] ["self", "at"] (defScope (clsDef (top 2) 0)) := ⟨rfl, rfl, rfl, by decide +kernel, rfl, by decide +kernel, by decide +kernel⟩
theorem sc_BadTree_init : FnScope ["self"] ["self"] (defScope (clsDef (top 3) 0)) := ⟨rfl, rfl, rfl, by decide +kernel, rfl, by decide +kernel, by decide +kernel⟩
section
variable {P : Program} {w : World} {K : PySem.W.Frag} {mg : Str → Option Value} {base : Heap} {E : Fds} {k : Nat}
theorem bb_law {fd : FuncData} {kws : List (Str × V)} {f : Addr} (F : FunD K "law" "law" (defArgs (top 39)) (defBody (top 39)) (defScope (top 39)) [] kws f fd) : Binds K fd ["_law_script"] [] := F.bindsN fun _ _ _ _ _ _ us hl => match us, hl with | [_], _ => rfl
theorem b_law (x : Fx K mg E) : Binds K E.d_law ["_law_script"] [] := bb_law x.F_law
theorem bb_law_start {fd : FuncData} {kws : List (Str × V)} {f : Addr} (F : FunD K "_law_start" "_law_start" (defArgs (top 29)) (defBody (top 29)) (defScope (top 29)) [] kws f fd) : Binds K fd ["_law_script"] [] := F.bindsN fun _ _ _ _ _ _ us hl => match us, hl with | [_], _ => rfl
theorem b_law_start (x : Fx K mg E) : Binds K E.d_law_start ["_law_script"] [] := bb_law_start x.F_law_start
theorem bb_law_of {fd : FuncData} {kws : List (Str × V)} {f : Addr} (F : FunD K "_law_of" "_law_of" (defArgs (top 31)) (defBody (top 31)) (defScope (top 31)) [] kws f fd) : Binds K fd ["_law_d", "_law_some"] [] := F.bindsN fun _ _ _ _ _ _ us hl => match us, hl with | [_, _], _ => rfl
theorem b_law_of (x : Fx K mg E) : Binds K E.d_law_of ["_law_d", "_law_some"] [] := bb_law_of x.F_law_of
theorem bb_law_tree {fd : FuncData} {kws : List (Str × V)} {f : Addr} (F : FunD K "_law_tree" "_law_tree" (defArgs (top 37)) (defBody (top 37)) (defScope (top 37)) [] kws f fd) : Binds K fd ["_law_d", "_law_left", "_law_deep"] [] := F.bindsN fun _ _ _ _ _ _ us hl => match us, hl with | [_, _, _], _ => rfl
theorem b_law_tree (x : Fx K mg E) : Binds K E.d_law_tree ["_law_d", "_law_left", "_law_deep"] [] := bb_law_tree x.F_law_tree
theorem bb_law_draw {fd : FuncData} {kws : List (Str × V)} {f : Addr} (F : FunD K "_law_draw" "_law_draw" (defArgs (top 30)) (defBody (top 30)) (defScope (top 30)) [] kws f fd) : Binds K fd ["_law_d", "_law_many"] [] := F.bindsN fun _ _ _ _ _ _ us hl => match us, hl with | [_, _], _ => rfl
theorem b_law_draw (x : Fx K mg E) : Binds K E.d_law_draw ["_law_d", "_law_many"] [] := bb_law_draw x.F_law_draw
theorem bb_law_number {fd : FuncData} {kws : List (Str × V)} {f : Addr} (F : FunD K "_law_number" "_law_number" (defArgs (top 35)) (defBody (top 35)) (defScope (top 35)) [] kws f fd) : Binds K fd ["_law_d"] [] := F.bindsN fun _ _ _ _ _ _ us hl => match us, hl with | [_], _ => rfl
theorem b_law_number (x : Fx K mg E) : Binds K E.d_law_number ["_law_d"] [] := bb_law_number x.F_law_number
theorem bb_law_text {fd : FuncData} {kws : List (Str × V)} {f : Addr} (F : FunD K "_law_text" "_law_text" (defArgs (top 38)) (defBody (top 38)) (defScope (top 38)) [] kws f fd) : Binds K fd ["_law_tree_here"] [] := F.bindsN fun _ _ _ _ _ _ us hl => match us, hl with | [_], _ => rfl
theorem b_law_text (x : Fx K mg E) : Binds K E.d_law_text ["_law_tree_here"] [] := bb_law_text x.F_law_text
theorem bb_is_row {fd : FuncData} {kws : List (Str × V)} {f : Addr} (F : FunD K "is_row" "is_row" (defArgs (top 20)) (defBody (top 20)) (defScope (top 20)) [] kws f fd) : Binds K fd ["tree"] [] := F.bindsN fun _ _ _ _ _ _ us hl => match us, hl with | [_], _ => rfl
theorem b_is_row (x : Fx K mg E) : Binds K E.d_is_row ["tree"] [] := bb_is_row x.F_is_row
theorem bb_row_text {fd : FuncData} {kws : List (Str × V)} {f : Addr} (F : FunD K "row_text" "row_text" (defArgs (top 24)) (defBody (top 24)) (defScope (top 24)) [] kws f fd) : Binds K fd ["tree"] [] := F.bindsN fun _ _ _ _ _ _ us hl => match us, hl with | [_], _ => rfl
theorem b_row_text (x : Fx K mg E) : Binds K E.d_row_text ["tree"] [] := bb_row_text x.F_row_text
theorem bb_law_same {fd : FuncData} {kws : List (Str × V)} {f : Addr} (F : FunD K "_law_same" "_law_same" (defArgs (top 28)) (defBody (top 28)) (defScope (top 28)) [] kws f fd) : Binds K fd ["_law_x", "_law_due"] [] := F.bindsN fun _ _ _ _ _ _ us hl => match us, hl with | [_, _], _ => rfl
theorem b_law_same (x : Fx K mg E) : Binds K E.d_law_same ["_law_x", "_law_due"] [] := bb_law_same x.F_law_same
theorem bb_read_row {fd : FuncData} {kws : List (Str × V)} {f : Addr} (F : FunD K "read_row" "read_row" (defArgs (top 26)) (defBody (top 26)) (defScope (top 26)) [] kws f fd) : Binds K fd ["text"] [] := F.bindsN fun _ _ _ _ _ _ us hl => match us, hl with | [_], _ => rfl
theorem b_read_row (x : Fx K mg E) : Binds K E.d_read_row ["text"] [] := bb_read_row x.F_read_row
theorem bb_law_name {fd : FuncData} {kws : List (Str × V)} {f : Addr} (F : FunD K "_law_name" "_law_name" (defArgs (top 36)) (defBody (top 36)) (defScope (top 36)) [] kws f fd) : Binds K fd ["_law_d"] [] := F.bindsN fun _ _ _ _ _ _ us hl => match us, hl with | [_], _ => rfl
theorem b_law_name (x : Fx K mg E) : Binds K E.d_law_name ["_law_d"] [] := bb_law_name x.F_law_name
theorem bb_law_letters {fd : FuncData} {kws : List (Str × V)} {f : Addr} (F : FunD K "_law_letters" "_law_letters" (defArgs (top 33)) (defBody (top 33)) (defScope (top 33)) [] kws f fd) : Binds K fd [] [] := F.bindsN fun _ _ _ _ _ _ us hl => match us, hl with | [], _ => rfl
theorem b_law_letters (x : Fx K mg E) : Binds K E.d_law_letters [] [] := bb_law_letters x.F_law_letters
theorem bb_law_sides {fd : FuncData} {kws : List (Str × V)} {f : Addr} (F : FunD K "_law_sides" "_law_sides" (defArgs (top 34)) (defBody (top 34)) (defScope (top 34)) [] kws f fd) : Binds K fd ["_law_d", "_law_shuts"] [] := F.bindsN fun _ _ _ _ _ _ us hl => match us, hl with | [_, _], _ => rfl
theorem b_law_sides (x : Fx K mg E) : Binds K E.d_law_sides ["_law_d", "_law_shuts"] [] := bb_law_sides x.F_law_sides
theorem bb_law_mixed {fd : FuncData} {kws : List (Str × V)} {f : Addr} (F : FunD K "_law_mixed" "_law_mixed" (defArgs (top 32)) (defBody (top 32)) (defScope (top 32)) [] kws f fd) : Binds K fd ["_law_d", "_law_some"] [] := F.bindsN fun _ _ _ _ _ _ us hl => match us, hl with | [_, _], _ => rfl
theorem b_law_mixed (x : Fx K mg E) : Binds K E.d_law_mixed ["_law_d", "_law_some"] [] := bb_law_mixed x.F_law_mixed
theorem bb_is_built {fd : FuncData} {kws : List (Str × V)} {f : Addr} (F : FunD K "is_built" "is_built" (defArgs (top 17)) (defBody (top 17)) (defScope (top 17)) [] kws f fd) : Binds K fd ["tree"] [] := F.bindsN fun _ _ _ _ _ _ us hl => match us, hl with | [_], _ => rfl
theorem b_is_built (x : Fx K mg E) : Binds K E.d_is_built ["tree"] [] := bb_is_built x.F_is_built
theorem bb_many_steps {fd : FuncData} {kws : List (Str × V)} {f : Addr} (F : FunD K "many_steps" "many_steps" (defArgs (top 18)) (defBody (top 18)) (defScope (top 18)) [] kws f fd) : Binds K fd ["tree"] [] := F.bindsN fun _ _ _ _ _ _ us hl => match us, hl with | [_], _ => rfl
theorem b_many_steps (x : Fx K mg E) : Binds K E.d_many_steps ["tree"] [] := bb_many_steps x.F_many_steps
theorem bb_deep_of {fd : FuncData} {kws : List (Str × V)} {f : Addr} (F : FunD K "deep_of" "deep_of" (defArgs (top 19)) (defBody (top 19)) (defScope (top 19)) [] kws f fd) : Binds K fd ["tree"] [] := F.bindsN fun _ _ _ _ _ _ us hl => match us, hl with | [_], _ => rfl
theorem b_deep_of (x : Fx K mg E) : Binds K E.d_deep_of ["tree"] [] := bb_deep_of x.F_deep_of
theorem bb_look_row {fd : FuncData} {kws : List (Str × V)} {f : Addr} (F : FunD K "look_row" "look_row" (defArgs (top 21)) (defBody (top 21)) (defScope (top 21)) [] kws f fd) : Binds K fd ["tree"] [] := F.bindsN fun _ _ _ _ _ _ us hl => match us, hl with | [_], _ => rfl
theorem b_look_row (x : Fx K mg E) : Binds K E.d_look_row ["tree"] [] := bb_look_row x.F_look_row
theorem bb_told_text {fd : FuncData} {kws : List (Str × V)} {f : Addr} (F : FunD K "told_text" "told_text" (defArgs (top 23)) (defBody (top 23)) (defScope (top 23)) [] kws f fd) : Binds K fd ["tree"] [] := F.bindsN fun _ _ _ _ _ _ us hl => match us, hl with | [_], _ => rfl
theorem b_told_text (x : Fx K mg E) : Binds K E.d_told_text ["tree"] [] := bb_told_text x.F_told_text
theorem bb_Reader_init {fd : FuncData} {kws : List (Str × V)} {f : Addr} (F : FunD K "__init__" "Reader.__init__" (defArgs (clsDef (top 25) 0)) (defBody (clsDef (top 25) 0)) (defScope (clsDef (top 25) 0)) [] kws f fd) : Binds K fd ["self", "signs"] [] := F.bindsN fun _ _ _ _ _ _ us hl => match us, hl with | [_, _], _ => rfl
theorem b_Reader_init (x : Fx K mg E) : Binds K E.d_Reader_init ["self", "signs"] [] := bb_Reader_init x.F_Reader_init
theorem bb_Reader_row {fd : FuncData} {kws : List (Str × V)} {f : Addr} (F : FunD K "row" "Reader.row" (defArgs (clsDef (top 25) 7)) (defBody (clsDef (top 25) 7)) (defScope (clsDef (top 25) 7)) [] kws f fd) : Binds K fd ["self", "deep"] [] := F.bindsN fun _ _ _ _ _ _ us hl => match us, hl with | [_, _], _ => rfl
theorem b_Reader_row (x : Fx K mg E) : Binds K E.d_Reader_row ["self", "deep"] [] := bb_Reader_row x.F_Reader_row
theorem bb_Reader_here {fd : FuncData} {kws : List (Str × V)} {f : Addr} (F : FunD K "here" "Reader.here" (defArgs (clsDef (top 25) 1)) (defBody (clsDef (top 25) 1)) (defScope (clsDef (top 25) 1)) [] kws f fd) : Binds K fd ["self"] [] := F.bindsN fun _ _ _ _ _ _ us hl => match us, hl with | [_], _ => rfl
theorem b_Reader_here (x : Fx K mg E) : Binds K E.d_Reader_here ["self"] [] := bb_Reader_here x.F_Reader_here
theorem bb_Reader_need {fd : FuncData} {kws : List (Str × V)} {f : Addr} (F : FunD K "need" "Reader.need" (defArgs (clsDef (top 25) 2)) (defBody (clsDef (top 25) 2)) (defScope (clsDef (top 25) 2)) [] kws f fd) : Binds K fd ["self", "good"] [] := F.bindsN fun _ _ _ _ _ _ us hl => match us, hl with | [_, _], _ => rfl
theorem b_Reader_need (x : Fx K mg E) : Binds K E.d_Reader_need ["self", "good"] [] := bb_Reader_need x.F_Reader_need
theorem bb_is_step {fd : FuncData} {kws : List (Str × V)} {f : Addr} (F : FunD K "is_step" "is_step" (defArgs (top 16)) (defBody (top 16)) (defScope (top 16)) [] kws f fd) : Binds K fd ["tree"] [] := F.bindsN fun _ _ _ _ _ _ us hl => match us, hl with | [_], _ => rfl
theorem b_is_step (x : Fx K mg E) : Binds K E.d_is_step ["tree"] [] := bb_is_step x.F_is_step
theorem bb_step_text {fd : FuncData} {kws : List (Str × V)} {f : Addr} (F : FunD K "step_text" "step_text" (defArgs (top 22)) (defBody (top 22)) (defScope (top 22)) [] kws f fd) : Binds K fd ["step"] [] := F.bindsN fun _ _ _ _ _ _ us hl => match us, hl with | [_], _ => rfl
theorem b_step_text (x : Fx K mg E) : Binds K E.d_step_text ["step"] [] := bb_step_text x.F_step_text
theorem bb_Reader_step {fd : FuncData} {kws : List (Str × V)} {f : Addr} (F : FunD K "step" "Reader.step" (defArgs (clsDef (top 25) 6)) (defBody (clsDef (top 25) 6)) (defScope (clsDef (top 25) 6)) [] kws f fd) : Binds K fd ["self", "deep"] [] := F.bindsN fun _ _ _ _ _ _ us hl => match us, hl with | [_, _], _ => rfl
theorem b_Reader_step (x : Fx K mg E) : Binds K E.d_Reader_step ["self", "deep"] [] := bb_Reader_step x.F_Reader_step
theorem bb_are_letters {fd : FuncData} {kws : List (Str × V)} {f : Addr} (F : FunD K "are_letters" "are_letters" (defArgs (top 14)) (defBody (top 14)) (defScope (top 14)) [] kws f fd) : Binds K fd ["text", "least"] [] := F.bindsN fun _ _ _ _ _ _ us hl => match us, hl with | [_, _], _ => rfl
theorem b_are_letters (x : Fx K mg E) : Binds K E.d_are_letters ["text", "least"] [] := bb_are_letters x.F_are_letters
theorem bb_is_name {fd : FuncData} {kws : List (Str × V)} {f : Addr} (F : FunD K "is_name" "is_name" (defArgs (top 13)) (defBody (top 13)) (defScope (top 13)) [] kws f fd) : Binds K fd ["name"] [] := F.bindsN fun _ _ _ _ _ _ us hl => match us, hl with | [_], _ => rfl
theorem b_is_name (x : Fx K mg E) : Binds K E.d_is_name ["name"] [] := bb_is_name x.F_is_name
theorem bb_is_times {fd : FuncData} {kws : List (Str × V)} {f : Addr} (F : FunD K "is_times" "is_times" (defArgs (top 15)) (defBody (top 15)) (defScope (top 15)) [] kws f fd) : Binds K fd ["many"] [] := F.bindsN fun _ _ _ _ _ _ us hl => match us, hl with | [_], _ => rfl
theorem b_is_times (x : Fx K mg E) : Binds K E.d_is_times ["many"] [] := bb_is_times x.F_is_times
theorem bb_Reader_pass_by {fd : FuncData} {kws : List (Str × V)} {f : Addr} (F : FunD K "pass_by" "Reader.pass_by" (defArgs (clsDef (top 25) 3)) (defBody (clsDef (top 25) 3)) (defScope (clsDef (top 25) 3)) [] kws f fd) : Binds K fd ["self", "sign"] [] := F.bindsN fun _ _ _ _ _ _ us hl => match us, hl with | [_, _], _ => rfl
theorem b_Reader_pass_by (x : Fx K mg E) : Binds K E.d_Reader_pass_by ["self", "sign"] [] := bb_Reader_pass_by x.F_Reader_pass_by
theorem bb_Reader_number {fd : FuncData} {kws : List (Str × V)} {f : Addr} (F : FunD K "number" "Reader.number" (defArgs (clsDef (top 25) 5)) (defBody (clsDef (top 25) 5)) (defScope (clsDef (top 25) 5)) [] kws f fd) : Binds K fd ["self"] [] := F.bindsN fun _ _ _ _ _ _ us hl => match us, hl with | [_], _ => rfl
theorem b_Reader_number (x : Fx K mg E) : Binds K E.d_Reader_number ["self"] [] := bb_Reader_number x.F_Reader_number
theorem bb_HallError_init {fd : FuncData} {kws : List (Str × V)} {f : Addr} (F : FunD K "__init__" "HallError.__init__" (defArgs (clsDef (top 1) 0)) (defBody (clsDef (top 1) 0)) (defScope (clsDef (top 1) 0)) [] kws f fd) : Binds K fd ["self", "word"] [] := F.bindsN fun _ _ _ _ _ _ us hl => match us, hl with | [_, _], _ => rfl
theorem b_HallError_init (x : Fx K mg E) : Binds K E.d_HallError_init ["self", "word"] [] := bb_HallError_init x.F_HallError_init
theorem bb_BadText_init {fd : FuncData} {kws : List (Str × V)} {f : Addr} (F : FunD K "__init__" "BadText.__init__" (defArgs (clsDef (top 2) 0)) (defBody (clsDef (top 2) 0)) (defScope (clsDef (top 2) 0)) [] kws f fd) : Binds K fd ["self", "at"] [] := F.bindsN fun _ _ _ _ _ _ us hl => match us, hl with | [_, _], _ => rfl
theorem b_BadText_init (x : Fx K mg E) : Binds K E.d_BadText_init ["self", "at"] [] := bb_BadText_init x.F_BadText_init
theorem bb_BadTree_init {fd : FuncData} {kws : List (Str × V)} {f : Addr} (F : FunD K "__init__" "BadTree.__init__" (defArgs (clsDef (top 3) 0)) (defBody (clsDef (top 3) 0)) (defScope (clsDef (top 3) 0)) [] kws f fd) : Binds K fd ["self"] [] := F.bindsN fun _ _ _ _ _ _ us hl => match us, hl with | [_], _ => rfl
theorem b_BadTree_init (x : Fx K mg E) : Binds K E.d_BadTree_init ["self"] [] := bb_BadTree_init x.F_BadTree_init
theorem kbx_Reader_run_0 (x : Fx K mg E) : ∃ mv : List Value, KBn K E.d_Reader_run ["self", "some", "least", "most"] 2 [] (fun us ws => (fun {α : Type} (vs ms ws : List α) => vs ++ ws ++ ms) us mv ws) (fun vs zs => (fun {α : Type} (vs ms ws : List α) => vs ++ ws ++ ms) vs [V.int 0, V.int 12] zs) :=
  kbindsK x.F_Reader_run 2 [] [("least", V.int 0), ("most", V.int 12)] (fun {α : Type} (vs ms ws : List α) => vs ++ ws ++ ms) (by simp) (by simp) (fun a b c => (a.append c).append b) fun D doc pm an cdv ct us mv ws l1 l2 l3 => match us, mv, ws, l1, l2, l3 with
    | [_, _], [_, _], [], _, _, _ => ⟨_, _, _, _, _, _, rfl, rfl, ⟨_, _, _, _, _, _, rfl, rfl, rfl⟩⟩
theorem gr_Reader_run_0 : GRel gD_Reader_run_0 (fun vs zs => vs ++ zs ++ [V.int 0, V.int 12]) := gr_end (dD := [.int 0, .int 12]) (dV := [V.int 0, V.int 12]) fun _ _ => (Reps.cons rfl (Reps.cons rfl Reps.nil))
theorem kbx_Reader_run_least (x : Fx K mg E) : ∃ mv : List Value, KBn K E.d_Reader_run ["self", "some", "least", "most"] 2 ["least"] (fun us ws => (fun {α : Type} (vs ms ws : List α) => vs ++ ws ++ ms) us mv ws) (fun vs zs => (fun {α : Type} (vs ms ws : List α) => vs ++ ws ++ ms) vs [V.int 12] zs) :=
  kbindsK x.F_Reader_run 2 ["least"] [("most", V.int 12)] (fun {α : Type} (vs ms ws : List α) => vs ++ ws ++ ms) (by simp) (by simp) (fun a b c => (a.append c).append b) fun D doc pm an cdv ct us mv ws l1 l2 l3 => match us, mv, ws, l1, l2, l3 with
    | [_, _], [_], [_], _, _, _ => ⟨_, _, _, _, _, _, rfl, rfl, rfl⟩
theorem gr_Reader_run_least : GRel gD_Reader_run_least (fun vs zs => vs ++ zs ++ [V.int 12]) := gr_end (dD := [.int 12]) (dV := [V.int 12]) fun _ _ => (Reps.cons rfl Reps.nil)
theorem kbx_Reader_run_least_most (x : Fx K mg E) : ∃ mv : List Value, KBn K E.d_Reader_run ["self", "some", "least", "most"] 2 ["least", "most"] (fun us ws => (fun {α : Type} (vs ms ws : List α) => vs ++ ws ++ ms) us mv ws) (fun vs zs => (fun {α : Type} (vs ms ws : List α) => vs ++ ws ++ ms) vs [] zs) :=
  kbindsK x.F_Reader_run 2 ["least", "most"] [] (fun {α : Type} (vs ms ws : List α) => vs ++ ws ++ ms) (by simp) (by simp) (fun a b c => (a.append c).append b) fun D doc pm an cdv ct us mv ws l1 l2 l3 => match us, mv, ws, l1, l2, l3 with
    | [_, _], [], [_, _], _, _, _ => rfl
theorem gr_Reader_run_least_most : GRel gD_Reader_run_least_most (fun vs zs => vs ++ zs ++ []) := gr_end (dD := []) (dV := []) fun _ _ => Reps.nil
abbrev gv_HallError : List V → List V := fun ws => ws
theorem grx_HallError : GRX gx_HallError gv_HallError := ⟨fun r => r⟩
theorem i_HallError_init (x : Fx K mg E) (hk : 1 ≤ k) : FnOk P w K mg base (L2.CX P w) k (He.fAd K ("HallError", some "__init__")) E.d_HallError_init ["self", "word"] (spI K 1 ["word"] gv_HallError) := by
  obtain ⟨k, rfl⟩ : ∃ j, k = j + 1 := ⟨k - 1, by omega⟩
  exact init_of x.F_HallError_init sc_HallError_init rfl (fun cdv A outer s H E hr => pss_cons (ps_expr (pe_veinit (by rfl) x.n_ValueError x.v_VE (pa_cons (pe_var (i := 0) rfl (Or.inl rfl)) (pa_cons (pe_var (i := 1) rfl (Or.inl rfl)) pa_nil)))) (pss_one (ps_ost (pe_var (i := 0) rfl (Or.inl rfl)) (pe_var (i := 1) rfl (Or.inl rfl))))) (fun vs H Q E h => shapeR h)
abbrev gv_BadText : List V → List V := fun ws => ws ++ gv_HallError [V.str "badtext"]
theorem grx_BadText : GRX gx_BadText gv_BadText := ⟨fun r => r.append (grx_HallError.rel (Reps.one (show V.str "badtext" = V.str ⟨[98, 97, 100, 116, 101, 120, 116].toArray⟩ from congrArg V.str (by decide +kernel))))⟩
theorem i_BadText_init (x : Fx K mg E) (hk : 2 ≤ k) : FnOk P w K mg base (L2.CX P w) k (He.fAd K ("BadText", some "__init__")) E.d_BadText_init ["self", "at"] (spI K 1 ["at", "word"] gv_BadText) := by
  obtain ⟨k, rfl⟩ : ∃ j, k = j + 1 := ⟨k - 1, by omega⟩
  exact init_of x.F_BadText_init sc_BadText_init rfl (fun cdv A outer s H E hr => pss_cons (ps_expr (pe_clsfn (i_HallError_init x (by omega)) hr x.g_HallError x.r_HallError.1 x.r_HallError.2 x.F_HallError_init.kp (b_HallError_init x) passNo (pa_cons (pe_var (i := 0) rfl (Or.inl rfl)) (pa_cons pe_str pa_nil)))) (pss_one (ps_ost (pe_var (i := 0) rfl (Or.inl rfl)) (pe_var (i := 1) rfl (Or.inl rfl))))) (fun vs H Q E h => shape1 h (by decide))
abbrev gv_BadTree : List V → List V := fun _ => gv_HallError [V.str "badtree"]
theorem grx_BadTree : GRX gx_BadTree gv_BadTree := ⟨fun r => grx_HallError.rel (Reps.one (show V.str "badtree" = V.str ⟨[98, 97, 100, 116, 114, 101, 101].toArray⟩ from congrArg V.str (by decide +kernel)))⟩
theorem i_BadTree_init (x : Fx K mg E) (hk : 2 ≤ k) : FnOk P w K mg base (L2.CX P w) k (He.fAd K ("BadTree", some "__init__")) E.d_BadTree_init ["self"] (spI K 0 ["word"] gv_BadTree) := by
  obtain ⟨k, rfl⟩ : ∃ j, k = j + 1 := ⟨k - 1, by omega⟩
  exact init_of x.F_BadTree_init sc_BadTree_init rfl (fun cdv A outer s H E hr => pss_one (ps_expr (pe_clsfn (i_HallError_init x (by omega)) hr x.g_HallError x.r_HallError.1 x.r_HallError.2 x.F_HallError_init.kp (b_HallError_init x) passNo (pa_cons (pe_var (i := 0) rfl (Or.inl rfl)) (pa_cons pe_str pa_nil))))) (fun vs H Q E h => shape0 h)
theorem d_law {φlaw_of : Fn} {φlaw_tree : Fn} {φlaw_draw : Fn} {φlaw_number : Fn} {φlaw_text : Fn} {φis_row : Fn} {φrow_text : Fn} {φlaw_same : Fn} {φread_row : Fn} (x : Fx K mg E) (hk : 3 ≤ k) (GS : FnOk P w K mg base (L2.CX P w) (k + 1) (He.fAd K ("_law_start", none)) E.d_law_start ["_law_script"] (spStart K)) (Glaw_of : FnD P w K mg base (k + 1) (He.fAd K ("_law_of", none)) E.d_law_of ["_law_d", "_law_some"] φlaw_of) (Glaw_tree : FnD P w K mg base (k + 1) (He.fAd K ("_law_tree", none)) E.d_law_tree ["_law_d", "_law_left", "_law_deep"] φlaw_tree) (Glaw_draw : FnD P w K mg base (k + 1) (He.fAd K ("_law_draw", none)) E.d_law_draw ["_law_d", "_law_many"] φlaw_draw) (Glaw_number : FnD P w K mg base (k + 1) (He.fAd K ("_law_number", none)) E.d_law_number ["_law_d"] φlaw_number) (Glaw_text : FnD P w K mg base (k + 1) (He.fAd K ("_law_text", none)) E.d_law_text ["_law_tree_here"] φlaw_text) (Gis_row : FnD P w K mg base (k + 1) (He.fAd K ("is_row", none)) E.d_is_row ["tree"] φis_row) (Grow_text : FnD P w K mg base (k + 1) (He.fAd K ("row_text", none)) E.d_row_text ["tree"] φrow_text) (Glaw_same : FnD P w K mg base (k + 1) (He.fAd K ("_law_same", none)) E.d_law_same ["_law_x", "_law_due"] φlaw_same) (Gread_row : FnD P w K mg base (k + 1) (He.fAd K ("read_row", none)) E.d_read_row ["text"] φread_row) : FnOk P w K mg base (L2.CX P w) (k + 2) (He.fAd K ("law", none)) E.d_law ["_law_script"] (spLaw K 4 (m_law (adK K) φlaw_of φlaw_tree φlaw_draw φlaw_number φlaw_text φis_row φrow_text φlaw_same φread_row)) := by
  exact law_ok x.F_law sc_law rfl rfl (fun cdv A outer s H E hr => ps_set (i := 1) sc_law.nd rfl (Or.inl rfl) (pe_callS GS hr rfl x.m_law_start x.F_law_start.kp (b_law_start x) passNo (pa_cons (pe_var (i := 0) rfl (Or.inl rfl)) pa_nil))) fun cdv A outer s H E hr =>
    have tk := takes_fn (P := P) (w := w) (K := K) (mg := mg) (base := base) (N := ["_law_script", "_law_d", "_law_turn", "_law_tree_here", "_law_k", "_law_text_here"]) (qual := "law") (scope := defScope (top 39)) (f := He.fAd K ("law", none)) (cd := cdv) (A := A) (outer := outer) (s := s) (H := H) (E := E)
    (pss_dcons (ps_dfor (passes_of rfl) rfl (pi_drange1 x.n_range pd_int) (pg_dname sc_law.nd (i := 2) rfl (Or.inl rfl)) (pss_dcons (ps_dset (i := 3) sc_law.nd rfl (Or.inl rfl) (pd_call Glaw_tree hr x.m_law_tree x.F_law_tree.kp (b_law_tree x) (tk_of tk) (pd_cons (pd_var 1) (pd_cons (pd_call Glaw_of hr x.m_law_of x.F_law_of.kp (b_law_of x) (tk_of tk) (pd_cons (pd_var 1) (pd_cons (pd_lst (pd_cons pd_int (pd_cons pd_int (pd_cons pd_int pd_nil)))) pd_nil))) (pd_cons pd_int pd_nil)))))
  (pss_dcons (ps_dfor (passes_of rfl) rfl (pi_drange1 x.n_range (pd_call Glaw_draw hr x.m_law_draw x.F_law_draw.kp (b_law_draw x) (tk_of tk) (pd_cons (pd_var 1) (pd_cons pd_int pd_nil)))) (pg_dname sc_law.nd (i := 4) rfl (Or.inl rfl)) (pss_done (ps_dset (i := 3) sc_law.nd rfl (Or.inl rfl) (pd_tup (pd_cons (pd_str [115, 116, 101, 112, 115]) (pd_cons (pd_tup (pd_cons (pd_tup (pd_cons (pd_str [116, 105, 109, 101, 115]) (pd_cons (pd_call Glaw_number hr x.m_law_number x.F_law_number.kp (b_law_number x) (tk_of tk) (pd_cons (pd_var 1) pd_nil)) (pd_cons (pd_var 3) pd_nil)))) pd_nil)) pd_nil))))))
  (pss_dcons (ps_dset (i := 5) sc_law.nd rfl (Or.inl rfl) (pd_call Glaw_text hr x.m_law_text x.F_law_text.kp (b_law_text x) (tk_of tk) (pd_cons (pd_var 3) pd_nil)))
  (pss_dcons (ps_dif (pd_notT (pd_truth (pd_call Gis_row hr x.m_is_row x.F_is_row.kp (b_is_row x) (tk_of tk) (pd_cons (pd_var 3) pd_nil)))) (pss_done ps_dcont) pss_dnil)
  (pss_done (ps_dif (pd_bopT (pw_dor (pd_notT (pd_truth (pd_call Glaw_same hr x.m_law_same x.F_law_same.kp (b_law_same x) (tk_of tk) (pd_cons (pd_call Grow_text hr x.m_row_text x.F_row_text.kp (b_row_text x) (tk_of tk) (pd_cons (pd_var 3) pd_nil)) (pd_cons (pd_var 5) pd_nil))))) (pw_dor1 (pd_notT (pd_truth (pd_call Glaw_same hr x.m_law_same x.F_law_same.kp (b_law_same x) (tk_of tk) (pd_cons (pd_call Gread_row hr x.m_read_row x.F_read_row.kp (b_read_row x) (tk_of tk) (pd_cons (pd_var 5) pd_nil)) (pd_cons (pd_var 3) pd_nil)))))))) (pss_done (ps_dret pd_bl)) pss_dnil)))))))
  (pss_done (ps_dret (pd_call Glaw_same hr x.m_law_same x.F_law_same.kp (b_law_same x) (tk_of tk) (pd_cons (pd_lst (pd_cons (pd_call Gread_row hr x.m_read_row x.F_read_row.kp (b_read_row x) (tk_of tk) (pd_cons (pd_str [45]) pd_nil)) (pd_cons (pd_call Grow_text hr x.m_row_text x.F_row_text.kp (b_row_text x) (tk_of tk) (pd_cons (pd_tup (pd_cons (pd_str [115, 116, 101, 112, 115]) (pd_cons (pd_tup pd_nil) pd_nil))) pd_nil)) pd_nil))) (pd_cons (pd_lst (pd_cons (pd_tup (pd_cons (pd_str [115, 116, 101, 112, 115]) (pd_cons (pd_tup pd_nil) pd_nil))) (pd_cons (pd_str [45]) pd_nil))) pd_nil))))))
theorem d_law_of {φlaw_draw : Fn} (x : Fx K mg E) (hk : 3 ≤ k) (Glaw_draw : FnD P w K mg base (k + 1) (He.fAd K ("_law_draw", none)) E.d_law_draw ["_law_d", "_law_many"] φlaw_draw) : FnD P w K mg base (k + 2) (He.fAd K ("_law_of", none)) E.d_law_of ["_law_d", "_law_some"] (defM 2 (m_law_of (adK K) φlaw_draw)) := by
  exact FnD.mk x.F_law_of sc_law_of fun cdv A outer s H E hr =>
    have tk := takes_fn (P := P) (w := w) (K := K) (mg := mg) (base := base) (N := ["_law_d", "_law_some"]) (qual := "_law_of") (scope := defScope (top 31)) (f := He.fAd K ("_law_of", none)) (cd := cdv) (A := A) (outer := outer) (s := s) (H := H) (E := E)
    (pss_done (ps_dret (pd_ix hr.units (pd_var 1) (pd_call Glaw_draw hr x.m_law_draw x.F_law_draw.kp (b_law_draw x) (tk_of tk) (pd_cons (pd_var 0) (pd_cons (pd_callB call_lenA snd_len x.n_len (pd_cons (pd_var 1) pd_nil)) pd_nil))))))
theorem d_law_tree {φlaw_of : Fn} {φlaw_draw : Fn} {φlaw_tree : Fn} {φlaw_number : Fn} {φlaw_name : Fn} {φlaw_letters : Fn} {φlaw_sides : Fn} {φlaw_mixed : Fn} (x : Fx K mg E) (hk : 3 ≤ k) (Glaw_of : FnD P w K mg base (k + 1) (He.fAd K ("_law_of", none)) E.d_law_of ["_law_d", "_law_some"] φlaw_of) (Glaw_draw : FnD P w K mg base (k + 1) (He.fAd K ("_law_draw", none)) E.d_law_draw ["_law_d", "_law_many"] φlaw_draw) (Glaw_tree : FnD P w K mg base (k + 1) (He.fAd K ("_law_tree", none)) E.d_law_tree ["_law_d", "_law_left", "_law_deep"] φlaw_tree) (Glaw_number : FnD P w K mg base (k + 1) (He.fAd K ("_law_number", none)) E.d_law_number ["_law_d"] φlaw_number) (Glaw_name : FnD P w K mg base (k + 1) (He.fAd K ("_law_name", none)) E.d_law_name ["_law_d"] φlaw_name) (Glaw_letters : FnD P w K mg base (k + 1) (He.fAd K ("_law_letters", none)) E.d_law_letters [] φlaw_letters) (Glaw_sides : FnD P w K mg base (k + 1) (He.fAd K ("_law_sides", none)) E.d_law_sides ["_law_d", "_law_shuts"] φlaw_sides) (Glaw_mixed : FnD P w K mg base (k + 1) (He.fAd K ("_law_mixed", none)) E.d_law_mixed ["_law_d", "_law_some"] φlaw_mixed) : FnD P w K mg base (k + 2) (He.fAd K ("_law_tree", none)) E.d_law_tree ["_law_d", "_law_left", "_law_deep"] (defM 7 (m_law_tree (adK K) φlaw_of φlaw_draw φlaw_tree φlaw_number φlaw_name φlaw_letters φlaw_sides φlaw_mixed)) := by
  exact FnD.mk x.F_law_tree sc_law_tree fun cdv A outer s H E hr =>
    have tk := takes_fn (P := P) (w := w) (K := K) (mg := mg) (base := base) (N := ["_law_d", "_law_left", "_law_deep", "_law_steps", "_law_k", "_law_how", "_law_text_here"]) (qual := "_law_tree") (scope := defScope (top 37)) (f := He.fAd K ("_law_tree", none)) (cd := cdv) (A := A) (outer := outer) (s := s) (H := H) (E := E)
    (pss_dcons (ps_dset (i := 3) sc_law_tree.nd rfl (Or.inl rfl) (pd_lstL pd_nil))
  (pss_dcons (ps_dfor (passes_of rfl) rfl (pi_drange1 x.n_range (pd_call Glaw_of hr x.m_law_of x.F_law_of.kp (b_law_of x) (tk_of tk) (pd_cons (pd_var 0) (pd_cons (pd_lst (pd_cons pd_int (pd_cons pd_int (pd_cons pd_int (pd_cons pd_int (pd_cons (pd_var 1) pd_nil)))))) pd_nil)))) (pg_dname sc_law_tree.nd (i := 4) rfl (Or.inl rfl)) (pss_dcons (ps_dset (i := 5) sc_law_tree.nd rfl (Or.inl rfl) (pd_call Glaw_draw hr x.m_law_draw x.F_law_draw.kp (b_law_draw x) (tk_of tk) (pd_cons (pd_var 0) (pd_cons pd_int pd_nil))))
  (pss_done (ps_dif (pd_bopT (pw_dand (pd_cmpT (op_eqA hr.units) snd_eq (pd_var 5) pd_int) (pw_dand1 (pd_cmpT op_gtA snd_gt (pd_var 2) pd_int)))) (pss_done (ps_dexpr (pd_lm PySem.F.slot_list_append PySem.F.type_list_append mt_append snd_append (pd_var 3) (pd_cons (pd_tup (pd_cons (pd_str [116, 105, 109, 101, 115]) (pd_cons (pd_call Glaw_number hr x.m_law_number x.F_law_number.kp (b_law_number x) (tk_of tk) (pd_cons (pd_var 0) pd_nil)) (pd_cons (pd_call Glaw_tree hr x.m_law_tree x.F_law_tree.kp (b_law_tree x) (tk_of tk) (pd_cons (pd_var 0) (pd_cons (pd_op op_fdivW snd_fdiv (pd_var 1) pd_int) (pd_cons (pd_op op_sub snd_sub (pd_var 2) pd_int) pd_nil)))) pd_nil)))) pd_nil)))) (pss_done (ps_dif (pd_cmpT (op_eqA hr.units) snd_eq (pd_var 5) pd_int) (pss_done (ps_dexpr (pd_lm PySem.F.slot_list_append PySem.F.type_list_append mt_append snd_append (pd_var 3) (pd_cons (pd_tup (pd_cons (pd_str [114, 111, 119]) (pd_cons (pd_call Glaw_name hr x.m_law_name x.F_law_name.kp (b_law_name x) (tk_of tk) (pd_cons (pd_var 0) pd_nil)) pd_nil))) pd_nil)))) (pss_dcons (ps_dset (i := 6) sc_law_tree.nd rfl (Or.inl rfl) (pd_call Glaw_mixed hr x.m_law_mixed x.F_law_mixed.kp (b_law_mixed x) (tk_of tk) (pd_cons (pd_var 0) (pd_cons (pd_call Glaw_sides hr x.m_law_sides x.F_law_sides.kp (b_law_sides x) (tk_of tk) (pd_cons (pd_var 0) (pd_cons (pd_sl (pd_call0 Glaw_letters hr x.m_law_letters x.F_law_letters.kp (b_law_letters x) (tk_of tk)) po_dno (po_dso (pd_call Glaw_draw hr x.m_law_draw x.F_law_draw.kp (b_law_draw x) (tk_of tk) (pd_cons (pd_var 0) (pd_cons pd_int pd_nil))))) pd_nil))) pd_nil))))
  (pss_dcons (ps_dset (i := 6) sc_law_tree.nd rfl (Or.inl rfl) (pd_strm PySem.F.slot_str_join PySem.F.type_str_join mt_join snd_join (pd_str []) (pd_cons (pd_var 6) pd_nil)))
  (pss_done (ps_dexpr (pd_lm PySem.F.slot_list_append PySem.F.type_list_append mt_append snd_append (pd_var 3) (pd_cons (pd_ifExp (pd_bopT (pw_dor (pd_cmpT op_ltA snd_lt (pd_var 5) pd_int) (pw_dor1 (pd_cmpT (op_eqA hr.units) snd_eq (pd_var 6) (pd_str []))))) (pd_tup (pd_cons (pd_str [99, 97, 108, 108]) (pd_cons (pd_var 6) pd_nil))) (pd_tup (pd_cons (pd_str [116, 117, 114, 110]) (pd_cons (pd_var 6) pd_nil)))) pd_nil))))))))))))
  (pss_done (ps_dret (pd_tup (pd_cons (pd_str [115, 116, 101, 112, 115]) (pd_cons (pd_callTy call_tuple_of snd_tuple x.n_tuple (pd_cons (pd_var 3) pd_nil)) pd_nil)))))))
theorem d_law_draw  (x : Fx K mg E) (hk : 3 ≤ k) : FnD P w K mg base (k + 2) (He.fAd K ("_law_draw", none)) E.d_law_draw ["_law_d", "_law_many"] (defM 5 (m_law_draw (adK K) )) := by
  exact FnD.mk x.F_law_draw sc_law_draw fun cdv A outer s H E hr =>
    have tk := takes_fn (P := P) (w := w) (K := K) (mg := mg) (base := base) (N := ["_law_d", "_law_many", "_law_cell", "_law_digit", "_law_mix"]) (qual := "_law_draw") (scope := defScope (top 30)) (f := He.fAd K ("_law_draw", none)) (cd := cdv) (A := A) (outer := outer) (s := s) (H := H) (E := E)
    (pss_dcons (ps_dif (pd_bopT (pw_dand (pd_cmpT op_ltA snd_lt (pd_ix hr.units (pd_var 0) pd_int) (pd_var 1)) (pw_dand1 (pd_cmpT op_ltA snd_lt (pd_ix hr.units (pd_var 0) pd_int) (pd_callB call_lenA snd_len x.n_len (pd_cons (pd_ix hr.units (pd_var 0) pd_int) pd_nil)))))) (pss_dcons (ps_dset (i := 2) sc_law_draw.nd rfl (Or.inl rfl) (pd_ix hr.units (pd_ix hr.units (pd_var 0) pd_int) (pd_ix hr.units (pd_var 0) pd_int)))
  (pss_dcons (ps_dseti (pd_var 0) pd_int (pd_op op_addA snd_add (pd_ix hr.units (pd_var 0) pd_int) pd_int))
  (pss_dcons (ps_dseti (pd_var 0) pd_int (pd_ifExp (pd_cmpT op_geA snd_ge (pd_var 2) (pd_op op_pow snd_pow pd_int pd_int)) (pd_var 2) pd_int))
  (pss_done (ps_dseti (pd_var 0) pd_int (pd_op op_mod snd_mod (pd_op op_addA snd_add (pd_op op_addA snd_add (pd_op op_mulA snd_mul (pd_ix hr.units (pd_var 0) pd_int) pd_int) (pd_op op_mod snd_mod (pd_var 2) pd_int)) pd_int) pd_int)))))) pss_dnil)
  (pss_dcons (ps_dif (pd_cmpT op_geA snd_ge (pd_ix hr.units (pd_var 0) pd_int) (pd_var 1)) (pss_dcons (ps_dset (i := 3) sc_law_draw.nd rfl (Or.inl rfl) (pd_op op_mod snd_mod (pd_ix hr.units (pd_var 0) pd_int) (pd_var 1)))
  (pss_dcons (ps_dseti (pd_var 0) pd_int (pd_op op_fdivW snd_fdiv (pd_ix hr.units (pd_var 0) pd_int) (pd_var 1)))
  (pss_done (ps_dret (pd_var 3))))) pss_dnil)
  (pss_dcons (ps_dseti (pd_var 0) pd_int (pd_op op_addA snd_add (pd_ix hr.units (pd_var 0) pd_int) pd_int))
  (pss_dcons (ps_dset (i := 4) sc_law_draw.nd rfl (Or.inl rfl) (pd_op op_addA snd_add (pd_op op_addA snd_add (pd_op op_mulA snd_mul (pd_ix hr.units (pd_var 0) pd_int) pd_int) (pd_op op_mulA snd_mul (pd_ix hr.units (pd_var 0) pd_int) pd_int)) pd_int))
  (pss_dcons (ps_dset (i := 4) sc_law_draw.nd rfl (Or.inl rfl) (pd_op op_addA snd_add (pd_op op_mulA snd_mul (pd_var 4) (pd_op op_addA snd_add (pd_op op_mod snd_mod (pd_var 4) pd_int) pd_int)) (pd_op op_mulA snd_mul (pd_ix hr.units (pd_var 0) pd_int) pd_int)))
  (pss_dcons (ps_dseti (pd_var 0) pd_int (pd_op op_mod snd_mod (pd_var 4) pd_int))
  (pss_done (ps_dret (pd_op op_mod snd_mod (pd_op op_addA snd_add (pd_op op_fdivW snd_fdiv (pd_ix hr.units (pd_var 0) pd_int) pd_int) (pd_op op_mulA snd_mul (pd_op op_mod snd_mod (pd_ix hr.units (pd_var 0) pd_int) pd_int) pd_int)) (pd_var 1))))))))))
theorem d_law_number {φlaw_draw : Fn} {φlaw_of : Fn} (x : Fx K mg E) (hk : 3 ≤ k) (Glaw_draw : FnD P w K mg base (k + 1) (He.fAd K ("_law_draw", none)) E.d_law_draw ["_law_d", "_law_many"] φlaw_draw) (Glaw_of : FnD P w K mg base (k + 1) (He.fAd K ("_law_of", none)) E.d_law_of ["_law_d", "_law_some"] φlaw_of) : FnD P w K mg base (k + 2) (He.fAd K ("_law_number", none)) E.d_law_number ["_law_d"] (defM 1 (m_law_number (adK K) φlaw_draw φlaw_of)) := by
  exact FnD.mk x.F_law_number sc_law_number fun cdv A outer s H E hr =>
    have tk := takes_fn (P := P) (w := w) (K := K) (mg := mg) (base := base) (N := ["_law_d"]) (qual := "_law_number") (scope := defScope (top 35)) (f := He.fAd K ("_law_number", none)) (cd := cdv) (A := A) (outer := outer) (s := s) (H := H) (E := E)
    (pss_done (ps_dret (pd_call Glaw_of hr x.m_law_of x.F_law_of.kp (b_law_of x) (tk_of tk) (pd_cons (pd_var 0) (pd_cons (pd_lst (pd_cons pd_int (pd_cons pd_int (pd_cons pd_int (pd_cons pd_int (pd_cons (pd_call Glaw_draw hr x.m_law_draw x.F_law_draw.kp (b_law_draw x) (tk_of tk) (pd_cons (pd_var 0) (pd_cons pd_int pd_nil))) (pd_cons (pd_op op_addA snd_add (pd_op op_pow snd_pow pd_int pd_int) (pd_call Glaw_draw hr x.m_law_draw x.F_law_draw.kp (b_law_draw x) (tk_of tk) (pd_cons (pd_var 0) (pd_cons (pd_op op_pow snd_pow pd_int pd_int) pd_nil)))) (pd_cons (pd_op op_sub snd_sub (pd_op op_pow snd_pow pd_int pd_int) (pd_call Glaw_draw hr x.m_law_draw x.F_law_draw.kp (b_law_draw x) (tk_of tk) (pd_cons (pd_var 0) (pd_cons pd_int pd_nil)))) pd_nil)))))))) pd_nil)))))
theorem d_law_text {φlaw_text : Fn} (x : Fx K mg E) (hk : 3 ≤ k) (Glaw_text : FnD P w K mg base (k + 1) (He.fAd K ("_law_text", none)) E.d_law_text ["_law_tree_here"] φlaw_text) : FnD P w K mg base (k + 2) (He.fAd K ("_law_text", none)) E.d_law_text ["_law_tree_here"] (defM 3 (m_law_text (adK K) φlaw_text)) := by
  exact FnD.mk x.F_law_text sc_law_text fun cdv A outer s H E hr =>
    have tk := takes_fn (P := P) (w := w) (K := K) (mg := mg) (base := base) (N := ["_law_tree_here", "_law_words", "_law_step"]) (qual := "_law_text") (scope := defScope (top 38)) (f := He.fAd K ("_law_text", none)) (cd := cdv) (A := A) (outer := outer) (s := s) (H := H) (E := E)
    (pss_dcons (ps_dset (i := 1) sc_law_text.nd rfl (Or.inl rfl) (pd_lstL pd_nil))
  (pss_dcons (ps_dfor (passes_of rfl) rfl (pi_dvals (pd_ix hr.units (pd_var 0) pd_int)) (pg_dname sc_law_text.nd (i := 2) rfl (Or.inl rfl)) (pss_done (ps_dif (pd_cmpT (op_eqA hr.units) snd_eq (pd_ix hr.units (pd_var 2) pd_int) (pd_str [116, 105, 109, 101, 115])) (pss_done (ps_dexpr (pd_lm PySem.F.slot_list_append PySem.F.type_list_append mt_append snd_append (pd_var 1) (pd_cons (pd_op op_addA snd_add (pd_op op_addA snd_add (pd_op op_addA snd_add (pd_str [40]) (pd_call Glaw_text hr x.m_law_text x.F_law_text.kp (b_law_text x) (tk_of tk) (pd_cons (pd_ix hr.units (pd_var 2) pd_int) pd_nil))) (pd_str [41, 42])) (pd_callTy call_str_int snd_str x.n_str (pd_cons (pd_ix hr.units (pd_var 2) pd_int) pd_nil))) pd_nil)))) (pss_done (ps_dif (pd_cmpT (op_eqA hr.units) snd_eq (pd_ix hr.units (pd_var 2) pd_int) (pd_str [114, 111, 119])) (pss_done (ps_dexpr (pd_lm PySem.F.slot_list_append PySem.F.type_list_append mt_append snd_append (pd_var 1) (pd_cons (pd_op op_addA snd_add (pd_op op_addA snd_add (pd_str [60]) (pd_ix hr.units (pd_var 2) pd_int)) (pd_str [62])) pd_nil)))) (pss_done (ps_dexpr (pd_lm PySem.F.slot_list_append PySem.F.type_list_append mt_append snd_append (pd_var 1) (pd_cons (pd_op op_addA snd_add (pd_ix hr.units (pd_lst (pd_cons (pd_str [46]) (pd_cons (pd_str [126]) pd_nil))) (pd_callTy call_intA snd_int x.n_int (pd_cons (pd_cmp (op_eqA hr.units) snd_eq (pd_ix hr.units (pd_var 2) pd_int) (pd_str [116, 117, 114, 110])) pd_nil))) (pd_ix hr.units (pd_var 2) pd_int)) pd_nil)))))))))
  (pss_done (ps_dret (pd_ifExp (pd_cmpT (op_eqA hr.units) snd_eq (pd_var 1) (pd_lst pd_nil)) (pd_str [45]) (pd_strm PySem.F.slot_str_join PySem.F.type_str_join mt_join snd_join (pd_str [32]) (pd_cons (pd_var 1) pd_nil)))))))
theorem d_is_row {φis_built : Fn} {φmany_steps : Fn} {φdeep_of : Fn} (x : Fx K mg E) (hk : 3 ≤ k) (Gis_built : FnD P w K mg base (k + 1) (He.fAd K ("is_built", none)) E.d_is_built ["tree"] φis_built) (Gmany_steps : FnD P w K mg base (k + 1) (He.fAd K ("many_steps", none)) E.d_many_steps ["tree"] φmany_steps) (Gdeep_of : FnD P w K mg base (k + 1) (He.fAd K ("deep_of", none)) E.d_deep_of ["tree"] φdeep_of) : FnD P w K mg base (k + 2) (He.fAd K ("is_row", none)) E.d_is_row ["tree"] (defM 1 (m_is_row (adK K) φis_built φmany_steps φdeep_of)) := by
  exact FnD.mk x.F_is_row sc_is_row fun cdv A outer s H E hr =>
    have tk := takes_fn (P := P) (w := w) (K := K) (mg := mg) (base := base) (N := ["tree"]) (qual := "is_row") (scope := defScope (top 20)) (f := He.fAd K ("is_row", none)) (cd := cdv) (A := A) (outer := outer) (s := s) (H := H) (E := E)
    (pss_done (ps_dret (pd_and (pd_call Gis_built hr x.m_is_built x.F_is_built.kp (b_is_built x) (tk_of tk) (pd_cons (pd_var 0) pd_nil)) (pd_and (pd_cmp op_leA snd_le (pd_call Gmany_steps hr x.m_many_steps x.F_many_steps.kp (b_many_steps x) (tk_of tk) (pd_cons (pd_var 0) pd_nil)) (pd_globI x.i_MOST_STEPS.choose_spec)) (pd_one (pd_cmp op_leA snd_le (pd_call Gdeep_of hr x.m_deep_of x.F_deep_of.kp (b_deep_of x) (tk_of tk) (pd_cons (pd_var 0) pd_nil)) (pd_globI x.i_MOST_DEEP.choose_spec)))))))
theorem d_row_text {φlook_row : Fn} {φtold_text : Fn} (x : Fx K mg E) (hk : 3 ≤ k) (Glook_row : FnD P w K mg base (k + 1) (He.fAd K ("look_row", none)) E.d_look_row ["tree"] φlook_row) (Gtold_text : FnD P w K mg base (k + 1) (He.fAd K ("told_text", none)) E.d_told_text ["tree"] φtold_text) : FnD P w K mg base (k + 2) (He.fAd K ("row_text", none)) E.d_row_text ["tree"] (defM 1 (m_row_text (adK K) φlook_row φtold_text)) := by
  exact FnD.mk x.F_row_text sc_row_text fun cdv A outer s H E hr =>
    have tk := takes_fn (P := P) (w := w) (K := K) (mg := mg) (base := base) (N := ["tree"]) (qual := "row_text") (scope := defScope (top 24)) (f := He.fAd K ("row_text", none)) (cd := cdv) (A := A) (outer := outer) (s := s) (H := H) (E := E)
    (pss_dcons (ps_dexpr (pd_call Glook_row hr x.m_look_row x.F_look_row.kp (b_look_row x) (tk_of tk) (pd_cons (pd_var 0) pd_nil)))
  (pss_done (ps_dret (pd_call Gtold_text hr x.m_told_text x.F_told_text.kp (b_told_text x) (tk_of tk) (pd_cons (pd_var 0) pd_nil)))))
theorem d_law_same {φlaw_same : Fn} (x : Fx K mg E) (hk : 3 ≤ k) (Glaw_same : FnD P w K mg base (k + 1) (He.fAd K ("_law_same", none)) E.d_law_same ["_law_x", "_law_due"] φlaw_same) : FnD P w K mg base (k + 2) (He.fAd K ("_law_same", none)) E.d_law_same ["_law_x", "_law_due"] (defM 3 (m_law_same (adK K) φlaw_same)) := by
  exact FnD.mk x.F_law_same sc_law_same fun cdv A outer s H E hr =>
    have tk := takes_fn (P := P) (w := w) (K := K) (mg := mg) (base := base) (N := ["_law_x", "_law_due", "_law_k"]) (qual := "_law_same") (scope := defScope (top 28)) (f := He.fAd K ("_law_same", none)) (cd := cdv) (A := A) (outer := outer) (s := s) (H := H) (E := E)
    (pss_dcons (ps_dif (pd_truth (pd_callB call_isiA snd_isi x.n_isinstance (pd_cons (pd_var 1) (pd_cons (pd_tup (pd_cons (pd_ty x.n_list) (pd_cons (pd_ty x.n_tuple) pd_nil))) pd_nil)))) (pss_dcons (ps_dif (pd_bopT (pw_dor (pd_cmpT (op_neA hr.units) snd_ne (pd_callB call_isiA snd_isi x.n_isinstance (pd_cons (pd_var 1) (pd_cons (pd_ty x.n_list) pd_nil))) (pd_callB call_isiA snd_isi x.n_isinstance (pd_cons (pd_var 0) (pd_cons (pd_ty x.n_list) pd_nil)))) (pw_dor1 (pd_cmpT (op_neA hr.units) snd_ne (pd_callB call_isiA snd_isi x.n_isinstance (pd_cons (pd_var 1) (pd_cons (pd_ty x.n_tuple) pd_nil))) (pd_callB call_isiA snd_isi x.n_isinstance (pd_cons (pd_var 0) (pd_cons (pd_ty x.n_tuple) pd_nil))))))) (pss_done (ps_dret pd_bl)) pss_dnil)
  (pss_done (ps_dret (pd_and (pd_cmp (op_eqA hr.units) snd_eq (pd_callB call_lenA snd_len x.n_len (pd_cons (pd_var 0) pd_nil)) (pd_callB call_lenA snd_len x.n_len (pd_cons (pd_var 1) pd_nil))) (pd_one (pd_callB (cr_all rfl) snd_all x.n_all (pd_cons (pd_lc [("_law_k", 2)] rfl sc_law_same.nd (pi_drange1 x.n_range (pd_callB call_lenA snd_len x.n_len (pd_cons (pd_var 1) pd_nil))) (blk_of (N := ["_law_x", "_law_due", "_law_k"]) (sc := defScope (top 28)) (by decide +kernel) rfl rfl) (by decide) (fun _ _ _ _ _ => (pg_dname sc_law_same.nd (i := 2) rfl (Or.inl rfl))) (fun _ _ _ _ _ => pts_dnil) (fun _ _ _ _ _ => (pd_call Glaw_same hr x.m_law_same x.F_law_same.kp (b_law_same x) tk_no (pd_cons (pd_ix hr.units (pd_var 0) (pd_var 2)) (pd_cons (pd_ix hr.units (pd_var 1) (pd_var 2)) pd_nil))))) pd_nil))))))) pss_dnil)
  (pss_dcons (ps_dif (pd_bopT (pw_dor (pd_cmpT (op_neA hr.units) snd_ne (pd_callB call_isiA snd_isi x.n_isinstance (pd_cons (pd_var 0) (pd_cons (pd_ty x.n_bool) pd_nil))) (pd_callB call_isiA snd_isi x.n_isinstance (pd_cons (pd_var 1) (pd_cons (pd_ty x.n_bool) pd_nil)))) (pw_dor1 (pd_cmpT (op_neA hr.units) snd_ne (pd_callB call_isiA snd_isi x.n_isinstance (pd_cons (pd_var 0) (pd_cons (pd_ty x.n_str) pd_nil))) (pd_callB call_isiA snd_isi x.n_isinstance (pd_cons (pd_var 1) (pd_cons (pd_ty x.n_str) pd_nil))))))) (pss_done (ps_dret pd_bl)) pss_dnil)
  (pss_done (ps_dret (pd_and (pd_cmp (op_eqA hr.units) snd_eq (pd_cmp op_isA snd_is (pd_var 0) pd_non) (pd_cmp op_isA snd_is (pd_var 1) pd_non)) (pd_one (pd_cmp (op_eqA hr.units) snd_eq (pd_var 0) (pd_var 1))))))))
theorem d_read_row {φReader_init : Fn} {φReader_row : Fn} {φReader_here : Fn} {φReader_need : Fn} (x : Fx K mg E) (hk : 3 ≤ k) (MReader_init : FnD P w K mg base k (He.fAd K ("Reader", some "__init__")) E.d_Reader_init ["self", "signs"] φReader_init) (GReader_row : FnD P w K mg base (k + 1) (He.fAd K ("Reader", some "row")) E.d_Reader_row ["self", "deep"] φReader_row) (GReader_here : FnD P w K mg base (k + 1) (He.fAd K ("Reader", some "here")) E.d_Reader_here ["self"] φReader_here) (GReader_need : FnD P w K mg base (k + 1) (He.fAd K ("Reader", some "need")) E.d_Reader_need ["self", "good"] φReader_need) : FnD P w K mg base (k + 2) (He.fAd K ("read_row", none)) E.d_read_row ["text"] (defM 3 (m_read_row (adK K) φReader_init φReader_row φReader_here φReader_need)) := by
  exact FnD.mk x.F_read_row sc_read_row fun cdv A outer s H E hr =>
    have tk := takes_fn (P := P) (w := w) (K := K) (mg := mg) (base := base) (N := ["text", "reader", "found"]) (qual := "read_row") (scope := defScope (top 26)) (f := He.fAd K ("read_row", none)) (cd := cdv) (A := A) (outer := outer) (s := s) (H := H) (E := E)
    (pss_dcons (ps_dset (i := 1) sc_read_row.nd rfl (Or.inl rfl) (pd_make x.k_Reader MReader_init hr x.g_Reader (b_Reader_init x) (tk_of tk) (pd_cons (pd_var 0) pd_nil)))
  (pss_dcons (ps_dset (i := 2) sc_read_row.nd rfl (Or.inl rfl) (pd_meth x.c_Reader x.h_Reader_row GReader_row hr (b_Reader_row x) (tk_of tk) (pd_var 1) (pd_cons pd_int pd_nil)))
  (pss_dcons (ps_dexpr (pd_meth x.c_Reader x.h_Reader_need GReader_need hr (b_Reader_need x) (tk_of tk) (pd_var 1) (pd_cons (pd_cmp (op_eqA hr.units) snd_eq (pd_meth0 x.c_Reader x.h_Reader_here GReader_here hr (b_Reader_here x) (tk_of tk) (pd_var 1)) (pd_str [])) pd_nil)))
  (pss_done (ps_dret (pd_var 2))))))
theorem d_law_name {φlaw_letters : Fn} {φlaw_draw : Fn} (x : Fx K mg E) (hk : 3 ≤ k) (Glaw_letters : FnD P w K mg base (k + 1) (He.fAd K ("_law_letters", none)) E.d_law_letters [] φlaw_letters) (Glaw_draw : FnD P w K mg base (k + 1) (He.fAd K ("_law_draw", none)) E.d_law_draw ["_law_d", "_law_many"] φlaw_draw) : FnD P w K mg base (k + 2) (He.fAd K ("_law_name", none)) E.d_law_name ["_law_d"] (defM 3 (m_law_name (adK K) φlaw_letters φlaw_draw)) := by
  exact FnD.mk x.F_law_name sc_law_name fun cdv A outer s H E hr =>
    have tk := takes_fn (P := P) (w := w) (K := K) (mg := mg) (base := base) (N := ["_law_d", "_law_stem", "_law_spot"]) (qual := "_law_name") (scope := defScope (top 36)) (f := He.fAd K ("_law_name", none)) (cd := cdv) (A := A) (outer := outer) (s := s) (H := H) (E := E)
    (pss_dcons (ps_dset (i := 1) sc_law_name.nd rfl (Or.inl rfl) (pd_op op_mulA snd_mul (pd_ix hr.units (pd_call0 Glaw_letters hr x.m_law_letters x.F_law_letters.kp (b_law_letters x) (tk_of tk)) (pd_call Glaw_draw hr x.m_law_draw x.F_law_draw.kp (b_law_draw x) (tk_of tk) (pd_cons (pd_var 0) (pd_cons pd_int pd_nil)))) (pd_call Glaw_draw hr x.m_law_draw x.F_law_draw.kp (b_law_draw x) (tk_of tk) (pd_cons (pd_var 0) (pd_cons pd_int pd_nil)))))
  (pss_dcons (ps_dset (i := 2) sc_law_name.nd rfl (Or.inl rfl) (pd_call Glaw_draw hr x.m_law_draw x.F_law_draw.kp (b_law_draw x) (tk_of tk) (pd_cons (pd_var 0) (pd_cons (pd_op op_addA snd_add (pd_callB call_lenA snd_len x.n_len (pd_cons (pd_var 1) pd_nil)) pd_int) pd_nil))))
  (pss_done (ps_dret (pd_op op_addA snd_add (pd_op op_addA snd_add (pd_sl (pd_var 1) po_dno (po_dso (pd_var 2))) (pd_ix hr.units (pd_call0 Glaw_letters hr x.m_law_letters x.F_law_letters.kp (b_law_letters x) (tk_of tk)) (pd_call Glaw_draw hr x.m_law_draw x.F_law_draw.kp (b_law_draw x) (tk_of tk) (pd_cons (pd_var 0) (pd_cons pd_int pd_nil))))) (pd_sl (pd_var 1) (po_dso (pd_var 2)) po_dno))))))
theorem d_law_letters  (x : Fx K mg E) (hk : 3 ≤ k) : FnD P w K mg base (k + 2) (He.fAd K ("_law_letters", none)) E.d_law_letters [] (defM 0 (m_law_letters (adK K) )) := by
  exact FnD.mk x.F_law_letters sc_law_letters fun cdv A outer s H E hr =>
    have tk := takes_fn (P := P) (w := w) (K := K) (mg := mg) (base := base) (N := []) (qual := "_law_letters") (scope := defScope (top 33)) (f := He.fAd K ("_law_letters", none)) (cd := cdv) (A := A) (outer := outer) (s := s) (H := H) (E := E)
    (pss_done (ps_dret (pd_str [97, 98, 99, 100, 101, 102, 103, 104, 105, 106, 107, 108, 109, 110, 111, 112, 113, 114, 115, 116, 117, 118, 119, 120, 121, 122])))
theorem d_law_sides {φlaw_of : Fn} {φlaw_draw : Fn} (x : Fx K mg E) (hk : 3 ≤ k) (Glaw_of : FnD P w K mg base (k + 1) (He.fAd K ("_law_of", none)) E.d_law_of ["_law_d", "_law_some"] φlaw_of) (Glaw_draw : FnD P w K mg base (k + 1) (He.fAd K ("_law_draw", none)) E.d_law_draw ["_law_d", "_law_many"] φlaw_draw) : FnD P w K mg base (k + 2) (He.fAd K ("_law_sides", none)) E.d_law_sides ["_law_d", "_law_shuts"] (defM 6 (m_law_sides (adK K) φlaw_of φlaw_draw)) := by
  exact FnD.mk x.F_law_sides sc_law_sides fun cdv A outer s H E hr =>
    have tk := takes_fn (P := P) (w := w) (K := K) (mg := mg) (base := base) (N := ["_law_d", "_law_shuts", "_law_odds", "_law_found", "_law_shut", "_law_how"]) (qual := "_law_sides") (scope := defScope (top 34)) (f := He.fAd K ("_law_sides", none)) (cd := cdv) (A := A) (outer := outer) (s := s) (H := H) (E := E)
    (pss_dcons (ps_dset (i := 2) sc_law_sides.nd rfl (Or.inl rfl) (pd_call Glaw_of hr x.m_law_of x.F_law_of.kp (b_law_of x) (tk_of tk) (pd_cons (pd_var 0) (pd_cons (pd_lst (pd_cons pd_int (pd_cons pd_int (pd_cons pd_int (pd_cons pd_int pd_nil))))) pd_nil))))
  (pss_dcons (ps_dset (i := 3) sc_law_sides.nd rfl (Or.inl rfl) (pd_str []))
  (pss_dcons (ps_dfor (passes_of rfl) rfl (pi_dvals (pd_var 1)) (pg_dname sc_law_sides.nd (i := 4) rfl (Or.inl rfl)) (pss_dcons (ps_dset (i := 5) sc_law_sides.nd rfl (Or.inl rfl) (pd_call Glaw_draw hr x.m_law_draw x.F_law_draw.kp (b_law_draw x) (tk_of tk) (pd_cons (pd_var 0) (pd_cons (pd_op op_mulA snd_mul pd_int (pd_var 2)) pd_nil))))
  (pss_done (ps_dif (pd_cmpT op_ltA snd_lt (pd_var 5) pd_int) (pss_done (ps_dset (i := 3) sc_law_sides.nd rfl (Or.inl rfl) (pd_op op_addA snd_add (pd_var 3) (pd_ix hr.units (pd_lst (pd_cons (pd_var 4) (pd_cons (pd_strm0 PySem.F.slot_str_upper PySem.F.type_str_upper mt_upper snd_upper (pd_var 4)) pd_nil))) (pd_var 5))))) pss_dnil))))
  (pss_done (ps_dret (pd_var 3))))))
theorem d_law_mixed {φlaw_draw : Fn} (x : Fx K mg E) (hk : 3 ≤ k) (Glaw_draw : FnD P w K mg base (k + 1) (He.fAd K ("_law_draw", none)) E.d_law_draw ["_law_d", "_law_many"] φlaw_draw) : FnD P w K mg base (k + 2) (He.fAd K ("_law_mixed", none)) E.d_law_mixed ["_law_d", "_law_some"] (defM 4 (m_law_mixed (adK K) φlaw_draw)) := by
  exact FnD.mk x.F_law_mixed sc_law_mixed fun cdv A outer s H E hr =>
    have tk := takes_fn (P := P) (w := w) (K := K) (mg := mg) (base := base) (N := ["_law_d", "_law_some", "_law_left", "_law_one"]) (qual := "_law_mixed") (scope := defScope (top 32)) (f := He.fAd K ("_law_mixed", none)) (cd := cdv) (A := A) (outer := outer) (s := s) (H := H) (E := E)
    (pss_dcons (ps_dset (i := 2) sc_law_mixed.nd rfl (Or.inr rfl) (pd_list2L rfl x.n_list (pd_cons (pd_var 1) pd_nil)))
  (pss_done (ps_dret (pd_lc [("_law_one", 3)] rfl sc_law_mixed.nd (pi_dvals (pd_var 1)) (blk_of (N := ["_law_d", "_law_some", "_law_left", "_law_one"]) (sc := defScope (top 32)) (by decide +kernel) rfl rfl) (by decide) (fun _ _ _ _ _ => (pg_dname sc_law_mixed.nd (i := 3) rfl (Or.inl rfl))) (fun _ _ _ _ _ => pts_dnil) (fun _ _ _ _ _ => (pd_lm PySem.F.slot_list_pop PySem.F.type_list_pop mt_popAt snd_popAt (pd_var 2) (pd_cons (pd_call Glaw_draw hr x.m_law_draw x.F_law_draw.kp (b_law_draw x) tk_no (pd_cons (pd_var 0) (pd_cons (pd_callB call_lenA snd_len x.n_len (pd_cons (pd_var 2) pd_nil)) pd_nil))) pd_nil)))))))
theorem d_is_built {φis_step : Fn} (x : Fx K mg E) (hk : 3 ≤ k) (Gis_step : FnD P w K mg base (k + 1) (He.fAd K ("is_step", none)) E.d_is_step ["tree"] φis_step) : FnD P w K mg base (k + 2) (He.fAd K ("is_built", none)) E.d_is_built ["tree"] (defM 2 (m_is_built (adK K) φis_step)) := by
  exact FnD.mk x.F_is_built sc_is_built fun cdv A outer s H E hr =>
    have tk := takes_fn (P := P) (w := w) (K := K) (mg := mg) (base := base) (N := ["tree", "step"]) (qual := "is_built") (scope := defScope (top 17)) (f := He.fAd K ("is_built", none)) (cd := cdv) (A := A) (outer := outer) (s := s) (H := H) (E := E)
    (pss_dcons (ps_dif (pd_bopT (pw_dor (pd_notT (pd_truth (pd_callB call_isiA snd_isi x.n_isinstance (pd_cons (pd_var 0) (pd_cons (pd_ty x.n_tuple) pd_nil))))) (pw_dor (pd_cmpT (op_neA hr.units) snd_ne (pd_callB call_lenA snd_len x.n_len (pd_cons (pd_var 0) pd_nil)) pd_int) (pw_dor (pd_cmpT (op_neA hr.units) snd_ne (pd_ix hr.units (pd_var 0) pd_int) (pd_str [115, 116, 101, 112, 115])) (pw_dor1 (pd_notT (pd_truth (pd_callB call_isiA snd_isi x.n_isinstance (pd_cons (pd_ix hr.units (pd_var 0) pd_int) (pd_cons (pd_ty x.n_tuple) pd_nil)))))))))) (pss_done (ps_dret pd_bl)) pss_dnil)
  (pss_done (ps_dret (pd_callB (cr_all rfl) snd_all x.n_all (pd_cons (pd_lc [("step", 1)] rfl sc_is_built.nd (pi_dvals (pd_ix hr.units (pd_var 0) pd_int)) (blk_of (N := ["tree", "step"]) (sc := defScope (top 17)) (by decide +kernel) rfl rfl) (by decide) (fun _ _ _ _ _ => (pg_dname sc_is_built.nd (i := 1) rfl (Or.inl rfl))) (fun _ _ _ _ _ => pts_dnil) (fun _ _ _ _ _ => (pd_call Gis_step hr x.m_is_step x.F_is_step.kp (b_is_step x) tk_no (pd_cons (pd_var 1) pd_nil)))) pd_nil)))))
theorem d_many_steps {φmany_steps : Fn} (x : Fx K mg E) (hk : 3 ≤ k) (Gmany_steps : FnD P w K mg base (k + 1) (He.fAd K ("many_steps", none)) E.d_many_steps ["tree"] φmany_steps) : FnD P w K mg base (k + 2) (He.fAd K ("many_steps", none)) E.d_many_steps ["tree"] (defM 3 (m_many_steps (adK K) φmany_steps)) := by
  exact FnD.mk x.F_many_steps sc_many_steps fun cdv A outer s H E hr =>
    have tk := takes_fn (P := P) (w := w) (K := K) (mg := mg) (base := base) (N := ["tree", "inner", "step"]) (qual := "many_steps") (scope := defScope (top 18)) (f := He.fAd K ("many_steps", none)) (cd := cdv) (A := A) (outer := outer) (s := s) (H := H) (E := E)
    (pss_dcons (ps_dsetLc [("step", 2)] (i := 1) rfl sc_many_steps.nd rfl rfl rfl (pi_dvals (pd_ix hr.units (pd_var 0) pd_int)) (blk_of (N := ["tree", "inner", "step"]) (sc := defScope (top 18)) (by decide +kernel) rfl rfl) (by decide) (fun _ _ _ _ _ => (pg_dname sc_many_steps.nd (i := 2) rfl (Or.inl rfl))) (fun _ _ _ _ _ => (pts_done (pd_cmpT (op_eqA hr.units) snd_eq (pd_ix hr.units (pd_var 2) pd_int) (pd_str [116, 105, 109, 101, 115])))) (fun _ _ _ _ _ => (pd_call Gmany_steps hr x.m_many_steps x.F_many_steps.kp (b_many_steps x) tk_no (pd_cons (pd_ix hr.units (pd_var 2) pd_int) pd_nil))))
  (pss_done (ps_dret (pd_op op_addA snd_add (pd_callB call_lenA snd_len x.n_len (pd_cons (pd_ix hr.units (pd_var 0) pd_int) pd_nil)) (pd_callB (cr_sum rfl) snd_sum x.n_sum (pd_cons (pd_var 1) pd_nil))))))
theorem d_deep_of {φdeep_of : Fn} (x : Fx K mg E) (hk : 3 ≤ k) (Gdeep_of : FnD P w K mg base (k + 1) (He.fAd K ("deep_of", none)) E.d_deep_of ["tree"] φdeep_of) : FnD P w K mg base (k + 2) (He.fAd K ("deep_of", none)) E.d_deep_of ["tree"] (defM 2 (m_deep_of (adK K) φdeep_of)) := by
  exact FnD.mk x.F_deep_of sc_deep_of fun cdv A outer s H E hr =>
    have tk := takes_fn (P := P) (w := w) (K := K) (mg := mg) (base := base) (N := ["tree", "step"]) (qual := "deep_of") (scope := defScope (top 19)) (f := He.fAd K ("deep_of", none)) (cd := cdv) (A := A) (outer := outer) (s := s) (H := H) (E := E)
    (pss_done (ps_dret (pd_maxDf rfl hr.units x.n_max (pd_cons (pd_lc [("step", 1)] rfl sc_deep_of.nd (pi_dvals (pd_ix hr.units (pd_var 0) pd_int)) (blk_of (N := ["tree", "step"]) (sc := defScope (top 19)) (by decide +kernel) rfl rfl) (by decide) (fun _ _ _ _ _ => (pg_dname sc_deep_of.nd (i := 1) rfl (Or.inl rfl))) (fun _ _ _ _ _ => (pts_done (pd_cmpT (op_eqA hr.units) snd_eq (pd_ix hr.units (pd_var 1) pd_int) (pd_str [116, 105, 109, 101, 115])))) (fun _ _ _ _ _ => (pd_op op_addA snd_add pd_int (pd_call Gdeep_of hr x.m_deep_of x.F_deep_of.kp (b_deep_of x) tk_no (pd_cons (pd_ix hr.units (pd_var 1) pd_int) pd_nil))))) pd_nil) (pk_dcons pd_int pk_dnil))))
theorem d_look_row {φis_row : Fn} (x : Fx K mg E) (hk : 3 ≤ k) (Gis_row : FnD P w K mg base (k + 1) (He.fAd K ("is_row", none)) E.d_is_row ["tree"] φis_row) : FnD P w K mg base (k + 2) (He.fAd K ("look_row", none)) E.d_look_row ["tree"] (defM 1 (m_look_row (adK K) φis_row)) := by
  exact FnD.mk x.F_look_row sc_look_row fun cdv A outer s H E hr =>
    have tk := takes_fn (P := P) (w := w) (K := K) (mg := mg) (base := base) (N := ["tree"]) (qual := "look_row") (scope := defScope (top 21)) (f := He.fAd K ("look_row", none)) (cd := cdv) (A := A) (outer := outer) (s := s) (H := H) (E := E)
    (pss_done (ps_dif (pd_notT (pd_truth (pd_call Gis_row hr x.m_is_row x.F_is_row.kp (b_is_row x) (tk_of tk) (pd_cons (pd_var 0) pd_nil)))) (pss_done (ps_draise rfl tk (pmd_mk0 (x.o_BadTree) grx_BadTree (i_BadTree_init x (by omega)) hr x.g_BadTree))) pss_dnil))
theorem d_told_text {φstep_text : Fn} (x : Fx K mg E) (hk : 3 ≤ k) (Gstep_text : FnD P w K mg base (k + 1) (He.fAd K ("step_text", none)) E.d_step_text ["step"] φstep_text) : FnD P w K mg base (k + 2) (He.fAd K ("told_text", none)) E.d_told_text ["tree"] (defM 2 (m_told_text (adK K) φstep_text)) := by
  exact FnD.mk x.F_told_text sc_told_text fun cdv A outer s H E hr =>
    have tk := takes_fn (P := P) (w := w) (K := K) (mg := mg) (base := base) (N := ["tree", "step"]) (qual := "told_text") (scope := defScope (top 23)) (f := He.fAd K ("told_text", none)) (cd := cdv) (A := A) (outer := outer) (s := s) (H := H) (E := E)
    (pss_done (ps_dret (pd_ifExp (pd_cmpT op_gtA snd_gt (pd_callB call_lenA snd_len x.n_len (pd_cons (pd_ix hr.units (pd_var 0) pd_int) pd_nil)) pd_int) (pd_strm PySem.F.slot_str_join PySem.F.type_str_join mt_join snd_join (pd_str [32]) (pd_cons (pd_lc [("step", 1)] rfl sc_told_text.nd (pi_dvals (pd_ix hr.units (pd_var 0) pd_int)) (blk_of (N := ["tree", "step"]) (sc := defScope (top 23)) (by decide +kernel) rfl rfl) (by decide) (fun _ _ _ _ _ => (pg_dname sc_told_text.nd (i := 1) rfl (Or.inl rfl))) (fun _ _ _ _ _ => pts_dnil) (fun _ _ _ _ _ => (pd_call Gstep_text hr x.m_step_text x.F_step_text.kp (b_step_text x) tk_no (pd_cons (pd_var 1) pd_nil)))) pd_nil)) (pd_str [45]))))
theorem d_Reader_init  (x : Fx K mg E) (hk : 3 ≤ k) : FnD P w K mg base (k + 2) (He.fAd K ("Reader", some "__init__")) E.d_Reader_init ["self", "signs"] (defM 2 (m_Reader_init (adK K) )) := by
  exact FnD.mk x.F_Reader_init sc_Reader_init fun cdv A outer s H E hr =>
    have tk := takes_fn (P := P) (w := w) (K := K) (mg := mg) (base := base) (N := ["self", "signs"]) (qual := "Reader.__init__") (scope := defScope (clsDef (top 25) 0)) (f := He.fAd K ("Reader", some "__init__")) (cd := cdv) (A := A) (outer := outer) (s := s) (H := H) (E := E)
    (pss_dcons (ps_dfld x.c_Reader x.a_Reader_signs (pd_var 0) (pd_var 1))
  (pss_dcons (ps_dfld x.c_Reader x.a_Reader_now (pd_var 0) pd_int)
  (pss_done (ps_dfld x.c_Reader x.a_Reader_many (pd_var 0) pd_int))))
theorem d_Reader_row {φReader_here : Fn} {φReader_step : Fn} (x : Fx K mg E) (hk : 3 ≤ k) (GReader_here : FnD P w K mg base (k + 1) (He.fAd K ("Reader", some "here")) E.d_Reader_here ["self"] φReader_here) (GReader_step : FnD P w K mg base (k + 1) (He.fAd K ("Reader", some "step")) E.d_Reader_step ["self", "deep"] φReader_step) : FnD P w K mg base (k + 2) (He.fAd K ("Reader", some "row")) E.d_Reader_row ["self", "deep"] (defM 3 (m_Reader_row (adK K) φReader_here φReader_step)) := by
  exact FnD.mk x.F_Reader_row sc_Reader_row fun cdv A outer s H E hr =>
    have tk := takes_fn (P := P) (w := w) (K := K) (mg := mg) (base := base) (N := ["self", "deep", "found"]) (qual := "Reader.row") (scope := defScope (clsDef (top 25) 7)) (f := He.fAd K ("Reader", some "row")) (cd := cdv) (A := A) (outer := outer) (s := s) (H := H) (E := E)
    (pss_dcons (ps_dif (pd_cmpT (op_eqA hr.units) snd_eq (pd_meth0 x.c_Reader x.h_Reader_here GReader_here hr (b_Reader_here x) (tk_of tk) (pd_var 0)) (pd_str [45])) (pss_dcons (ps_dfldaug x.c_Reader x.a_Reader_now iop_add snd_addI (pd_var 0) pd_int)
  (pss_done (ps_dret (pd_tup (pd_cons (pd_str [115, 116, 101, 112, 115]) (pd_cons (pd_tup pd_nil) pd_nil)))))) pss_dnil)
  (pss_dcons (ps_dset (i := 2) sc_Reader_row.nd rfl (Or.inl rfl) (pd_lstL (pd_cons (pd_meth x.c_Reader x.h_Reader_step GReader_step hr (b_Reader_step x) (tk_of tk) (pd_var 0) (pd_cons (pd_var 1) pd_nil)) pd_nil)))
  (pss_dcons (ps_dwhile (passes_of rfl) (pd_cmpT (op_eqA hr.units) snd_eq (pd_meth0 x.c_Reader x.h_Reader_here GReader_here hr (b_Reader_here x) (tk_of tk) (pd_var 0)) (pd_str [32])) (pss_dcons (ps_dfldaug x.c_Reader x.a_Reader_now iop_add snd_addI (pd_var 0) pd_int)
  (pss_done (ps_dexpr (pd_lm PySem.F.slot_list_append PySem.F.type_list_append mt_append snd_append (pd_var 2) (pd_cons (pd_meth x.c_Reader x.h_Reader_step GReader_step hr (b_Reader_step x) (tk_of tk) (pd_var 0) (pd_cons (pd_var 1) pd_nil)) pd_nil))))))
  (pss_done (ps_dret (pd_tup (pd_cons (pd_str [115, 116, 101, 112, 115]) (pd_cons (pd_callTy call_tuple_of snd_tuple x.n_tuple (pd_cons (pd_var 2) pd_nil)) pd_nil))))))))
theorem d_Reader_here  (x : Fx K mg E) (hk : 3 ≤ k) : FnD P w K mg base (k + 2) (He.fAd K ("Reader", some "here")) E.d_Reader_here ["self"] (defM 1 (m_Reader_here (adK K) )) := by
  exact FnD.mk x.F_Reader_here sc_Reader_here fun cdv A outer s H E hr =>
    have tk := takes_fn (P := P) (w := w) (K := K) (mg := mg) (base := base) (N := ["self"]) (qual := "Reader.here") (scope := defScope (clsDef (top 25) 1)) (f := He.fAd K ("Reader", some "here")) (cd := cdv) (A := A) (outer := outer) (s := s) (H := H) (E := E)
    (pss_done (ps_dret (pd_sl (pd_fld x.c_Reader x.a_Reader_signs (pd_var 0)) (po_dso (pd_fld x.c_Reader x.a_Reader_now (pd_var 0))) (po_dso (pd_op op_addA snd_add (pd_fld x.c_Reader x.a_Reader_now (pd_var 0)) pd_int)))))
theorem d_Reader_need  (x : Fx K mg E) (hk : 3 ≤ k) : FnD P w K mg base (k + 2) (He.fAd K ("Reader", some "need")) E.d_Reader_need ["self", "good"] (defM 2 (m_Reader_need (adK K) )) := by
  exact FnD.mk x.F_Reader_need sc_Reader_need fun cdv A outer s H E hr =>
    have tk := takes_fn (P := P) (w := w) (K := K) (mg := mg) (base := base) (N := ["self", "good"]) (qual := "Reader.need") (scope := defScope (clsDef (top 25) 2)) (f := He.fAd K ("Reader", some "need")) (cd := cdv) (A := A) (outer := outer) (s := s) (H := H) (E := E)
    (pss_done (ps_dif (pd_notT (pd_truth (pd_var 1))) (pss_done (ps_draise rfl tk (pmd_mk (x.o_BadText) grx_BadText (i_BadText_init x (by omega)) hr x.g_BadText (pd_cons (pd_fld x.c_Reader x.a_Reader_now (pd_var 0)) pd_nil)))) pss_dnil))
theorem d_is_step {φare_letters : Fn} {φis_name : Fn} {φis_times : Fn} {φis_built : Fn} (x : Fx K mg E) (hk : 3 ≤ k) (Gare_letters : FnD P w K mg base (k + 1) (He.fAd K ("are_letters", none)) E.d_are_letters ["text", "least"] φare_letters) (Gis_name : FnD P w K mg base (k + 1) (He.fAd K ("is_name", none)) E.d_is_name ["name"] φis_name) (Gis_times : FnD P w K mg base (k + 1) (He.fAd K ("is_times", none)) E.d_is_times ["many"] φis_times) (Gis_built : FnD P w K mg base (k + 1) (He.fAd K ("is_built", none)) E.d_is_built ["tree"] φis_built) : FnD P w K mg base (k + 2) (He.fAd K ("is_step", none)) E.d_is_step ["tree"] (defM 1 (m_is_step (adK K) φare_letters φis_name φis_times φis_built)) := by
  exact FnD.mk x.F_is_step sc_is_step fun cdv A outer s H E hr =>
    have tk := takes_fn (P := P) (w := w) (K := K) (mg := mg) (base := base) (N := ["tree"]) (qual := "is_step") (scope := defScope (top 16)) (f := He.fAd K ("is_step", none)) (cd := cdv) (A := A) (outer := outer) (s := s) (H := H) (E := E)
    (pss_dcons (ps_dif (pd_bopT (pw_dor (pd_notT (pd_truth (pd_callB call_isiA snd_isi x.n_isinstance (pd_cons (pd_var 0) (pd_cons (pd_ty x.n_tuple) pd_nil))))) (pw_dor (pd_cmpT op_ltA snd_lt (pd_callB call_lenA snd_len x.n_len (pd_cons (pd_var 0) pd_nil)) pd_int) (pw_dor1 (pd_notT (pd_truth (pd_callB call_isiA snd_isi x.n_isinstance (pd_cons (pd_ix hr.units (pd_var 0) pd_int) (pd_cons (pd_ty x.n_str) pd_nil))))))))) (pss_done (ps_dret pd_bl)) pss_dnil)
  (pss_dcons (ps_dif (pd_cmpT (op_eqA hr.units) snd_eq (pd_ix hr.units (pd_var 0) pd_int) (pd_str [99, 97, 108, 108])) (pss_done (ps_dret (pd_and (pd_cmp (op_eqA hr.units) snd_eq (pd_callB call_lenA snd_len x.n_len (pd_cons (pd_var 0) pd_nil)) pd_int) (pd_one (pd_call Gare_letters hr x.m_are_letters x.F_are_letters.kp (b_are_letters x) (tk_of tk) (pd_cons (pd_ix hr.units (pd_var 0) pd_int) (pd_cons pd_int pd_nil))))))) pss_dnil)
  (pss_dcons (ps_dif (pd_cmpT (op_eqA hr.units) snd_eq (pd_ix hr.units (pd_var 0) pd_int) (pd_str [116, 117, 114, 110])) (pss_done (ps_dret (pd_and (pd_cmp (op_eqA hr.units) snd_eq (pd_callB call_lenA snd_len x.n_len (pd_cons (pd_var 0) pd_nil)) pd_int) (pd_one (pd_call Gare_letters hr x.m_are_letters x.F_are_letters.kp (b_are_letters x) (tk_of tk) (pd_cons (pd_ix hr.units (pd_var 0) pd_int) (pd_cons pd_int pd_nil))))))) pss_dnil)
  (pss_dcons (ps_dif (pd_cmpT (op_eqA hr.units) snd_eq (pd_ix hr.units (pd_var 0) pd_int) (pd_str [114, 111, 119])) (pss_done (ps_dret (pd_and (pd_cmp (op_eqA hr.units) snd_eq (pd_callB call_lenA snd_len x.n_len (pd_cons (pd_var 0) pd_nil)) pd_int) (pd_and (pd_callB call_isiA snd_isi x.n_isinstance (pd_cons (pd_ix hr.units (pd_var 0) pd_int) (pd_cons (pd_ty x.n_str) pd_nil))) (pd_one (pd_call Gis_name hr x.m_is_name x.F_is_name.kp (b_is_name x) (tk_of tk) (pd_cons (pd_ix hr.units (pd_var 0) pd_int) pd_nil))))))) pss_dnil)
  (pss_done (ps_dret (pd_and (pd_cmp (op_eqA hr.units) snd_eq (pd_ix hr.units (pd_var 0) pd_int) (pd_str [116, 105, 109, 101, 115])) (pd_and (pd_cmp (op_eqA hr.units) snd_eq (pd_callB call_lenA snd_len x.n_len (pd_cons (pd_var 0) pd_nil)) pd_int) (pd_and (pd_call Gis_times hr x.m_is_times x.F_is_times.kp (b_is_times x) (tk_of tk) (pd_cons (pd_ix hr.units (pd_var 0) pd_int) pd_nil)) (pd_one (pd_call Gis_built hr x.m_is_built x.F_is_built.kp (b_is_built x) (tk_of tk) (pd_cons (pd_ix hr.units (pd_var 0) pd_int) pd_nil))))))))))))
theorem d_step_text {φtold_text : Fn} (x : Fx K mg E) (hk : 3 ≤ k) (Gtold_text : FnD P w K mg base (k + 1) (He.fAd K ("told_text", none)) E.d_told_text ["tree"] φtold_text) : FnD P w K mg base (k + 2) (He.fAd K ("step_text", none)) E.d_step_text ["step"] (defM 3 (m_step_text (adK K) φtold_text)) := by
  exact FnD.mk x.F_step_text sc_step_text fun cdv A outer s H E hr =>
    have tk := takes_fn (P := P) (w := w) (K := K) (mg := mg) (base := base) (N := ["step", "kind", "things"]) (qual := "step_text") (scope := defScope (top 22)) (f := He.fAd K ("step_text", none)) (cd := cdv) (A := A) (outer := outer) (s := s) (H := H) (E := E)
    (pss_dcons (ps_dstar rfl (pd_var 0) (pgs_dcons (pg_dname sc_step_text.nd (i := 1) rfl (Or.inl rfl)) (pgs_dstar (pg_dname sc_step_text.nd (i := 2) rfl (Or.inl rfl)))))
  (pss_dcons (ps_dif (pd_cmpT (op_eqA hr.units) snd_eq (pd_var 1) (pd_str [99, 97, 108, 108])) (pss_done (ps_dret (pd_joined (pj_dcons (pd_str [46]) (pj_dcons (pd_fmt (pd_ix hr.units (pd_var 2) pd_int)) pj_dnil))))) pss_dnil)
  (pss_dcons (ps_dif (pd_cmpT (op_eqA hr.units) snd_eq (pd_var 1) (pd_str [116, 117, 114, 110])) (pss_done (ps_dret (pd_joined (pj_dcons (pd_str [126]) (pj_dcons (pd_fmt (pd_ix hr.units (pd_var 2) pd_int)) pj_dnil))))) pss_dnil)
  (pss_dcons (ps_dif (pd_cmpT (op_eqA hr.units) snd_eq (pd_var 1) (pd_str [114, 111, 119])) (pss_done (ps_dret (pd_joined (pj_dcons (pd_str [60]) (pj_dcons (pd_fmt (pd_ix hr.units (pd_var 2) pd_int)) (pj_dcons (pd_str [62]) pj_dnil)))))) pss_dnil)
  (pss_done (ps_dret (pd_joined (pj_dcons (pd_str [40]) (pj_dcons (pd_fmt (pd_call Gtold_text hr x.m_told_text x.F_told_text.kp (b_told_text x) (tk_of tk) (pd_cons (pd_ix hr.units (pd_var 2) pd_int) pd_nil))) (pj_dcons (pd_str [41, 42]) (pj_dcons (pd_fmt (pd_ix hr.units (pd_var 2) pd_int)) pj_dnil)))))))))))
theorem d_Reader_step {φReader_here : Fn} {φReader_need : Fn} {φReader_run : Fn} {φReader_pass_by : Fn} {φReader_row : Fn} {φReader_number : Fn} (x : Fx K mg E) (hk : 3 ≤ k) (GReader_here : FnD P w K mg base (k + 1) (He.fAd K ("Reader", some "here")) E.d_Reader_here ["self"] φReader_here) (GReader_need : FnD P w K mg base (k + 1) (He.fAd K ("Reader", some "need")) E.d_Reader_need ["self", "good"] φReader_need) (GReader_run : FnD P w K mg base (k + 1) (He.fAd K ("Reader", some "run")) E.d_Reader_run ["self", "some", "least", "most"] φReader_run) (GReader_pass_by : FnD P w K mg base (k + 1) (He.fAd K ("Reader", some "pass_by")) E.d_Reader_pass_by ["self", "sign"] φReader_pass_by) (GReader_row : FnD P w K mg base (k + 1) (He.fAd K ("Reader", some "row")) E.d_Reader_row ["self", "deep"] φReader_row) (GReader_number : FnD P w K mg base (k + 1) (He.fAd K ("Reader", some "number")) E.d_Reader_number ["self"] φReader_number) : FnD P w K mg base (k + 2) (He.fAd K ("Reader", some "step")) E.d_Reader_step ["self", "deep"] (defM 5 (m_Reader_step (adK K) φReader_here φReader_need φReader_run φReader_pass_by φReader_row φReader_number)) := by
  obtain ⟨mv_Reader_run_0, kb_Reader_run_0⟩ := kbx_Reader_run_0 x
  obtain ⟨mv_Reader_run_least, kb_Reader_run_least⟩ := kbx_Reader_run_least x
  obtain ⟨mv_Reader_run_least_most, kb_Reader_run_least_most⟩ := kbx_Reader_run_least_most x
  exact FnD.mk x.F_Reader_step sc_Reader_step fun cdv A outer s H E hr =>
    have tk := takes_fn (P := P) (w := w) (K := K) (mg := mg) (base := base) (N := ["self", "deep", "sign", "name", "inner"]) (qual := "Reader.step") (scope := defScope (clsDef (top 25) 6)) (f := He.fAd K ("Reader", some "step")) (cd := cdv) (A := A) (outer := outer) (s := s) (H := H) (E := E)
    (pss_dcons (ps_dset (i := 2) sc_Reader_step.nd rfl (Or.inl rfl) (pd_meth0 x.c_Reader x.h_Reader_here GReader_here hr (b_Reader_here x) (tk_of tk) (pd_var 0)))
  (pss_dcons (ps_dexpr (pd_meth x.c_Reader x.h_Reader_need GReader_need hr (b_Reader_need x) (tk_of tk) (pd_var 0) (pd_cons (pd_and (pd_cmp (op_neA hr.units) snd_ne (pd_var 2) (pd_str [])) (pd_and (pd_cmp (op_inA hr.units) snd_in (pd_var 2) (pd_str [46, 126, 60, 40])) (pd_one (pd_cmp op_ltA snd_lt (pd_fld x.c_Reader x.a_Reader_many (pd_var 0)) (pd_globI x.i_MOST_STEPS.choose_spec))))) pd_nil)))
  (pss_dcons (ps_dexpr (pd_meth x.c_Reader x.h_Reader_need GReader_need hr (b_Reader_need x) (tk_of tk) (pd_var 0) (pd_cons (pd_or (pd_cmp (op_neA hr.units) snd_ne (pd_var 2) (pd_str [40])) (pd_one (pd_cmp op_ltA snd_lt (pd_var 1) (pd_globI x.i_MOST_DEEP.choose_spec)))) pd_nil)))
  (pss_dcons (ps_dfldaug x.c_Reader x.a_Reader_many iop_add snd_addI (pd_var 0) pd_int)
  (pss_dcons (ps_dfldaug x.c_Reader x.a_Reader_now iop_add snd_addI (pd_var 0) pd_int)
  (pss_dcons (ps_dif (pd_cmpT (op_eqA hr.units) snd_eq (pd_var 2) (pd_str [46])) (pss_done (ps_dret (pd_tup (pd_cons (pd_str [99, 97, 108, 108]) (pd_cons (pd_methN x.c_Reader x.h_Reader_run GReader_run hr kb_Reader_run_0 gr_Reader_run_0 (tk_of tk) (pd_var 0) (pd_cons (pd_globS s_LETTERS x.s_LETTERS.choose_spec) pd_nil) pk_dnil) pd_nil))))) pss_dnil)
  (pss_dcons (ps_dif (pd_cmpT (op_eqA hr.units) snd_eq (pd_var 2) (pd_str [126])) (pss_done (ps_dret (pd_tup (pd_cons (pd_str [116, 117, 114, 110]) (pd_cons (pd_methN x.c_Reader x.h_Reader_run GReader_run hr kb_Reader_run_least gr_Reader_run_least (tk_of tk) (pd_var 0) (pd_cons (pd_globS s_LETTERS x.s_LETTERS.choose_spec) pd_nil) (pk_dcons pd_int pk_dnil)) pd_nil))))) pss_dnil)
  (pss_dcons (ps_dif (pd_cmpT (op_eqA hr.units) snd_eq (pd_var 2) (pd_str [60])) (pss_dcons (ps_dset (i := 3) sc_Reader_step.nd rfl (Or.inl rfl) (pd_methN x.c_Reader x.h_Reader_run GReader_run hr kb_Reader_run_least_most gr_Reader_run_least_most (tk_of tk) (pd_var 0) (pd_cons (pd_globS s_SMALL x.s_SMALL.choose_spec) pd_nil) (pk_dcons pd_int (pk_dcons (pd_globI x.i_MOST_NAME.choose_spec) pk_dnil))))
  (pss_dcons (ps_dexpr (pd_meth x.c_Reader x.h_Reader_pass_by GReader_pass_by hr (b_Reader_pass_by x) (tk_of tk) (pd_var 0) (pd_cons (pd_str [62]) pd_nil)))
  (pss_done (ps_dret (pd_tup (pd_cons (pd_str [114, 111, 119]) (pd_cons (pd_var 3) pd_nil))))))) pss_dnil)
  (pss_dcons (ps_dset (i := 4) sc_Reader_step.nd rfl (Or.inl rfl) (pd_meth x.c_Reader x.h_Reader_row GReader_row hr (b_Reader_row x) (tk_of tk) (pd_var 0) (pd_cons (pd_op op_addA snd_add (pd_var 1) pd_int) pd_nil)))
  (pss_dcons (ps_dexpr (pd_meth x.c_Reader x.h_Reader_pass_by GReader_pass_by hr (b_Reader_pass_by x) (tk_of tk) (pd_var 0) (pd_cons (pd_str [41]) pd_nil)))
  (pss_dcons (ps_dexpr (pd_meth x.c_Reader x.h_Reader_pass_by GReader_pass_by hr (b_Reader_pass_by x) (tk_of tk) (pd_var 0) (pd_cons (pd_str [42]) pd_nil)))
  (pss_done (ps_dret (pd_tup (pd_cons (pd_str [116, 105, 109, 101, 115]) (pd_cons (pd_meth0 x.c_Reader x.h_Reader_number GReader_number hr (b_Reader_number x) (tk_of tk) (pd_var 0)) (pd_cons (pd_var 4) pd_nil)))))))))))))))))
theorem d_are_letters  (x : Fx K mg E) (hk : 3 ≤ k) : FnD P w K mg base (k + 2) (He.fAd K ("are_letters", none)) E.d_are_letters ["text", "least"] (defM 3 (m_are_letters (adK K) )) := by
  exact FnD.mk x.F_are_letters sc_are_letters fun cdv A outer s H E hr =>
    have tk := takes_fn (P := P) (w := w) (K := K) (mg := mg) (base := base) (N := ["text", "least", "sign"]) (qual := "are_letters") (scope := defScope (top 14)) (f := He.fAd K ("are_letters", none)) (cd := cdv) (A := A) (outer := outer) (s := s) (H := H) (E := E)
    (pss_done (ps_dret (pd_and (pd_callB call_isiA snd_isi x.n_isinstance (pd_cons (pd_var 0) (pd_cons (pd_ty x.n_str) pd_nil))) (pd_and (pd_chain op_leA op_leA snd_le snd_le (pd_var 1) (pd_callB call_lenA snd_len x.n_len (pd_cons (pd_var 0) pd_nil)) (pd_globI x.i_MOST_SIDES.choose_spec)) (pd_one (pd_callB (cr_all rfl) snd_all x.n_all (pd_cons (pd_lc [("sign", 2)] rfl sc_are_letters.nd (pi_dvals (pd_var 0)) (blk_of (N := ["text", "least", "sign"]) (sc := defScope (top 14)) (by decide +kernel) rfl rfl) (by decide) (fun _ _ _ _ _ => (pg_dname sc_are_letters.nd (i := 2) rfl (Or.inl rfl))) (fun _ _ _ _ _ => pts_dnil) (fun _ _ _ _ _ => (pd_cmp (op_inA hr.units) snd_in (pd_var 2) (pd_globS s_LETTERS x.s_LETTERS.choose_spec)))) pd_nil)))))))
theorem d_is_name  (x : Fx K mg E) (hk : 3 ≤ k) : FnD P w K mg base (k + 2) (He.fAd K ("is_name", none)) E.d_is_name ["name"] (defM 2 (m_is_name (adK K) )) := by
  exact FnD.mk x.F_is_name sc_is_name fun cdv A outer s H E hr =>
    have tk := takes_fn (P := P) (w := w) (K := K) (mg := mg) (base := base) (N := ["name", "sign"]) (qual := "is_name") (scope := defScope (top 13)) (f := He.fAd K ("is_name", none)) (cd := cdv) (A := A) (outer := outer) (s := s) (H := H) (E := E)
    (pss_done (ps_dret (pd_and (pd_chain op_leA op_leA snd_le snd_le pd_int (pd_callB call_lenA snd_len x.n_len (pd_cons (pd_var 0) pd_nil)) (pd_globI x.i_MOST_NAME.choose_spec)) (pd_one (pd_callB (cr_all rfl) snd_all x.n_all (pd_cons (pd_lc [("sign", 1)] rfl sc_is_name.nd (pi_dvals (pd_var 0)) (blk_of (N := ["name", "sign"]) (sc := defScope (top 13)) (by decide +kernel) rfl rfl) (by decide) (fun _ _ _ _ _ => (pg_dname sc_is_name.nd (i := 1) rfl (Or.inl rfl))) (fun _ _ _ _ _ => pts_dnil) (fun _ _ _ _ _ => (pd_cmp (op_inA hr.units) snd_in (pd_var 1) (pd_globS s_SMALL x.s_SMALL.choose_spec)))) pd_nil))))))
theorem d_is_times  (x : Fx K mg E) (hk : 3 ≤ k) : FnD P w K mg base (k + 2) (He.fAd K ("is_times", none)) E.d_is_times ["many"] (defM 1 (m_is_times (adK K) )) := by
  exact FnD.mk x.F_is_times sc_is_times fun cdv A outer s H E hr =>
    have tk := takes_fn (P := P) (w := w) (K := K) (mg := mg) (base := base) (N := ["many"]) (qual := "is_times") (scope := defScope (top 15)) (f := He.fAd K ("is_times", none)) (cd := cdv) (A := A) (outer := outer) (s := s) (H := H) (E := E)
    (pss_done (ps_dret (pd_and (pd_callB call_isiA snd_isi x.n_isinstance (pd_cons (pd_var 0) (pd_cons (pd_ty x.n_int) pd_nil))) (pd_and (pd_not (pd_callB call_isiA snd_isi x.n_isinstance (pd_cons (pd_var 0) (pd_cons (pd_ty x.n_bool) pd_nil)))) (pd_one (pd_chain op_leA op_leA snd_le snd_le pd_int (pd_var 0) (pd_globI x.i_MOST_TIMES.choose_spec)))))))
theorem d_Reader_run {φReader_here : Fn} {φReader_need : Fn} (x : Fx K mg E) (hk : 3 ≤ k) (GReader_here : FnD P w K mg base (k + 1) (He.fAd K ("Reader", some "here")) E.d_Reader_here ["self"] φReader_here) (GReader_need : FnD P w K mg base (k + 1) (He.fAd K ("Reader", some "need")) E.d_Reader_need ["self", "good"] φReader_need) : FnD P w K mg base (k + 2) (He.fAd K ("Reader", some "run")) E.d_Reader_run ["self", "some", "least", "most"] (defM 5 (m_Reader_run (adK K) φReader_here φReader_need)) := by
  exact FnD.mk x.F_Reader_run sc_Reader_run fun cdv A outer s H E hr =>
    have tk := takes_fn (P := P) (w := w) (K := K) (mg := mg) (base := base) (N := ["self", "some", "least", "most", "start"]) (qual := "Reader.run") (scope := defScope (clsDef (top 25) 4)) (f := He.fAd K ("Reader", some "run")) (cd := cdv) (A := A) (outer := outer) (s := s) (H := H) (E := E)
    (pss_dcons (ps_dset (i := 4) sc_Reader_run.nd rfl (Or.inl rfl) (pd_fld x.c_Reader x.a_Reader_now (pd_var 0)))
  (pss_dcons (ps_dwhile (passes_of rfl) (pd_bopT (pw_dand (pd_cmpT op_ltA snd_lt (pd_op op_sub snd_sub (pd_fld x.c_Reader x.a_Reader_now (pd_var 0)) (pd_var 4)) (pd_var 3)) (pw_dand (pd_cmpT (op_neA hr.units) snd_ne (pd_meth0 x.c_Reader x.h_Reader_here GReader_here hr (b_Reader_here x) (tk_of tk) (pd_var 0)) (pd_str [])) (pw_dand1 (pd_cmpT (op_inA hr.units) snd_in (pd_meth0 x.c_Reader x.h_Reader_here GReader_here hr (b_Reader_here x) (tk_of tk) (pd_var 0)) (pd_var 1)))))) (pss_done (ps_dfldaug x.c_Reader x.a_Reader_now iop_add snd_addI (pd_var 0) pd_int)))
  (pss_dcons (ps_dexpr (pd_meth x.c_Reader x.h_Reader_need GReader_need hr (b_Reader_need x) (tk_of tk) (pd_var 0) (pd_cons (pd_cmp op_geA snd_ge (pd_op op_sub snd_sub (pd_fld x.c_Reader x.a_Reader_now (pd_var 0)) (pd_var 4)) (pd_var 2)) pd_nil)))
  (pss_done (ps_dret (pd_sl (pd_fld x.c_Reader x.a_Reader_signs (pd_var 0)) (po_dso (pd_var 4)) (po_dso (pd_fld x.c_Reader x.a_Reader_now (pd_var 0)))))))))
theorem d_Reader_pass_by {φReader_here : Fn} {φReader_need : Fn} (x : Fx K mg E) (hk : 3 ≤ k) (GReader_here : FnD P w K mg base (k + 1) (He.fAd K ("Reader", some "here")) E.d_Reader_here ["self"] φReader_here) (GReader_need : FnD P w K mg base (k + 1) (He.fAd K ("Reader", some "need")) E.d_Reader_need ["self", "good"] φReader_need) : FnD P w K mg base (k + 2) (He.fAd K ("Reader", some "pass_by")) E.d_Reader_pass_by ["self", "sign"] (defM 2 (m_Reader_pass_by (adK K) φReader_here φReader_need)) := by
  exact FnD.mk x.F_Reader_pass_by sc_Reader_pass_by fun cdv A outer s H E hr =>
    have tk := takes_fn (P := P) (w := w) (K := K) (mg := mg) (base := base) (N := ["self", "sign"]) (qual := "Reader.pass_by") (scope := defScope (clsDef (top 25) 3)) (f := He.fAd K ("Reader", some "pass_by")) (cd := cdv) (A := A) (outer := outer) (s := s) (H := H) (E := E)
    (pss_dcons (ps_dexpr (pd_meth x.c_Reader x.h_Reader_need GReader_need hr (b_Reader_need x) (tk_of tk) (pd_var 0) (pd_cons (pd_cmp (op_eqA hr.units) snd_eq (pd_meth0 x.c_Reader x.h_Reader_here GReader_here hr (b_Reader_here x) (tk_of tk) (pd_var 0)) (pd_var 1)) pd_nil)))
  (pss_done (ps_dfldaug x.c_Reader x.a_Reader_now iop_add snd_addI (pd_var 0) pd_int)))
theorem d_Reader_number {φReader_here : Fn} {φReader_run : Fn} (x : Fx K mg E) (hk : 3 ≤ k) (GReader_here : FnD P w K mg base (k + 1) (He.fAd K ("Reader", some "here")) E.d_Reader_here ["self"] φReader_here) (GReader_run : FnD P w K mg base (k + 1) (He.fAd K ("Reader", some "run")) E.d_Reader_run ["self", "some", "least", "most"] φReader_run) : FnD P w K mg base (k + 2) (He.fAd K ("Reader", some "number")) E.d_Reader_number ["self"] (defM 2 (m_Reader_number (adK K) φReader_here φReader_run)) := by
  obtain ⟨mv_Reader_run_least_most, kb_Reader_run_least_most⟩ := kbx_Reader_run_least_most x
  exact FnD.mk x.F_Reader_number sc_Reader_number fun cdv A outer s H E hr =>
    have tk := takes_fn (P := P) (w := w) (K := K) (mg := mg) (base := base) (N := ["self", "word"]) (qual := "Reader.number") (scope := defScope (clsDef (top 25) 5)) (f := He.fAd K ("Reader", some "number")) (cd := cdv) (A := A) (outer := outer) (s := s) (H := H) (E := E)
    (pss_dcons (ps_dif (pd_cmpT (op_eqA hr.units) snd_eq (pd_meth0 x.c_Reader x.h_Reader_here GReader_here hr (b_Reader_here x) (tk_of tk) (pd_var 0)) (pd_str [48])) (pss_dcons (ps_dfldaug x.c_Reader x.a_Reader_now iop_add snd_addI (pd_var 0) pd_int)
  (pss_done (ps_dret pd_int))) pss_dnil)
  (pss_dcons (ps_dset (i := 1) sc_Reader_number.nd rfl (Or.inl rfl) (pd_methN x.c_Reader x.h_Reader_run GReader_run hr kb_Reader_run_least_most gr_Reader_run_least_most (tk_of tk) (pd_var 0) (pd_cons (pd_globS s_FIGURES x.s_FIGURES.choose_spec) pd_nil) (pk_dcons pd_int (pk_dcons pd_int pk_dnil))))
  (pss_dcons (ps_dif (pd_cmpT op_gtA snd_gt (pd_callTy call_intA snd_int x.n_int (pd_cons (pd_var 1) pd_nil)) (pd_globI x.i_MOST_TIMES.choose_spec)) (pss_done (ps_draise rfl tk (pmd_mk (x.o_BadText) grx_BadText (i_BadText_init x (by omega)) hr x.g_BadText (pd_cons (pd_op op_sub snd_sub (pd_fld x.c_Reader x.a_Reader_now (pd_var 0)) pd_int) pd_nil)))) pss_dnil)
  (pss_done (ps_dret (pd_callTy call_intA snd_int x.n_int (pd_cons (pd_var 1) pd_nil)))))))
theorem p_law_start (x : Fx K mg E) (h : 5 ≤ k) : FnOk P w K mg base (L2.CX P w) k (He.fAd K ("_law_start", none)) E.d_law_start ["_law_script"] (spStart K) := by
  obtain ⟨k, rfl⟩ : ∃ j, k = j + 1 := ⟨k - 1, by omega⟩
  exact start_ok x.F_law_start sc_law_start fun cdv A outer s H E hr => pss_cons (ps_set (i := 1) sc_law_start.nd rfl (Or.inl rfl) pe_int) (pss_cons (ps_for (passes_of rfl) rfl (pi_list (pe_slice sl_list (pe_var (i := 0) rfl (Or.inl rfl)) po_none (po_some pe_int))) (pg_name (i := 2) sc_law_start.nd rfl (Or.inl rfl)) (pss_one (ps_set (i := 1) sc_law_start.nd rfl (Or.inl rfl) (pe_op op_mod (pe_op op_add (pe_op op_add (pe_op op_mul (pe_var (i := 1) rfl (Or.inl rfl)) pe_int) (pe_op op_mod (pe_var (i := 2) rfl (Or.inl rfl)) pe_int)) pe_int) pe_int)))) (pss_one (ps_ret (pe_lst (pa_cons (pe_callTy call_list_of rfl x.n_list (by decide +kernel) (pa_cons (pe_slice sl_list (pe_var (i := 0) rfl (Or.inl rfl)) po_none (po_some pe_int)) pa_nil)) (pa_cons pe_int (pa_cons pe_int (pa_cons (pe_var (i := 1) rfl (Or.inl rfl)) (pa_cons pe_int pa_nil)))))))))
theorem p_law_draw (x : Fx K mg E) (h : 5 ≤ k) : FnD P w K mg base k (He.fAd K ("_law_draw", none)) E.d_law_draw ["_law_d", "_law_many"] (φlaw_draw (adK K)) := by
  obtain ⟨k, rfl⟩ : ∃ j, k = j + 2 := ⟨k - 2, by omega⟩
  exact d_law_draw x (by omega) 
theorem p_law_of (x : Fx K mg E) (h : 6 ≤ k) : FnD P w K mg base k (He.fAd K ("_law_of", none)) E.d_law_of ["_law_d", "_law_some"] (φlaw_of (adK K)) := by
  obtain ⟨k, rfl⟩ : ∃ j, k = j + 2 := ⟨k - 2, by omega⟩
  exact d_law_of x (by omega) (p_law_draw x (by omega))
theorem p_law_number (x : Fx K mg E) (h : 7 ≤ k) : FnD P w K mg base k (He.fAd K ("_law_number", none)) E.d_law_number ["_law_d"] (φlaw_number (adK K)) := by
  obtain ⟨k, rfl⟩ : ∃ j, k = j + 2 := ⟨k - 2, by omega⟩
  exact d_law_number x (by omega) (p_law_draw x (by omega)) (p_law_of x (by omega))
theorem p_law_letters (x : Fx K mg E) (h : 5 ≤ k) : FnD P w K mg base k (He.fAd K ("_law_letters", none)) E.d_law_letters [] (φlaw_letters (adK K)) := by
  obtain ⟨k, rfl⟩ : ∃ j, k = j + 2 := ⟨k - 2, by omega⟩
  exact d_law_letters x (by omega) 
theorem p_law_name (x : Fx K mg E) (h : 6 ≤ k) : FnD P w K mg base k (He.fAd K ("_law_name", none)) E.d_law_name ["_law_d"] (φlaw_name (adK K)) := by
  obtain ⟨k, rfl⟩ : ∃ j, k = j + 2 := ⟨k - 2, by omega⟩
  exact d_law_name x (by omega) (p_law_letters x (by omega)) (p_law_draw x (by omega))
theorem p_law_sides (x : Fx K mg E) (h : 7 ≤ k) : FnD P w K mg base k (He.fAd K ("_law_sides", none)) E.d_law_sides ["_law_d", "_law_shuts"] (φlaw_sides (adK K)) := by
  obtain ⟨k, rfl⟩ : ∃ j, k = j + 2 := ⟨k - 2, by omega⟩
  exact d_law_sides x (by omega) (p_law_of x (by omega)) (p_law_draw x (by omega))
theorem p_law_mixed (x : Fx K mg E) (h : 6 ≤ k) : FnD P w K mg base k (He.fAd K ("_law_mixed", none)) E.d_law_mixed ["_law_d", "_law_some"] (φlaw_mixed (adK K)) := by
  obtain ⟨k, rfl⟩ : ∃ j, k = j + 2 := ⟨k - 2, by omega⟩
  exact d_law_mixed x (by omega) (p_law_draw x (by omega))
theorem pg_law_tree (x : Fx K mg E) : ∀ (n k : Nat), 8 + n ≤ k → FnD P w K mg base k (He.fAd K ("_law_tree", none)) E.d_law_tree ["_law_d", "_law_left", "_law_deep"] (φn_law_tree (adK K) n)
  | 0, k, h => FnD.stuck
  | n + 1, k, h => by
    obtain ⟨k, rfl⟩ : ∃ j, k = j + 2 := ⟨k - 2, by omega⟩
    have ih := pg_law_tree x n (k + 1) (by omega)
    exact d_law_tree x (by omega) (p_law_of x (by omega)) (p_law_draw x (by omega)) ih (p_law_number x (by omega)) (p_law_name x (by omega)) (p_law_letters x (by omega)) (p_law_sides x (by omega)) (p_law_mixed x (by omega))
theorem p_law_tree (x : Fx K mg E) (h : 28 ≤ k) : FnD P w K mg base k (He.fAd K ("_law_tree", none)) E.d_law_tree ["_law_d", "_law_left", "_law_deep"] (φlaw_tree (adK K)) := (pg_law_tree x 20 k (by omega))
theorem pg_law_text (x : Fx K mg E) : ∀ (n k : Nat), 5 + n ≤ k → FnD P w K mg base k (He.fAd K ("_law_text", none)) E.d_law_text ["_law_tree_here"] (φn_law_text (adK K) n)
  | 0, k, h => FnD.stuck
  | n + 1, k, h => by
    obtain ⟨k, rfl⟩ : ∃ j, k = j + 2 := ⟨k - 2, by omega⟩
    have ih := pg_law_text x n (k + 1) (by omega)
    exact d_law_text x (by omega) ih
theorem p_law_text (x : Fx K mg E) (h : 45 ≤ k) : FnD P w K mg base k (He.fAd K ("_law_text", none)) E.d_law_text ["_law_tree_here"] (φlaw_text (adK K)) := (pg_law_text x 40 k (by omega))
theorem p_are_letters (x : Fx K mg E) (h : 5 ≤ k) : FnD P w K mg base k (He.fAd K ("are_letters", none)) E.d_are_letters ["text", "least"] (φare_letters (adK K)) := by
  obtain ⟨k, rfl⟩ : ∃ j, k = j + 2 := ⟨k - 2, by omega⟩
  exact d_are_letters x (by omega) 
theorem p_is_name (x : Fx K mg E) (h : 5 ≤ k) : FnD P w K mg base k (He.fAd K ("is_name", none)) E.d_is_name ["name"] (φis_name (adK K)) := by
  obtain ⟨k, rfl⟩ : ∃ j, k = j + 2 := ⟨k - 2, by omega⟩
  exact d_is_name x (by omega) 
theorem p_is_times (x : Fx K mg E) (h : 5 ≤ k) : FnD P w K mg base k (He.fAd K ("is_times", none)) E.d_is_times ["many"] (φis_times (adK K)) := by
  obtain ⟨k, rfl⟩ : ∃ j, k = j + 2 := ⟨k - 2, by omega⟩
  exact d_is_times x (by omega) 
theorem pg_is_step_is_built (x : Fx K mg E) : ∀ (n k : Nat), 6 + n ≤ k → FnD P w K mg base k (He.fAd K ("is_step", none)) E.d_is_step ["tree"] (φn_is_step (adK K) n) ∧ FnD P w K mg base k (He.fAd K ("is_built", none)) E.d_is_built ["tree"] (φn_is_built (adK K) n)
  | 0, k, h => ⟨FnD.stuck, FnD.stuck⟩
  | n + 1, k, h => by
    obtain ⟨k, rfl⟩ : ∃ j, k = j + 2 := ⟨k - 2, by omega⟩
    have ih := pg_is_step_is_built x n (k + 1) (by omega)
    exact ⟨d_is_step x (by omega) (p_are_letters x (by omega)) (p_is_name x (by omega)) (p_is_times x (by omega)) ih.2, d_is_built x (by omega) ih.1⟩
theorem p_is_step (x : Fx K mg E) (h : 46 ≤ k) : FnD P w K mg base k (He.fAd K ("is_step", none)) E.d_is_step ["tree"] (φis_step (adK K)) := (pg_is_step_is_built x 40 k (by omega)).1
theorem p_is_built (x : Fx K mg E) (h : 46 ≤ k) : FnD P w K mg base k (He.fAd K ("is_built", none)) E.d_is_built ["tree"] (φis_built (adK K)) := (pg_is_step_is_built x 40 k (by omega)).2
theorem pg_many_steps (x : Fx K mg E) : ∀ (n k : Nat), 5 + n ≤ k → FnD P w K mg base k (He.fAd K ("many_steps", none)) E.d_many_steps ["tree"] (φn_many_steps (adK K) n)
  | 0, k, h => FnD.stuck
  | n + 1, k, h => by
    obtain ⟨k, rfl⟩ : ∃ j, k = j + 2 := ⟨k - 2, by omega⟩
    have ih := pg_many_steps x n (k + 1) (by omega)
    exact d_many_steps x (by omega) ih
theorem p_many_steps (x : Fx K mg E) (h : 45 ≤ k) : FnD P w K mg base k (He.fAd K ("many_steps", none)) E.d_many_steps ["tree"] (φmany_steps (adK K)) := (pg_many_steps x 40 k (by omega))
theorem pg_deep_of (x : Fx K mg E) : ∀ (n k : Nat), 5 + n ≤ k → FnD P w K mg base k (He.fAd K ("deep_of", none)) E.d_deep_of ["tree"] (φn_deep_of (adK K) n)
  | 0, k, h => FnD.stuck
  | n + 1, k, h => by
    obtain ⟨k, rfl⟩ : ∃ j, k = j + 2 := ⟨k - 2, by omega⟩
    have ih := pg_deep_of x n (k + 1) (by omega)
    exact d_deep_of x (by omega) ih
theorem p_deep_of (x : Fx K mg E) (h : 45 ≤ k) : FnD P w K mg base k (He.fAd K ("deep_of", none)) E.d_deep_of ["tree"] (φdeep_of (adK K)) := (pg_deep_of x 40 k (by omega))
theorem p_is_row (x : Fx K mg E) (h : 47 ≤ k) : FnD P w K mg base k (He.fAd K ("is_row", none)) E.d_is_row ["tree"] (φis_row (adK K)) := by
  obtain ⟨k, rfl⟩ : ∃ j, k = j + 2 := ⟨k - 2, by omega⟩
  exact d_is_row x (by omega) (p_is_built x (by omega)) (p_many_steps x (by omega)) (p_deep_of x (by omega))
theorem p_look_row (x : Fx K mg E) (h : 48 ≤ k) : FnD P w K mg base k (He.fAd K ("look_row", none)) E.d_look_row ["tree"] (φlook_row (adK K)) := by
  obtain ⟨k, rfl⟩ : ∃ j, k = j + 2 := ⟨k - 2, by omega⟩
  exact d_look_row x (by omega) (p_is_row x (by omega))
theorem pg_step_text_told_text (x : Fx K mg E) : ∀ (n k : Nat), 5 + n ≤ k → FnD P w K mg base k (He.fAd K ("step_text", none)) E.d_step_text ["step"] (φn_step_text (adK K) n) ∧ FnD P w K mg base k (He.fAd K ("told_text", none)) E.d_told_text ["tree"] (φn_told_text (adK K) n)
  | 0, k, h => ⟨FnD.stuck, FnD.stuck⟩
  | n + 1, k, h => by
    obtain ⟨k, rfl⟩ : ∃ j, k = j + 2 := ⟨k - 2, by omega⟩
    have ih := pg_step_text_told_text x n (k + 1) (by omega)
    exact ⟨d_step_text x (by omega) ih.2, d_told_text x (by omega) ih.1⟩
theorem p_step_text (x : Fx K mg E) (h : 45 ≤ k) : FnD P w K mg base k (He.fAd K ("step_text", none)) E.d_step_text ["step"] (φstep_text (adK K)) := (pg_step_text_told_text x 40 k (by omega)).1
theorem p_told_text (x : Fx K mg E) (h : 45 ≤ k) : FnD P w K mg base k (He.fAd K ("told_text", none)) E.d_told_text ["tree"] (φtold_text (adK K)) := (pg_step_text_told_text x 40 k (by omega)).2
theorem p_row_text (x : Fx K mg E) (h : 49 ≤ k) : FnD P w K mg base k (He.fAd K ("row_text", none)) E.d_row_text ["tree"] (φrow_text (adK K)) := by
  obtain ⟨k, rfl⟩ : ∃ j, k = j + 2 := ⟨k - 2, by omega⟩
  exact d_row_text x (by omega) (p_look_row x (by omega)) (p_told_text x (by omega))
theorem pg_law_same (x : Fx K mg E) : ∀ (n k : Nat), 5 + n ≤ k → FnD P w K mg base k (He.fAd K ("_law_same", none)) E.d_law_same ["_law_x", "_law_due"] (φn_law_same (adK K) n)
  | 0, k, h => FnD.stuck
  | n + 1, k, h => by
    obtain ⟨k, rfl⟩ : ∃ j, k = j + 2 := ⟨k - 2, by omega⟩
    have ih := pg_law_same x n (k + 1) (by omega)
    exact d_law_same x (by omega) ih
theorem p_law_same (x : Fx K mg E) (h : 45 ≤ k) : FnD P w K mg base k (He.fAd K ("_law_same", none)) E.d_law_same ["_law_x", "_law_due"] (φlaw_same (adK K)) := (pg_law_same x 40 k (by omega))
theorem p_Reader_init (x : Fx K mg E) (h : 5 ≤ k) : FnD P w K mg base k (He.fAd K ("Reader", some "__init__")) E.d_Reader_init ["self", "signs"] (φReader_init (adK K)) := by
  obtain ⟨k, rfl⟩ : ∃ j, k = j + 2 := ⟨k - 2, by omega⟩
  exact d_Reader_init x (by omega) 
theorem p_Reader_here (x : Fx K mg E) (h : 5 ≤ k) : FnD P w K mg base k (He.fAd K ("Reader", some "here")) E.d_Reader_here ["self"] (φReader_here (adK K)) := by
  obtain ⟨k, rfl⟩ : ∃ j, k = j + 2 := ⟨k - 2, by omega⟩
  exact d_Reader_here x (by omega) 
theorem p_Reader_need (x : Fx K mg E) (h : 5 ≤ k) : FnD P w K mg base k (He.fAd K ("Reader", some "need")) E.d_Reader_need ["self", "good"] (φReader_need (adK K)) := by
  obtain ⟨k, rfl⟩ : ∃ j, k = j + 2 := ⟨k - 2, by omega⟩
  exact d_Reader_need x (by omega) 
theorem p_Reader_run (x : Fx K mg E) (h : 6 ≤ k) : FnD P w K mg base k (He.fAd K ("Reader", some "run")) E.d_Reader_run ["self", "some", "least", "most"] (φReader_run (adK K)) := by
  obtain ⟨k, rfl⟩ : ∃ j, k = j + 2 := ⟨k - 2, by omega⟩
  exact d_Reader_run x (by omega) (p_Reader_here x (by omega)) (p_Reader_need x (by omega))
theorem p_Reader_pass_by (x : Fx K mg E) (h : 6 ≤ k) : FnD P w K mg base k (He.fAd K ("Reader", some "pass_by")) E.d_Reader_pass_by ["self", "sign"] (φReader_pass_by (adK K)) := by
  obtain ⟨k, rfl⟩ : ∃ j, k = j + 2 := ⟨k - 2, by omega⟩
  exact d_Reader_pass_by x (by omega) (p_Reader_here x (by omega)) (p_Reader_need x (by omega))
theorem p_Reader_number (x : Fx K mg E) (h : 7 ≤ k) : FnD P w K mg base k (He.fAd K ("Reader", some "number")) E.d_Reader_number ["self"] (φReader_number (adK K)) := by
  obtain ⟨k, rfl⟩ : ∃ j, k = j + 2 := ⟨k - 2, by omega⟩
  exact d_Reader_number x (by omega) (p_Reader_here x (by omega)) (p_Reader_run x (by omega))
theorem pg_Reader_step_Reader_row (x : Fx K mg E) : ∀ (n k : Nat), 8 + n ≤ k → FnD P w K mg base k (He.fAd K ("Reader", some "step")) E.d_Reader_step ["self", "deep"] (φn_Reader_step (adK K) n) ∧ FnD P w K mg base k (He.fAd K ("Reader", some "row")) E.d_Reader_row ["self", "deep"] (φn_Reader_row (adK K) n)
  | 0, k, h => ⟨FnD.stuck, FnD.stuck⟩
  | n + 1, k, h => by
    obtain ⟨k, rfl⟩ : ∃ j, k = j + 2 := ⟨k - 2, by omega⟩
    have ih := pg_Reader_step_Reader_row x n (k + 1) (by omega)
    exact ⟨d_Reader_step x (by omega) (p_Reader_here x (by omega)) (p_Reader_need x (by omega)) (p_Reader_run x (by omega)) (p_Reader_pass_by x (by omega)) ih.2 (p_Reader_number x (by omega)), d_Reader_row x (by omega) (p_Reader_here x (by omega)) ih.1⟩
theorem p_Reader_step (x : Fx K mg E) (h : 68 ≤ k) : FnD P w K mg base k (He.fAd K ("Reader", some "step")) E.d_Reader_step ["self", "deep"] (φReader_step (adK K)) := (pg_Reader_step_Reader_row x 60 k (by omega)).1
theorem p_Reader_row (x : Fx K mg E) (h : 68 ≤ k) : FnD P w K mg base k (He.fAd K ("Reader", some "row")) E.d_Reader_row ["self", "deep"] (φReader_row (adK K)) := (pg_Reader_step_Reader_row x 60 k (by omega)).2
theorem p_read_row (x : Fx K mg E) (h : 69 ≤ k) : FnD P w K mg base k (He.fAd K ("read_row", none)) E.d_read_row ["text"] (φread_row (adK K)) := by
  obtain ⟨k, rfl⟩ : ∃ j, k = j + 2 := ⟨k - 2, by omega⟩
  exact d_read_row x (by omega) (p_Reader_init x (by omega)) (p_Reader_row x (by omega)) (p_Reader_here x (by omega)) (p_Reader_need x (by omega))
theorem p_law (x : Fx K mg E) (h : 70 ≤ k) : FnOk P w K mg base (L2.CX P w) k (He.fAd K ("law", none)) E.d_law ["_law_script"] (spLaw K 4 (mlaw (adK K))) := by
  obtain ⟨k, rfl⟩ : ∃ j, k = j + 2 := ⟨k - 2, by omega⟩
  exact d_law x (by omega) (p_law_start x (by omega)) (p_law_of x (by omega)) (p_law_tree x (by omega)) (p_law_draw x (by omega)) (p_law_number x (by omega)) (p_law_text x (by omega)) (p_is_row x (by omega)) (p_row_text x (by omega)) (p_law_same x (by omega)) (p_read_row x (by omega))
end
end K27

/-! The head: facts by names, the run (printed by gen.py). -/
namespace K27
open PySem PySem.Spec L2 SL
open PyProof.Rows hiding St
def dd_law : He.DefD := ⟨("law", none), "law", "law", defArgs (top 39), defBody (top 39), defScope (top 39), [], []⟩
def dd_law_start : He.DefD := ⟨("_law_start", none), "_law_start", "_law_start", defArgs (top 29), defBody (top 29), defScope (top 29), [], []⟩
def dd_law_of : He.DefD := ⟨("_law_of", none), "_law_of", "_law_of", defArgs (top 31), defBody (top 31), defScope (top 31), [], []⟩
def dd_law_tree : He.DefD := ⟨("_law_tree", none), "_law_tree", "_law_tree", defArgs (top 37), defBody (top 37), defScope (top 37), [], []⟩
def dd_law_draw : He.DefD := ⟨("_law_draw", none), "_law_draw", "_law_draw", defArgs (top 30), defBody (top 30), defScope (top 30), [], []⟩
def dd_law_number : He.DefD := ⟨("_law_number", none), "_law_number", "_law_number", defArgs (top 35), defBody (top 35), defScope (top 35), [], []⟩
def dd_law_text : He.DefD := ⟨("_law_text", none), "_law_text", "_law_text", defArgs (top 38), defBody (top 38), defScope (top 38), [], []⟩
def dd_is_row : He.DefD := ⟨("is_row", none), "is_row", "is_row", defArgs (top 20), defBody (top 20), defScope (top 20), [], []⟩
def dd_row_text : He.DefD := ⟨("row_text", none), "row_text", "row_text", defArgs (top 24), defBody (top 24), defScope (top 24), [], []⟩
def dd_law_same : He.DefD := ⟨("_law_same", none), "_law_same", "_law_same", defArgs (top 28), defBody (top 28), defScope (top 28), [], []⟩
def dd_read_row : He.DefD := ⟨("read_row", none), "read_row", "read_row", defArgs (top 26), defBody (top 26), defScope (top 26), [], []⟩
def dd_law_name : He.DefD := ⟨("_law_name", none), "_law_name", "_law_name", defArgs (top 36), defBody (top 36), defScope (top 36), [], []⟩
def dd_law_letters : He.DefD := ⟨("_law_letters", none), "_law_letters", "_law_letters", defArgs (top 33), defBody (top 33), defScope (top 33), [], []⟩
def dd_law_sides : He.DefD := ⟨("_law_sides", none), "_law_sides", "_law_sides", defArgs (top 34), defBody (top 34), defScope (top 34), [], []⟩
def dd_law_mixed : He.DefD := ⟨("_law_mixed", none), "_law_mixed", "_law_mixed", defArgs (top 32), defBody (top 32), defScope (top 32), [], []⟩
def dd_is_built : He.DefD := ⟨("is_built", none), "is_built", "is_built", defArgs (top 17), defBody (top 17), defScope (top 17), [], []⟩
def dd_many_steps : He.DefD := ⟨("many_steps", none), "many_steps", "many_steps", defArgs (top 18), defBody (top 18), defScope (top 18), [], []⟩
def dd_deep_of : He.DefD := ⟨("deep_of", none), "deep_of", "deep_of", defArgs (top 19), defBody (top 19), defScope (top 19), [], []⟩
def dd_look_row : He.DefD := ⟨("look_row", none), "look_row", "look_row", defArgs (top 21), defBody (top 21), defScope (top 21), [], []⟩
def dd_told_text : He.DefD := ⟨("told_text", none), "told_text", "told_text", defArgs (top 23), defBody (top 23), defScope (top 23), [], []⟩
def dd_Reader_init : He.DefD := ⟨("Reader", some "__init__"), "__init__", "Reader.__init__", defArgs (clsDef (top 25) 0), defBody (clsDef (top 25) 0), defScope (clsDef (top 25) 0), [], []⟩
def dd_Reader_row : He.DefD := ⟨("Reader", some "row"), "row", "Reader.row", defArgs (clsDef (top 25) 7), defBody (clsDef (top 25) 7), defScope (clsDef (top 25) 7), [], []⟩
def dd_Reader_here : He.DefD := ⟨("Reader", some "here"), "here", "Reader.here", defArgs (clsDef (top 25) 1), defBody (clsDef (top 25) 1), defScope (clsDef (top 25) 1), [], []⟩
def dd_Reader_need : He.DefD := ⟨("Reader", some "need"), "need", "Reader.need", defArgs (clsDef (top 25) 2), defBody (clsDef (top 25) 2), defScope (clsDef (top 25) 2), [], []⟩
def dd_is_step : He.DefD := ⟨("is_step", none), "is_step", "is_step", defArgs (top 16), defBody (top 16), defScope (top 16), [], []⟩
def dd_step_text : He.DefD := ⟨("step_text", none), "step_text", "step_text", defArgs (top 22), defBody (top 22), defScope (top 22), [], []⟩
def dd_Reader_step : He.DefD := ⟨("Reader", some "step"), "step", "Reader.step", defArgs (clsDef (top 25) 6), defBody (clsDef (top 25) 6), defScope (clsDef (top 25) 6), [], []⟩
def dd_are_letters : He.DefD := ⟨("are_letters", none), "are_letters", "are_letters", defArgs (top 14), defBody (top 14), defScope (top 14), [], []⟩
def dd_is_name : He.DefD := ⟨("is_name", none), "is_name", "is_name", defArgs (top 13), defBody (top 13), defScope (top 13), [], []⟩
def dd_is_times : He.DefD := ⟨("is_times", none), "is_times", "is_times", defArgs (top 15), defBody (top 15), defScope (top 15), [], []⟩
def dd_Reader_run : He.DefD := ⟨("Reader", some "run"), "run", "Reader.run", defArgs (clsDef (top 25) 4), defBody (clsDef (top 25) 4), defScope (clsDef (top 25) 4), [], [("least", .int 0), ("most", .int 12)]⟩
def dd_Reader_pass_by : He.DefD := ⟨("Reader", some "pass_by"), "pass_by", "Reader.pass_by", defArgs (clsDef (top 25) 3), defBody (clsDef (top 25) 3), defScope (clsDef (top 25) 3), [], []⟩
def dd_Reader_number : He.DefD := ⟨("Reader", some "number"), "number", "Reader.number", defArgs (clsDef (top 25) 5), defBody (clsDef (top 25) 5), defScope (clsDef (top 25) 5), [], []⟩
def dd_HallError_init : He.DefD := ⟨("HallError", some "__init__"), "__init__", "HallError.__init__", defArgs (clsDef (top 1) 0), defBody (clsDef (top 1) 0), defScope (clsDef (top 1) 0), [], []⟩
def dd_BadText_init : He.DefD := ⟨("BadText", some "__init__"), "__init__", "BadText.__init__", defArgs (clsDef (top 2) 0), defBody (clsDef (top 2) 0), defScope (clsDef (top 2) 0), [], []⟩
def dd_BadTree_init : He.DefD := ⟨("BadTree", some "__init__"), "__init__", "BadTree.__init__", defArgs (clsDef (top 3) 0), defBody (clsDef (top 3) 0), defScope (clsDef (top 3) 0), [], []⟩
def fn : List He.DefD := [dd_law, dd_law_start, dd_law_of, dd_law_tree, dd_law_draw, dd_law_number, dd_law_text, dd_is_row, dd_row_text, dd_law_same, dd_read_row, dd_law_name, dd_law_letters, dd_law_sides, dd_law_mixed, dd_is_built, dd_many_steps, dd_deep_of, dd_look_row, dd_told_text, dd_Reader_init, dd_Reader_row, dd_Reader_here, dd_Reader_need, dd_is_step, dd_step_text, dd_Reader_step, dd_are_letters, dd_is_name, dd_is_times, dd_Reader_run, dd_Reader_pass_by, dd_Reader_number, dd_HallError_init, dd_BadText_init, dd_BadTree_init]
def fa : List He.Fa := [.glo "_law_start", .free "range", .glo "_law_of", .glo "_law_tree", .glo "_law_draw", .glo "_law_number", .glo "_law_text", .glo "is_row", .glo "row_text", .glo "_law_same", .glo "read_row", .free "list", .free "len", .glo "_law_name", .glo "_law_letters", .glo "_law_sides", .glo "_law_mixed", .free "tuple", .free "str", .free "int", .glo "is_built", .glo "many_steps", .int "MOST_STEPS" 60, .glo "deep_of", .int "MOST_DEEP" 12, .glo "look_row", .glo "told_text", .free "isinstance", .free "all", .free "bool", .mkr "Reader", .glo "Reader", .cls "Reader", .meth "Reader" "row", .meth "Reader" "here", .meth "Reader" "need", .glo "is_step", .free "sum", .free "max", .glo "BadTree", .glo "step_text", .noat "Reader" "signs", .noat "Reader" "now", .noat "Reader" "many", .meth "Reader" "step", .glo "BadText", .glo "are_letters", .glo "is_name", .glo "is_times", .str "LETTERS" "abcdefghijklmnopqrstuvwxyzABCDEFGHIJKLMNOPQRSTUVWXYZ", .meth "Reader" "run", .str "SMALL" "abcdefghijklmnopqrstuvwxyz", .int "MOST_NAME" 8, .meth "Reader" "pass_by", .meth "Reader" "number", .int "MOST_SIDES" 12, .int "MOST_TIMES" 1000000000000000000000000000000, .str "FIGURES" "0123456789", .free "ValueError", .glo "HallError", .glo "law"]
def ex (K : PySem.W.Frag) : Bool := (oexIB K (He.ga K "BadTree") (He.fAd K ("BadTree", some "__init__")) ["word"]) && ((oexIB K (He.ga K "BadText") (He.fAd K ("BadText", some "__init__")) ["at", "word"]) && ((veiB K) && ((crB K (He.ga K "HallError") (He.fAd K ("HallError", some "__init__"))) && (true))))
def loose0 : List Str := ["HallError", "BadText", "BadTree", "SMALL", "MOST_STEPS", "MOST_DEEP", "MOST_TIMES", "MOST_NAME", "MOST_SIDES", "LETTERS", "FIGURES", "is_name", "are_letters", "is_times", "is_step", "is_built", "many_steps", "deep_of", "is_row", "look_row", "step_text", "told_text", "row_text", "Reader"]
def loose1 : List Str := ["read_row", "_law_same", "_law_start", "_law_draw", "_law_of", "_law_mixed", "_law_letters", "_law_sides", "_law_number", "_law_name", "_law_tree", "_law_text"]
def loose : List Str := loose0 ++ loose1
abbrev R : PySem.W.OpenRow := PySem.W.OpenLaw.row PySem.Challenge.rw_nearcall_k27_rows_written_and_read
abbrev hk : PySem.W.Hook := hookY 5 [PySem.cStatics] fa fn ex
def ob (s : PySem.W.SharedT) : He.AlD × Bool := obsY 5 [PySem.cStatics] fa fn ex (HandSHeadRun.getT s)
theorem ob_eq (s : PySem.W.SharedT) : ob s = hk.obs s.abs := obsY_eq (HandSHeadRun.getT_eq s)
theorem run (w : World) : HandSHeadRun.RunEq R (PySem.W.view R.prog [39]) hk ob 4000 loose w := by
  intro os
  kernel_rfl
theorem fx_of {K : PySem.W.Frag} {h : Heap} {mg : Str → Option Value} (X : K.In h) (G : h.Ns mainGlobals mg) (c : SaysY fa fn ex K) : ∃ E, Fx K mg E := by
  have cd := c.d
  have r := c.more
  unfold ex at r
  obtain ⟨e0, r⟩ := Bool.and_eq_true_iff.mp r
  obtain ⟨e1, r⟩ := Bool.and_eq_true_iff.mp r
  obtain ⟨e2, r⟩ := Bool.and_eq_true_iff.mp r
  obtain ⟨e3, r⟩ := Bool.and_eq_true_iff.mp r
  obtain ⟨fd_0, F_law⟩ := cd.def_ 0 (d := dd_law) rfl
  obtain ⟨fd_1, F_law_start⟩ := cd.def_ 1 (d := dd_law_start) rfl
  obtain ⟨fd_2, F_law_of⟩ := cd.def_ 2 (d := dd_law_of) rfl
  obtain ⟨fd_3, F_law_tree⟩ := cd.def_ 3 (d := dd_law_tree) rfl
  obtain ⟨fd_4, F_law_draw⟩ := cd.def_ 4 (d := dd_law_draw) rfl
  obtain ⟨fd_5, F_law_number⟩ := cd.def_ 5 (d := dd_law_number) rfl
  obtain ⟨fd_6, F_law_text⟩ := cd.def_ 6 (d := dd_law_text) rfl
  obtain ⟨fd_7, F_is_row⟩ := cd.def_ 7 (d := dd_is_row) rfl
  obtain ⟨fd_8, F_row_text⟩ := cd.def_ 8 (d := dd_row_text) rfl
  obtain ⟨fd_9, F_law_same⟩ := cd.def_ 9 (d := dd_law_same) rfl
  obtain ⟨fd_10, F_read_row⟩ := cd.def_ 10 (d := dd_read_row) rfl
  obtain ⟨fd_11, F_law_name⟩ := cd.def_ 11 (d := dd_law_name) rfl
  obtain ⟨fd_12, F_law_letters⟩ := cd.def_ 12 (d := dd_law_letters) rfl
  obtain ⟨fd_13, F_law_sides⟩ := cd.def_ 13 (d := dd_law_sides) rfl
  obtain ⟨fd_14, F_law_mixed⟩ := cd.def_ 14 (d := dd_law_mixed) rfl
  obtain ⟨fd_15, F_is_built⟩ := cd.def_ 15 (d := dd_is_built) rfl
  obtain ⟨fd_16, F_many_steps⟩ := cd.def_ 16 (d := dd_many_steps) rfl
  obtain ⟨fd_17, F_deep_of⟩ := cd.def_ 17 (d := dd_deep_of) rfl
  obtain ⟨fd_18, F_look_row⟩ := cd.def_ 18 (d := dd_look_row) rfl
  obtain ⟨fd_19, F_told_text⟩ := cd.def_ 19 (d := dd_told_text) rfl
  obtain ⟨fd_20, F_Reader_init⟩ := cd.def_ 20 (d := dd_Reader_init) rfl
  obtain ⟨fd_21, F_Reader_row⟩ := cd.def_ 21 (d := dd_Reader_row) rfl
  obtain ⟨fd_22, F_Reader_here⟩ := cd.def_ 22 (d := dd_Reader_here) rfl
  obtain ⟨fd_23, F_Reader_need⟩ := cd.def_ 23 (d := dd_Reader_need) rfl
  obtain ⟨fd_24, F_is_step⟩ := cd.def_ 24 (d := dd_is_step) rfl
  obtain ⟨fd_25, F_step_text⟩ := cd.def_ 25 (d := dd_step_text) rfl
  obtain ⟨fd_26, F_Reader_step⟩ := cd.def_ 26 (d := dd_Reader_step) rfl
  obtain ⟨fd_27, F_are_letters⟩ := cd.def_ 27 (d := dd_are_letters) rfl
  obtain ⟨fd_28, F_is_name⟩ := cd.def_ 28 (d := dd_is_name) rfl
  obtain ⟨fd_29, F_is_times⟩ := cd.def_ 29 (d := dd_is_times) rfl
  obtain ⟨fd_30, F_Reader_run⟩ := cd.def_ 30 (d := dd_Reader_run) rfl
  obtain ⟨fd_31, F_Reader_pass_by⟩ := cd.def_ 31 (d := dd_Reader_pass_by) rfl
  obtain ⟨fd_32, F_Reader_number⟩ := cd.def_ 32 (d := dd_Reader_number) rfl
  obtain ⟨fd_33, F_HallError_init⟩ := cd.def_ 33 (d := dd_HallError_init) rfl
  obtain ⟨fd_34, F_BadText_init⟩ := cd.def_ 34 (d := dd_BadText_init) rfl
  obtain ⟨fd_35, F_BadTree_init⟩ := cd.def_ 35 (d := dd_BadTree_init) rfl
  exact ⟨⟨fd_0, fd_1, fd_2, fd_3, fd_4, fd_5, fd_6, fd_7, fd_8, fd_9, fd_10, fd_11, fd_12, fd_13, fd_14, fd_15, fd_16, fd_17, fd_18, fd_19, fd_20, fd_21, fd_22, fd_23, fd_24, fd_25, fd_26, fd_27, fd_28, fd_29, fd_30, fd_31, fd_32, fd_33, fd_34, fd_35⟩, {
    F_law := F_law
    F_law_start := F_law_start
    F_law_of := F_law_of
    F_law_tree := F_law_tree
    F_law_draw := F_law_draw
    F_law_number := F_law_number
    F_law_text := F_law_text
    F_is_row := F_is_row
    F_row_text := F_row_text
    F_law_same := F_law_same
    F_read_row := F_read_row
    F_law_name := F_law_name
    F_law_letters := F_law_letters
    F_law_sides := F_law_sides
    F_law_mixed := F_law_mixed
    F_is_built := F_is_built
    F_many_steps := F_many_steps
    F_deep_of := F_deep_of
    F_look_row := F_look_row
    F_told_text := F_told_text
    F_Reader_init := F_Reader_init
    F_Reader_row := F_Reader_row
    F_Reader_here := F_Reader_here
    F_Reader_need := F_Reader_need
    F_is_step := F_is_step
    F_step_text := F_step_text
    F_Reader_step := F_Reader_step
    F_are_letters := F_are_letters
    F_is_name := F_is_name
    F_is_times := F_is_times
    F_Reader_run := F_Reader_run
    F_Reader_pass_by := F_Reader_pass_by
    F_Reader_number := F_Reader_number
    F_HallError_init := F_HallError_init
    F_BadText_init := F_BadText_init
    F_BadTree_init := F_BadTree_init
    m_law_start := He.glo_ok X G (cd.fact 0 (f := .glo "_law_start") rfl)
    n_range := He.free_ok X G (cd.fact 1 (f := .free "range") rfl)
    m_law_of := He.glo_ok X G (cd.fact 2 (f := .glo "_law_of") rfl)
    m_law_tree := He.glo_ok X G (cd.fact 3 (f := .glo "_law_tree") rfl)
    m_law_draw := He.glo_ok X G (cd.fact 4 (f := .glo "_law_draw") rfl)
    m_law_number := He.glo_ok X G (cd.fact 5 (f := .glo "_law_number") rfl)
    m_law_text := He.glo_ok X G (cd.fact 6 (f := .glo "_law_text") rfl)
    m_is_row := He.glo_ok X G (cd.fact 7 (f := .glo "is_row") rfl)
    m_row_text := He.glo_ok X G (cd.fact 8 (f := .glo "row_text") rfl)
    m_law_same := He.glo_ok X G (cd.fact 9 (f := .glo "_law_same") rfl)
    m_read_row := He.glo_ok X G (cd.fact 10 (f := .glo "read_row") rfl)
    n_list := He.free_ok X G (cd.fact 11 (f := .free "list") rfl)
    n_len := He.free_ok X G (cd.fact 12 (f := .free "len") rfl)
    m_law_name := He.glo_ok X G (cd.fact 13 (f := .glo "_law_name") rfl)
    m_law_letters := He.glo_ok X G (cd.fact 14 (f := .glo "_law_letters") rfl)
    m_law_sides := He.glo_ok X G (cd.fact 15 (f := .glo "_law_sides") rfl)
    m_law_mixed := He.glo_ok X G (cd.fact 16 (f := .glo "_law_mixed") rfl)
    n_tuple := He.free_ok X G (cd.fact 17 (f := .free "tuple") rfl)
    n_str := He.free_ok X G (cd.fact 18 (f := .free "str") rfl)
    n_int := He.free_ok X G (cd.fact 19 (f := .free "int") rfl)
    m_is_built := He.glo_ok X G (cd.fact 20 (f := .glo "is_built") rfl)
    m_many_steps := He.glo_ok X G (cd.fact 21 (f := .glo "many_steps") rfl)
    i_MOST_STEPS := He.int_ok X G (cd.fact 22 (f := .int "MOST_STEPS" 60) rfl)
    m_deep_of := He.glo_ok X G (cd.fact 23 (f := .glo "deep_of") rfl)
    i_MOST_DEEP := He.int_ok X G (cd.fact 24 (f := .int "MOST_DEEP" 12) rfl)
    m_look_row := He.glo_ok X G (cd.fact 25 (f := .glo "look_row") rfl)
    m_told_text := He.glo_ok X G (cd.fact 26 (f := .glo "told_text") rfl)
    n_isinstance := He.free_ok X G (cd.fact 27 (f := .free "isinstance") rfl)
    n_all := He.free_ok X G (cd.fact 28 (f := .free "all") rfl)
    n_bool := He.free_ok X G (cd.fact 29 (f := .free "bool") rfl)
    k_Reader := He.mkr_ok (cd.fact 30 (f := .mkr "Reader") rfl)
    g_Reader := He.glo_ok X G (cd.fact 31 (f := .glo "Reader") rfl)
    c_Reader := He.cls_ok (cd.fact 32 (f := .cls "Reader") rfl)
    h_Reader_row := He.meth_ok (cd.fact 33 (f := .meth "Reader" "row") rfl)
    h_Reader_here := He.meth_ok (cd.fact 34 (f := .meth "Reader" "here") rfl)
    h_Reader_need := He.meth_ok (cd.fact 35 (f := .meth "Reader" "need") rfl)
    m_is_step := He.glo_ok X G (cd.fact 36 (f := .glo "is_step") rfl)
    n_sum := He.free_ok X G (cd.fact 37 (f := .free "sum") rfl)
    n_max := He.free_ok X G (cd.fact 38 (f := .free "max") rfl)
    g_BadTree := He.glo_ok X G (cd.fact 39 (f := .glo "BadTree") rfl)
    m_step_text := He.glo_ok X G (cd.fact 40 (f := .glo "step_text") rfl)
    a_Reader_signs := He.noat_ok (cd.fact 41 (f := .noat "Reader" "signs") rfl)
    a_Reader_now := He.noat_ok (cd.fact 42 (f := .noat "Reader" "now") rfl)
    a_Reader_many := He.noat_ok (cd.fact 43 (f := .noat "Reader" "many") rfl)
    h_Reader_step := He.meth_ok (cd.fact 44 (f := .meth "Reader" "step") rfl)
    g_BadText := He.glo_ok X G (cd.fact 45 (f := .glo "BadText") rfl)
    m_are_letters := He.glo_ok X G (cd.fact 46 (f := .glo "are_letters") rfl)
    m_is_name := He.glo_ok X G (cd.fact 47 (f := .glo "is_name") rfl)
    m_is_times := He.glo_ok X G (cd.fact 48 (f := .glo "is_times") rfl)
    s_LETTERS := He.str_ok X G (cd.fact 49 (f := .str "LETTERS" "abcdefghijklmnopqrstuvwxyzABCDEFGHIJKLMNOPQRSTUVWXYZ") rfl)
    h_Reader_run := He.meth_ok (cd.fact 50 (f := .meth "Reader" "run") rfl)
    s_SMALL := He.str_ok X G (cd.fact 51 (f := .str "SMALL" "abcdefghijklmnopqrstuvwxyz") rfl)
    i_MOST_NAME := He.int_ok X G (cd.fact 52 (f := .int "MOST_NAME" 8) rfl)
    h_Reader_pass_by := He.meth_ok (cd.fact 53 (f := .meth "Reader" "pass_by") rfl)
    h_Reader_number := He.meth_ok (cd.fact 54 (f := .meth "Reader" "number") rfl)
    i_MOST_SIDES := He.int_ok X G (cd.fact 55 (f := .int "MOST_SIDES" 12) rfl)
    i_MOST_TIMES := He.int_ok X G (cd.fact 56 (f := .int "MOST_TIMES" 1000000000000000000000000000000) rfl)
    s_FIGURES := He.str_ok X G (cd.fact 57 (f := .str "FIGURES" "0123456789") rfl)
    n_ValueError := He.free_ok X G (cd.fact 58 (f := .free "ValueError") rfl)
    g_HallError := He.glo_ok X G (cd.fact 59 (f := .glo "HallError") rfl)
    m_law := He.glo_ok X G (cd.fact 60 (f := .glo "law") rfl)
    o_BadTree := oexIB_ok e0 (bb_BadTree_init F_BadTree_init)
    o_BadText := oexIB_ok e1 (bb_BadText_init F_BadText_init)
    v_VE := veiB_ok e2
    r_HallError := crB_ok e3 }⟩
end K27

namespace K27
open PySem PySem.Spec L2 SL
def ch (l : List Nat) (p : Nat) : List Nat := (l.drop p).take 1
def runN (ok l : List Nat) : Nat → Nat → Nat
  | 0, p => p
  | k + 1, p => match l[p]? with
    | some c => if c ∈ ok then runN ok l k (p + 1) else p
    | none => p
def cutN (l : List Nat) (p e : Nat) : List Nat := (l.drop p).take (e - p)
abbrev Out := Nat × Option (List SL.D) × Int
def numV (ds : List Nat) : Int := (intText? ⟨ds.toArray⟩).getD 0
def pTimes (l : List Nat) (p : Nat) : Nat × Option Int :=
  if ch l p = [48] then (p + 1, some 0)
  else if runN s_FIGURES l 31 p = p then (p, none)
  else if 10 ^ 30 < numV (cutN l p (runN s_FIGURES l 31 p)) then (runN s_FIGURES l 31 p - 1, none)
  else (runN s_FIGURES l 31 p, some (numV (cutN l p (runN s_FIGURES l 31 p))))
def w_call : List Nat := [99, 97, 108, 108]
def w_turn : List Nat := [116, 117, 114, 110]
def w_row : List Nat := [114, 111, 119]
def w_times : List Nat := [116, 105, 109, 101, 115]
def w_steps : List Nat := [115, 116, 101, 112, 115]
def pStep (row : Nat → Int → Int → Out) (l : List Nat) (p : Nat) (m d : Int) : Out :=
  if ch l p = [46] ∧ m < 60 then (runN s_LETTERS l 12 (p + 1), some [.str w_call, .str (cutN l (p + 1) (runN s_LETTERS l 12 (p + 1)))], m + 1)
  else if ch l p = [126] ∧ m < 60 then (if runN s_LETTERS l 12 (p + 1) = p + 1 then (p + 1, none, m) else (runN s_LETTERS l 12 (p + 1), some [.str w_turn, .str (cutN l (p + 1) (runN s_LETTERS l 12 (p + 1)))], m + 1))
  else if ch l p = [60] ∧ m < 60 then (if runN s_SMALL l 8 (p + 1) = p + 1 ∨ ch l (runN s_SMALL l 8 (p + 1)) ≠ [62] then (runN s_SMALL l 8 (p + 1), none, m) else (runN s_SMALL l 8 (p + 1) + 1, some [.str w_row, .str (cutN l (p + 1) (runN s_SMALL l 8 (p + 1)))], m + 1))
  else if ch l p = [40] ∧ m < 60 ∧ d < 12 then (match row (p + 1) (m + 1) (d + 1) with
    | (e, none, m') => (e, none, m')
    | (e, some t, m') => if ch l e = [41] then (if ch l (e + 1) = [42] then (match pTimes l (e + 2) with
        | (e', none) => (e', none, m')
        | (e', some v) => (e', some [.str w_times, .int v, .tup t], m')) else (e + 1, none, m')) else (e, none, m'))
  else (p, none, m)
def pSteps (step : Nat → Int → Out) (l : List Nat) : Nat → Nat → Int → List SL.D → Out
  | 0, p, m, _ => (p, none, m)
  | k + 1, p, m, acc => match step p m with
    | (e, none, m') => (e, none, m')
    | (e, some t, m') => if ch l e = [32] then pSteps step l k (e + 1) m' (acc ++ [.tup t]) else (e, some [.str w_steps, .tup (acc ++ [.tup t])], m')
def pRow (l : List Nat) : Nat → Nat → Int → Int → Out
  | 0, p, m, _ => (p, none, m)
  | f + 1, p, m, d => if ch l p = [45] then (p + 1, some [.str w_steps, .tup []], m) else pSteps (fun p m => pStep (pRow l f) l p m d) l 62 p m []
def oD : Option (List SL.D) → SL.D
  | none => .non
  | some t => .tup t
/-! ### small facts -/
theorem ch_nil {l : List Nat} {p : Nat} (h : l[p]? = none) : ch l p = [] := by
  unfold ch
  rw [List.drop_of_length_le (List.getElem?_eq_none_iff.mp h)]
  rfl
theorem ch_some {l : List Nat} {p c : Nat} (h : l[p]? = some c) : ch l p = [c] := by
  obtain ⟨hl, e⟩ := List.getElem?_eq_some_iff.mp h
  unfold ch
  rw [List.drop_eq_getElem_cons hl, e]
  rfl
theorem ch_cut (l : List Nat) (p : Nat) : cutL l (some (p : Int)) (some ((p : Int) + 1)) = ch l p := by
  have := cut_nat l p (p + 1)
  rw [show ((p + 1 : Nat) : Int) = (p : Int) + 1 from rfl] at this
  rw [this]
  unfold ch
  congr 1
  omega
theorem run_ge (ok l : List Nat) : ∀ (k p : Nat), p ≤ runN ok l k p
  | 0, p => Nat.le_refl _
  | k + 1, p => by
    unfold runN
    split
    · split
      · exact Nat.le_trans (Nat.le_succ p) (run_ge ok l k (p + 1))
      · exact Nat.le_refl _
    · exact Nat.le_refl _
theorem run_le (ok l : List Nat) : ∀ (k p : Nat), runN ok l k p ≤ p + k
  | 0, p => Nat.le_refl _
  | k + 1, p => by
    unfold runN
    split
    · split
      · have := run_le ok l k (p + 1)
        omega
      · omega
    · omega
theorem run_len (ok l : List Nat) : ∀ (k p : Nat), p ≤ l.length → runN ok l k p ≤ l.length
  | 0, p, h => h
  | k + 1, p, h => by
    unfold runN
    split
    · rename_i c e
      have := (List.getElem?_eq_some_iff.mp e).1
      split
      · exact run_len ok l k (p + 1) this
      · exact h
    · exact h
theorem run_all (ok l : List Nat) : ∀ (k p i : Nat), p ≤ i → i < runN ok l k p → ∃ c, l[i]? = some c ∧ c ∈ ok
  | 0, p, i, h1, h2 => by simp only [runN] at h2; omega
  | k + 1, p, i, h1, h2 => by
    unfold runN at h2
    split at h2
    · rename_i c e
      split at h2
      · rename_i hc
        by_cases hi : i = p
        · subst hi
          exact ⟨c, e, hc⟩
        · exact run_all ok l k (p + 1) i (by omega) h2
      · omega
    · omega
theorem cut_all {ok l : List Nat} {k p c : Nat} (h : c ∈ cutN l p (runN ok l k p)) : c ∈ ok := by
  unfold cutN at h
  obtain ⟨j, hj, e⟩ := List.getElem_of_mem h
  have hj2 : j < runN ok l k p - p := by
    rw [List.length_take] at hj
    omega
  have e1 : ((l.drop p).take (runN ok l k p - p))[j]? = some c := by rw [List.getElem?_eq_getElem hj, e]
  rw [List.getElem?_take_of_lt hj2, List.getElem?_drop] at e1
  obtain ⟨c', e2, e3⟩ := run_all ok l k p (p + j) (by omega) (by omega)
  rw [e1] at e2
  cases e2
  exact e3
theorem cut_len {ok l : List Nat} {k p : Nat} (hp : p ≤ l.length) : (cutN l p (runN ok l k p)).length = runN ok l k p - p := by
  unfold cutN
  rw [List.length_take, List.length_drop]
  have := run_len ok l k p hp
  omega
/-- digits are a number -/
theorem num_some {l : List Nat} {p : Nat} (hp : p ≤ l.length) (hne : runN s_FIGURES l 31 p ≠ p) : intText? ⟨(cutN l p (runN s_FIGURES l 31 p)).toArray⟩ = some (numV (cutN l p (runN s_FIGURES l 31 p))) := by
  have hlen := cut_len (ok := s_FIGURES) (k := 31) hp
  have h1 := run_ge s_FIGURES l 31 p
  have h2 := run_le s_FIGURES l 31 p
  have hd : PySem.NumText.AllDigits (cutN l p (runN s_FIGURES l 31 p)) := by
    intro c hc
    have := cut_all hc
    simp only [s_FIGURES, List.mem_cons, List.not_mem_nil, or_false] at this
    omega
  have := intText_digits (x := ⟨(cutN l p (runN s_FIGURES l 31 p)).toArray⟩) (by simpa using hd) (by
    intro z
    have z' : (cutN l p (runN s_FIGURES l 31 p)) = [] := by simpa using z
    rw [z'] at hlen
    simp at hlen
    omega) (by
    rw [str_len]
    omega)
  rw [numV, this]
  rfl

theorem castS (p : Nat) : (p : Int) + 1 = ((p + 1 : Nat) : Int) := rfl
theorem while_step {nc : MB} {b : MS} {n : Nat} {δ δ2 : DEnv} {S S1 S2 : Store} {r : Flw} (h1 : nc δ S = .ok true S1) (h2 : b δ S1 = .nx δ2 S2) (h3 : whileN nc b n δ2 S2 = r) : whileN nc b (n + 1) δ S = r := by
  unfold whileN
  rw [h1]
  simp only [bindS_ok, if_true, h2]
  exact h3
theorem while_end {nc : MB} {b : MS} {n : Nat} {δ : DEnv} {S S1 : Store} (h1 : nc δ S = .ok false S1) : whileN nc b (n + 1) δ S = .nx δ S1 := by
  unfold whileN
  rw [h1]
  simp only [bindS_ok, Bool.false_eq_true, if_false]
noncomputable def runC : MB := andB (cmpB ltG (vM 4) (callG lenG (consM (vM 0) nilM))) (andB (cmpB ltG (op2M subG (vM 4) (vM 1)) (vM 3)) (cmpB inG (op2M ixG (vM 0) (vM 4)) (vM 2)))
noncomputable def runB : MS := asgM 4 (op2M addG (vM 4) (cM (.int 1)))
theorem run_while {l ok : List Nat} {p k : Nat} {S : Store} (hl : l.length ≤ 1000000) : ∀ (j e : Nat), p ≤ e → e - p + j = k →
    whileN runC runB (j + 1) [some (.str l), some (.int p), some (.str ok), some (.int k), some (.int e)] S = .nx [some (.str l), some (.int p), some (.str ok), some (.int k), some (.int (runN ok l j e))] S := by
  intro j
  induction j with
  | zero =>
    intro e h1 h2
    refine while_end ?_
    have hlen : lenG S [.str l] = some (.int l.length) := gLenS hl
    by_cases he : (e : Int) < l.length
    · have hk : ¬ ((e : Int) - p < k) := by omega
      simp only [runC, andB, cmpB, callG, consM, nilM, op2M, vM, hlen, gLtI, gSubI, asB, bind_ok, RO_some, he, hk, decide_true, decide_false, if_true, Bool.false_eq_true, if_false, List.getElem?_cons_zero, List.getElem?_cons_succ]
    · simp only [runC, andB, cmpB, callG, consM, nilM, op2M, vM, hlen, gLtI, gSubI, asB, bind_ok, RO_some, he, decide_true, decide_false, if_true, Bool.false_eq_true, if_false, List.getElem?_cons_zero, List.getElem?_cons_succ]
  | succ j ih =>
    intro e h1 h2
    have hlen : lenG S [.str l] = some (.int l.length) := gLenS hl
    unfold runN
    cases ec : l[e]? with
    | none =>
      have he : ¬ ((e : Int) < l.length) := by have := List.getElem?_eq_none_iff.mp ec; omega
      refine while_end ?_
      simp only [runC, andB, cmpB, callG, consM, nilM, op2M, vM, hlen, gLtI, gSubI, asB, bind_ok, RO_some, he, decide_true, decide_false, if_true, Bool.false_eq_true, if_false, List.getElem?_cons_zero, List.getElem?_cons_succ]
    | some c =>
      have he : ((e : Int) < l.length) := by have := (List.getElem?_eq_some_iff.mp ec).1; omega
      have hk : ((e : Int) - p < k) := by omega
      have hix := gIxS (S := S) hl ec
      by_cases hc : c ∈ ok
      · simp only [hc, if_true]
        refine while_step (S1 := S) (S2 := S) ?_ ?_ (ih (e + 1) (by omega) (by omega))
        · simp only [runC, andB, cmpB, callG, consM, nilM, op2M, vM, hlen, hix, gLtI, gSubI, gInC, asB, bind_ok, RO_some, he, hk, hc, decide_true, if_true, List.getElem?_cons_zero, List.getElem?_cons_succ]
        · rfl
      · simp only [hc, if_false]
        refine while_end ?_
        simp only [runC, andB, cmpB, callG, consM, nilM, op2M, vM, hlen, hix, gLtI, gSubI, gInC, asB, bind_ok, RO_some, he, hk, hc, decide_true, decide_false, if_true, List.getElem?_cons_zero, List.getElem?_cons_succ]
/-! ### _law_times_at -/
def tOut : Nat × Option Int → SL.D
  | (e, some v) => .tup [.int e, .int v, .bl true]
  | (e, none) => .tup [.int e, .int 0, .bl false]
theorem gSl {S : Store} {l : List Nat} {p : Nat} (hl : l.length ≤ 1000000) : slG S (.str l) (some (p : Int)) (some ((p : Int) + 1)) = some (.str (ch l p)) := by
  rw [gSlS hl, ch_cut]
theorem gSl2 {S : Store} {l : List Nat} {p e : Nat} (hl : l.length ≤ 1000000) : slG S (.str l) (some (p : Int)) (some (e : Int)) = some (.str (cutN l p e)) := by
  rw [gSlS hl, cut_nat]
  rfl
theorem beq_str (x y : List Nat) : ((⟨x.toArray⟩ : Str) == ⟨y.toArray⟩) = decide (x = y) := by
  by_cases h : x = y
  · subst h
    simp
  · rw [decide_eq_false h]
    refine beq_eq_false_iff_ne.mpr fun z => h (str_inj.mp z)
theorem gNin4 {S : Store} {a x1 x2 x3 x4 : List Nat} : ninG S (.str a) (.tup [.str x1, .str x2, .str x3, .str x4]) = some (.bl (!(decide (x1 = a) || (decide (x2 = a) || (decide (x3 = a) || (decide (x4 = a) || false)))))) := by
  rw [← beq_str, ← beq_str, ← beq_str, ← beq_str]
  rfl
def rOut (o : Out) : SL.D := .tup [.int o.1, oD o.2.1, .int o.2.2]
def oOk (n : Nat) (o : Out) : Prop := ∀ t, o.2.1 = some t → pl n (.tup t)
theorem rOut_cl {n : Nat} {o : Out} (h : oOk n o) : okD 0 (rOut o) = true := by
  obtain ⟨e, t, m⟩ := o
  cases t with
  | none => rfl
  | some t =>
    have := pl_cl (h t rfl)
    simp [rOut, oD, okD, okL]
    simpa [okD] using this
theorem pStep_ok {n : Nat} {row : Nat → Int → Int → Out} {l : List Nat} {p : Nat} {m d : Int} (h : ∀ p m d, oOk (n + 1) (row p m d)) : oOk (n + 2) (pStep row l p m d) := by
  have s2 : ∀ a b : List Nat, pl (n + 2) (.tup [.str a, .str b]) := fun a b => ⟨by simp, fun d hd => by
    simp only [List.mem_cons, List.not_mem_nil, or_false] at hd
    rcases hd with rfl | rfl <;> trivial⟩
  unfold pStep
  intro t ht
  split at ht
  · cases ht; exact s2 _ _
  · split at ht
    · split at ht
      · cases ht
      · cases ht; exact s2 _ _
    · split at ht
      · split at ht
        · cases ht
        · cases ht; exact s2 _ _
      · split at ht
        · split at ht
          · cases ht
          · rename_i e t' m' er
            split at ht
            · split at ht
              · split at ht
                · cases ht
                · cases ht
                  have := h (p + 1) (m + 1) (d + 1) t' (by rw [er])
                  refine ⟨by simp, fun d hd => ?_⟩
                  simp only [List.mem_cons, List.not_mem_nil, or_false] at hd
                  rcases hd with rfl | rfl | rfl
                  · trivial
                  · trivial
                  · exact this
              · cases ht
            · cases ht
        · cases ht
theorem pSteps_ok {n : Nat} {step : Nat → Int → Out} {l : List Nat} (h : ∀ p m, oOk (n + 2) (step p m)) : ∀ (k p : Nat) (m : Int) (acc : List SL.D), acc.length + k ≤ 1000 → (∀ x ∈ acc, pl (n + 2) x) → oOk (n + 4) (pSteps step l k p m acc)
  | 0, p, m, acc, _, _ => fun t ht => by cases ht
  | k + 1, p, m, acc, hl, ha => fun t ht => by
    unfold pSteps at ht
    split at ht
    · cases ht
    · rename_i e t' m' es
      have h1 := h p m t' (by rw [es])
      have ha2 : ∀ x ∈ acc ++ [D.tup t'], pl (n + 2) x := fun x hx => by
        rcases List.mem_append.mp hx with hx | hx
        · exact ha x hx
        · rw [List.mem_singleton.mp hx]; exact h1
      split at ht
      · exact pSteps_ok h k _ _ _ (by simp; omega) ha2 t ht
      · cases ht
        refine ⟨by simp, fun d hd => ?_⟩
        simp only [List.mem_cons, List.not_mem_nil, or_false] at hd
        rcases hd with rfl | rfl
        · trivial
        · exact ⟨by simp; omega, ha2⟩
theorem pRow_ok {l : List Nat} : ∀ (f p : Nat) (m d : Int), oOk (3 * f + 1) (pRow l f p m d)
  | 0, p, m, d => fun t ht => by cases ht
  | f + 1, p, m, d => fun t ht => by
    unfold pRow at ht
    split at ht
    · cases ht
      refine pl_up (n := 3) ?_ _ (by omega)
      refine ⟨by simp, fun d hd => ?_⟩
      simp only [List.mem_cons, List.not_mem_nil, or_false] at hd
      rcases hd with rfl | rfl
      · trivial
      · exact ⟨by simp, fun d hd => by cases hd⟩
    · have := pSteps_ok (n := 3 * f) (l := l) (step := fun p m => pStep (pRow l f) l p m d) (fun p m => pStep_ok fun p m d => pRow_ok f p m d) 62 p m [] (by simp) (fun x hx => by cases hx) t ht
      rwa [show 3 * (f + 1) + 1 = 3 * f + 4 by omega]
/-! ### the step -/
noncomputable def forB : MS := ifSM (andB (cmpB isntG (vM 7) (cM .non)) (cmpB eqG (slM (vM 0) (soO (vM 6)) (soO (op2M addG (vM 6) (cM (.int 1))))) (vM 8))) (asgM 6 (op2M addG (vM 6) (cM (.int 1)))) (retM (callG tupG (consM (vM 6) (consM (cM .non) (consM (vM 2) nilM)))))
noncomputable def tailS (φrow φtimes : Fn) : MS := (seqM (asgT (.tp [(.nm 6), (.nm 7), (.nm 2)]) (appM 4 φrow (consM (vM 0) (consM (op2M addG (vM 1) (cM (.int 1))) (consM (op2M addG (vM 2) (cM (.int 1))) (consM (op2M addG (vM 3) (cM (.int 1))) nilM)))) []))
  (seqM (SL.forM (srcV (cM (.str [41, 42]))) (.nm 8) forB)
  (seqM (asgT (.tp [(.nm 6), (.nm 9), (.nm 10)]) (appM 2 φtimes (consM (vM 0) (consM (vM 6) nilM)) []))
  (retM (callG tupG (consM (vM 6) (consM (ifM (trM (vM 10)) (callG tupG (consM (cM (.str [116, 105, 109, 101, 115])) (consM (vM 9) (consM (vM 7) nilM)))) (cM .non)) (consM (vM 2) nilM))))))))
noncomputable def headS (φl φr : Fn) (t : MS) : MS := (seqM (asgM 4 (op2M addG (appM 0 φl nilM []) (mtS upperG (appM 0 φl nilM []) nilM)))
  (seqM (asgM 5 (slM (vM 0) (soO (vM 1)) (soO (op2M addG (vM 1) (cM (.int 1))))))
  (seqM (ifSM (orB (cmpB ninG (vM 5) (callG tupG (consM (cM (.str [46])) (consM (cM (.str [126])) (consM (cM (.str [60])) (consM (cM (.str [40])) nilM)))))) (orB (cmpB geG (vM 2) (cM (.int 60))) (andB (cmpB eqG (vM 5) (cM (.str [40]))) (cmpB geG (vM 3) (cM (.int 12)))))) (retM (callG tupG (consM (vM 1) (consM (cM .non) (consM (vM 2) nilM))))) nxM)
  (seqM (ifSM (orB (cmpB eqG (vM 5) (cM (.str [46]))) (cmpB eqG (vM 5) (cM (.str [126])))) (seqM (asgM 6 (appM 4 φr (consM (vM 0) (consM (op2M addG (vM 1) (cM (.int 1))) (consM (vM 4) (consM (cM (.int 12)) nilM)))) []))
  (seqM (ifSM (andB (cmpB eqG (vM 5) (cM (.str [126]))) (cmpB eqG (vM 6) (op2M addG (vM 1) (cM (.int 1))))) (retM (callG tupG (consM (vM 6) (consM (cM .non) (consM (vM 2) nilM))))) nxM)
  (retM (callG tupG (consM (vM 6) (consM (callG tupG (consM (op2M ixG (callG lstG (consM (cM (.str [99, 97, 108, 108])) (consM (cM (.str [116, 117, 114, 110])) nilM))) (callG intG (consM (op2M eqG (vM 5) (cM (.str [126]))) nilM))) (consM (slM (vM 0) (soO (op2M addG (vM 1) (cM (.int 1)))) (soO (vM 6))) nilM))) (consM (op2M addG (vM 2) (cM (.int 1))) nilM))))))) nxM)
  (seqM (ifSM (cmpB eqG (vM 5) (cM (.str [60]))) (seqM (asgM 6 (appM 4 φr (consM (vM 0) (consM (op2M addG (vM 1) (cM (.int 1))) (consM (appM 0 φl nilM []) (consM (cM (.int 8)) nilM)))) []))
  (seqM (ifSM (orB (cmpB eqG (vM 6) (op2M addG (vM 1) (cM (.int 1)))) (cmpB neG (slM (vM 0) (soO (vM 6)) (soO (op2M addG (vM 6) (cM (.int 1))))) (cM (.str [62])))) (retM (callG tupG (consM (vM 6) (consM (cM .non) (consM (vM 2) nilM))))) nxM)
  (retM (callG tupG (consM (op2M addG (vM 6) (cM (.int 1))) (consM (callG tupG (consM (cM (.str [114, 111, 119])) (consM (slM (vM 0) (soO (op2M addG (vM 1) (cM (.int 1)))) (soO (vM 6))) nilM))) (consM (op2M addG (vM 2) (cM (.int 1))) nilM))))))) nxM)
  t)))))
theorem ch_at {l : List Nat} {p c : Nat} (h : ch l p = [c]) : p < l.length := by
  cases e : l[p]? with
  | none => rw [ch_nil e] at h; cases h
  | some _ => exact (List.getElem?_eq_some_iff.mp e).1
theorem lets_up : ∀ S : Store, addG S (.str s_SMALL) (.str (s_SMALL.map upL)) = some (.str s_LETTERS) := fun S => rfl
theorem upper_ok {S : Store} : upperG S (.str s_SMALL) [] = some (.str (s_SMALL.map upL)) := rfl
def pTail (o : Out) (l : List Nat) : Out := match o with
    | (e, none, m') => (e, none, m')
    | (e, some t, m') => if ch l e = [41] then (if ch l (e + 1) = [42] then (match pTimes l (e + 2) with
        | (e', none) => (e', none, m')
        | (e', some v) => (e', some [.str w_times, .int v, .tup t], m')) else (e + 1, none, m')) else (e, none, m')
noncomputable def rowB (φstep : Fn) : MS := (seqM (asgT (.tp [(.nm 1), (.nm 6), (.nm 2)]) (appM 4 φstep (consM (vM 0) (consM (vM 1) (consM (vM 2) (consM (vM 3) nilM)))) []))
  (seqM (ifSM (cmpB isG (vM 6) (cM .non)) (retM (callG tupG (consM (vM 1) (consM (cM .non) (consM (vM 2) nilM))))) nxM)
  (seqM (exprM (lmM appendG (vM 4) (consM (vM 6) nilM)))
  (seqM (ifSM (cmpB neG (slM (vM 0) (soO (vM 1)) (soO (op2M addG (vM 1) (cM (.int 1))))) (cM (.str [32]))) (retM (callG tupG (consM (vM 1) (consM (callG tupG (consM (cM (.str [115, 116, 101, 112, 115])) (consM (callG tupleG (consM (vM 4) nilM)) nilM))) (consM (vM 2) nilM))))) nxM)
  (asgM 1 (op2M addG (vM 1) (cM (.int 1))))))))
noncomputable def rowE : MS := retM (callG tupG (consM (vM 1) (consM (cM .non) (consM (vM 2) nilM))))
noncomputable def rowH (t : MS) : MS := (seqM (ifSM (cmpB eqG (slM (vM 0) (soO (vM 1)) (soO (op2M addG (vM 1) (cM (.int 1))))) (cM (.str [45]))) (retM (callG tupG (consM (op2M addG (vM 1) (cM (.int 1))) (consM (callG tupG (consM (cM (.str [115, 116, 101, 112, 115])) (consM (callG tupG nilM) nilM))) (consM (vM 2) nilM))))) nxM)
  (seqM (asgM 4 (lstLM nilM)) t))
theorem loc_at (S : Store) (acc : List SL.D) : (S ++ [Cell.lst acc])[S.length]? = some (.lst acc) := by simp
theorem set_at (S : Store) (acc acc' : List SL.D) : (S ++ [Cell.lst acc]).set S.length (.lst acc') = S ++ [Cell.lst acc'] := by
  rw [List.set_append_right _ _ (Nat.le_refl _)]
  simp
abbrev rng62 : List SL.D := (List.range 62).map fun (i : Nat) => SL.D.int (0 + (i : Int) * 1)
theorem row_loop {φstep : Fn} {step : Nat → Int → Out} {l : List Nat} {d : Int} {S : Store} (hl : l.length ≤ 1000000)
    (hstep : ∀ p m S, p ≤ l.length → φstep [.str l, .int (p : Nat), .int m, .int d] S = .ok (rOut (step p m)) S) : ∀ (r : List SL.D) (p : Nat) (m : Int) (acc : List SL.D) (x5 x6 : Option SL.D), p ≤ l.length → acc.length + r.length ≤ 62 →
    ∃ acc', (match forL (.rng 0 1 62) (.nm 5) (rowB φstep) rng62 r [some (.str l), some (.int p), some (.int m), some (.int d), some (.loc S.length), x5, x6] (S ++ [.lst acc]) with
      | .nx δ' S' => rowE δ' S'
      | o => o) = .rt (rOut (pSteps step l r.length p m acc)) (S ++ [.lst acc']) := by
  have hit : ∀ S : Store, items S (.rng 0 1 62) = some rng62 := fun S => rfl
  have t3 : ∀ (S : Store) (a b c : SL.D), tupG S [a, b, c] = some (.tup [a, b, c]) := fun S a b c => rfl
  have t2 : ∀ (S : Store) (a b : SL.D), tupG S [a, b] = some (.tup [a, b]) := fun S a b => rfl
  intro r
  induction r with
  | nil =>
    intro p m acc x5 x6 hp ha
    refine ⟨acc, ?_⟩
    rw [forL_nil (hit _)]
    rfl
  | cons x r ih =>
    intro p m acc x5 x6 hp ha
    have ha' : acc.length + 1 + r.length ≤ 62 := by simp at ha; omega
    have hs := hstep p m (S ++ [.lst acc]) hp
    have h1 : asgT (.tp [(.nm 1), (.nm 6), (.nm 2)]) (appM 4 φstep (consM (vM 0) (consM (vM 1) (consM (vM 2) (consM (vM 3) nilM)))) []) [some (.str l), some (.int p), some (.int m), some (.int d), some (.loc S.length), some x, x6] (S ++ [.lst acc]) =
        .nx [some (.str l), some (.int (step p m).1), some (.int (step p m).2.2), some (.int d), some (.loc S.length), some x, some (oD (step p m).2.1)] (S ++ [.lst acc]) := by
      refine asgT_ok (d := rOut (step p m)) ?_ rfl
      simp only [appM, consM, nilM, vM, bind_ok, List.append_nil, List.length_cons, List.length_nil, Nat.reduceAdd, if_true, List.getElem?_cons_zero, List.getElem?_cons_succ, hs]
    show ∃ acc', _ = Flw.rt (rOut (pSteps step l (r.length + 1) p m acc)) (S ++ [.lst acc'])
    unfold pSteps
    generalize step p m = o at h1 ⊢
    obtain ⟨e, t, m'⟩ := o
    cases t with
    | none =>
      refine ⟨acc, ?_⟩
      have hb : rowB φstep [some (.str l), some (.int p), some (.int m), some (.int d), some (.loc S.length), some x, x6] (S ++ [.lst acc]) = .rt (rOut (e, none, m')) (S ++ [.lst acc]) := by
        unfold rowB
        rw [seq_nx h1]
        refine seq_rt ?_
        rw [if_t (S1 := S ++ [.lst acc]) rfl]
        rfl
      rw [forL_rt (hit _) rfl hb]
    | some t =>
      have h2 : (lmM appendG (vM 4) (consM (vM 6) nilM)) [some (.str l), some (.int e), some (.int m'), some (.int d), some (.loc S.length), some x, some (.tup t)] (S ++ [.lst acc]) = .ok .non (S ++ [.lst (acc ++ [.tup t])]) := by
        have e1 : locL (S ++ [.lst acc]) (.loc S.length) = some (S.length, acc) := by
          show (match (S ++ [Cell.lst acc])[S.length]? with | some (.lst ds) => some (S.length, ds) | _ => none) = _
          rw [loc_at]
        have e2 : appendG acc [.tup t] = some (.non, acc ++ [.tup t]) := if_pos (by omega)
        simp only [lmM, consM, nilM, vM, bind_ok, e1, e2, set_at, List.getElem?_cons_zero, List.getElem?_cons_succ]
      have hsl : slG (S ++ [.lst (acc ++ [.tup t])]) (.str l) (some (e : Int)) (some ((e : Int) + 1)) = some (.str (ch l e)) := gSl hl
      have htp : tupleG (S ++ [.lst (acc ++ [.tup t])]) [.loc S.length] = some (.tup (acc ++ [.tup t])) := by
        show (match (match (S ++ [Cell.lst (acc ++ [.tup t])])[S.length]? with | some (.lst ds) => some ds | _ => none) with | some ds => some (SL.D.tup ds) | none => none) = _
        rw [loc_at]
      have hb : rowB φstep [some (.str l), some (.int p), some (.int m), some (.int d), some (.loc S.length), some x, x6] (S ++ [.lst acc]) =
          if ch l e = [32] then .nx [some (.str l), some (.int ((e + 1 : Nat) : Int)), some (.int m'), some (.int d), some (.loc S.length), some x, some (.tup t)] (S ++ [.lst (acc ++ [.tup t])])
          else .rt (rOut (e, some [.str w_steps, .tup (acc ++ [.tup t])], m')) (S ++ [.lst (acc ++ [.tup t])]) := by
        unfold rowB
        rw [seq_nx h1]
        have h3 : ifSM (cmpB isG (vM 6) (cM .non)) (retM (callG tupG (consM (vM 1) (consM (cM .non) (consM (vM 2) nilM))))) nxM [some (.str l), some (.int e), some (.int m'), some (.int d), some (.loc S.length), some x, some (.tup t)] (S ++ [.lst acc]) = .nx [some (.str l), some (.int e), some (.int m'), some (.int d), some (.loc S.length), some x, some (.tup t)] (S ++ [.lst acc]) := by
          rw [if_f (S1 := S ++ [.lst acc]) rfl]
          rfl
        have h3' : ifSM (cmpB isG (vM 6) (cM .non)) (retM (callG tupG (consM (vM 1) (consM (cM .non) (consM (vM 2) nilM))))) nxM [some (.str l), some (.int (e, some t, m').1), some (.int (e, some t, m').2.2), some (.int d), some (.loc S.length), some x, some (oD (e, some t, m').2.1)] (S ++ [.lst acc]) = .nx [some (.str l), some (.int e), some (.int m'), some (.int d), some (.loc S.length), some x, some (.tup t)] (S ++ [.lst acc]) := h3
        rw [seq_nx h3', seq_nx (expr_ok h2)]
        by_cases k : ch l e = [32]
        · rw [if_pos k]
          have hk : (cmpB neG (slM (vM 0) (soO (vM 1)) (soO (op2M addG (vM 1) (cM (.int 1))))) (cM (.str [32]))) [some (.str l), some (.int e), some (.int m'), some (.int d), some (.loc S.length), some x, some (.tup t)] (S ++ [.lst (acc ++ [.tup t])]) = .ok false (S ++ [.lst (acc ++ [.tup t])]) := by
            simp only [cmpB, slM, soO, asI, op2M, vM, cM, gAddI, hsl, gNeS, k, asB, bind_ok, RO_some, decide_true, Bool.not_true, List.getElem?_cons_zero, List.getElem?_cons_succ]
          rw [seq_nx (if_fnx hk)]
          rfl
        · rw [if_neg k]
          have hk : (cmpB neG (slM (vM 0) (soO (vM 1)) (soO (op2M addG (vM 1) (cM (.int 1))))) (cM (.str [32]))) [some (.str l), some (.int e), some (.int m'), some (.int d), some (.loc S.length), some x, some (.tup t)] (S ++ [.lst (acc ++ [.tup t])]) = .ok true (S ++ [.lst (acc ++ [.tup t])]) := by
            simp only [cmpB, slM, soO, asI, op2M, vM, cM, gAddI, hsl, gNeS, k, asB, bind_ok, RO_some, decide_false, Bool.not_false, List.getElem?_cons_zero, List.getElem?_cons_succ]
          refine seq_rt ((if_t hk).trans (ret_ok ?_))
          simp only [callG, consM, nilM, vM, cM, bind_ok, RO_some, htp, t2, t3, List.getElem?_cons_zero, List.getElem?_cons_succ]
          rfl
      by_cases k : ch l e = [32]
      · rw [if_pos k] at hb
        obtain ⟨acc', hi⟩ := ih (e + 1) m' (acc ++ [.tup t]) (some x) (some (.tup t)) (ch_at k) (by simp; omega)
        refine ⟨acc', ?_⟩
        rw [forL_nx (hit _) rfl hb, hi]
        simp only [k, if_true]
      · rw [if_neg k] at hb
        refine ⟨acc ++ [.tup t], ?_⟩
        rw [forL_rt (hit _) rfl hb]
        simp only [k, if_false]
section
variable {A : Ad} {l : List Nat} {p : Nat} {m : Int} {S : Store} {r : Nat}
def rd (A : Ad) (l : List Nat) (p : Nat) (m : Int) : Cell := .obj A.Reader ["signs", "now", "many"] [.str l, .int p, .int m]
def bad (A : Ad) (p : Nat) : Ex := ⟨A.BadText, ["at", "word"], [.int p, .str [98, 97, 100, 116, 101, 120, 116]]⟩
theorem lk_signs {a b c : SL.D} : lookS ["signs", "now", "many"] [a, b, c] "signs" = some a := rfl
theorem lk_now {a b c : SL.D} : lookS ["signs", "now", "many"] [a, b, c] "now" = some b := rfl
theorem lk_many {a b c : SL.D} : lookS ["signs", "now", "many"] [a, b, c] "many" = some c := rfl
theorem pt_now {a b c z : SL.D} : putS ["signs", "now", "many"] [a, b, c] "now" z = ((["signs", "now", "many"] : List Str), [a, z, c]) := rfl
theorem pt_many {a b c z : SL.D} : putS ["signs", "now", "many"] [a, b, c] "many" z = ((["signs", "now", "many"] : List Str), [a, b, z]) := rfl
theorem f_signs {δ : DEnv} (h : vM 0 δ S = .ok (.loc r) S) (hS : S[r]? = some (rd A l p m)) : fldM A.Reader "signs" (vM 0) δ S = .ok (.str l) S := fld_ok h hS lk_signs
theorem f_now {δ : DEnv} (h : vM 0 δ S = .ok (.loc r) S) (hS : S[r]? = some (rd A l p m)) : fldM A.Reader "now" (vM 0) δ S = .ok (.int p) S := fld_ok h hS lk_now
theorem f_many {δ : DEnv} (h : vM 0 δ S = .ok (.loc r) S) (hS : S[r]? = some (rd A l p m)) : fldM A.Reader "many" (vM 0) δ S = .ok (.int m) S := fld_ok h hS lk_many
theorem a_now {δ : DEnv} (h : vM 0 δ S = .ok (.loc r) S) (hS : S[r]? = some (rd A l p m)) : fldaugM A.Reader "now" addI (vM 0) (cM (.int 1)) δ S = .nx δ (S.set r (rd A l (p + 1) m)) := fldaug_ok h hS lk_now rfl hS (by decide) (z := .int ((p + 1 : Nat) : Int)) rfl
theorem a_many {δ : DEnv} (h : vM 0 δ S = .ok (.loc r) S) (hS : S[r]? = some (rd A l p m)) : fldaugM A.Reader "many" addI (vM 0) (cM (.int 1)) δ S = .nx δ (S.set r (rd A l p (m + 1))) := fldaug_ok h hS lk_many rfl hS (by decide) (z := .int (m + 1)) rfl
theorem rd_ok (h : S[r]? = some (rd A l p m)) {p' : Nat} {m' : Int} : (S.set r (rd A l p' m'))[r]? = some (rd A l p' m') := set_get (get_lt h)
theorem rd_cl {A : Ad} {l : List Nat} {p : Nat} {m : Int} : okC 0 (rd A l p m) = true := rfl
theorem rd_set {p' : Nat} {m' : Int} : Settles S (S.set r (rd A l p' m')) := Settles.set rd_cl
theorem rt_set {p' : Nat} {m' : Int} {d : SL.D} (h : okD 0 d = true) : finD S (.rt d (S.set r (rd A l p' m'))) = .ok d (S.set r (rd A l p' m')) := fin_cl h (by simp)
theorem nx_set {p' : Nat} {m' : Int} {δ : DEnv} : finD S (.nx δ (S.set r (rd A l p' m'))) = .ok .non (S.set r (rd A l p' m')) := fin_cl (d := .non) rfl (by simp)
theorem ex_set {p' q : Nat} {m' : Int} {δ : DEnv} : finD S (.exc (bad A q) δ (S.set r (rd A l p' m'))) = .exc (bad A q) (S.set r (rd A l p' m')) := by
  have := finX_cut (S := S) (S' := S.set r (rd A l p' m')) (t := []) (x := bad A q) rfl (by simp) rd_set
  rw [List.append_nil] at this
  exact this
theorem here_ok (hl : l.length ≤ 1000000) (hS : S[r]? = some (rd A l p m)) : φReader_here A [.loc r] S = .ok (.str (ch l p)) S := by
  show finD S (m_Reader_here A [some (.loc r)] S) = _
  have h0 : vM 0 [some (.loc r)] S = .ok (.loc r) S := rfl
  have hsl := gSl (S := S) (p := p) hl
  have : m_Reader_here A [some (.loc r)] S = .rt (.str (ch l p)) S := by
    unfold m_Reader_here
    refine ret_ok ?_
    simp only [slM, soO, op2M, f_signs h0 hS, f_now h0 hS, cM, asI, gAddI, hsl, bind_ok, RO_some]
  rw [this]
  exact rt_fin rfl
theorem need_t {b : Bool} (hb : b = true) : φReader_need A [.loc r, .bl b] S = .ok .non S := by
  subst hb
  show finD S (m_Reader_need A [some (.loc r), some (.bl true)] S) = _
  have : m_Reader_need A [some (.loc r), some (.bl true)] S = .nx [some (.loc r), some (.bl true)] S := by
    unfold m_Reader_need
    exact if_fnx rfl
  rw [this]
  exact fin_cl (d := .non) rfl rfl
theorem need_f {b : Bool} (hb : b = false) (hS : S[r]? = some (rd A l p m)) : φReader_need A [.loc r, .bl b] S = .exc (bad A p) S := by
  subst hb
  show finD S (m_Reader_need A [some (.loc r), some (.bl false)] S) = _
  have h0 : vM 0 [some (.loc r), some (.bl false)] S = .ok (.loc r) S := rfl
  have : m_Reader_need A [some (.loc r), some (.bl false)] S = .exc (bad A p) [some (.loc r), some (.bl false)] S := by
    unfold m_Reader_need
    rw [if_t (S1 := S) rfl]
    refine raise_ok ?_
    simp only [mkxM, consM, nilM, f_now h0 hS, bind_ok]
    rfl
  rw [this]
  exact finX_same rfl
/-- reader.here() -/
theorem c_here {δ : DEnv} (hl : l.length ≤ 1000000) (h : vM 0 δ S = .ok (.loc r) S) (hS : S[r]? = some (rd A l p m)) : methM A.Reader "here" 1 (φReader_here A) (vM 0) nilM [] δ S = .ok (.str (ch l p)) S :=
  (meth_is h hS rfl rfl rfl).trans (here_ok hl hS)
/-- reader.need(e) -/
theorem c_need_t {δ : DEnv} {me : ME} {b : Bool} (h : vM 0 δ S = .ok (.loc r) S) (hS : S[r]? = some (rd A l p m)) (he : me δ S = .ok (.bl b) S) (hb : b = true) : exprM (methM A.Reader "need" 2 (φReader_need A) (vM 0) (consM me nilM) []) δ S = .nx δ S := by
  refine expr_ok (d := .non) ((meth_is h hS rfl (xs := [.bl b]) (S2 := S) ?_ rfl).trans (need_t hb))
  simp only [consM, nilM, he, bind_ok]
theorem c_need_f {δ : DEnv} {me : ME} {b : Bool} (h : vM 0 δ S = .ok (.loc r) S) (hS : S[r]? = some (rd A l p m)) (he : me δ S = .ok (.bl b) S) (hb : b = false) : exprM (methM A.Reader "need" 2 (φReader_need A) (vM 0) (consM me nilM) []) δ S = .exc (bad A p) δ S := by
  refine expr_exc ((meth_is h hS rfl (xs := [.bl b]) (S2 := S) ?_ rfl).trans (need_f hb hS))
  simp only [consM, nilM, he, bind_ok]
theorem pass_t {s : List Nat} (hl : l.length ≤ 1000000) (hS : S[r]? = some (rd A l p m)) (k : ch l p = s) : φReader_pass_by A [.loc r, .str s] S = .ok .non (S.set r (rd A l (p + 1) m)) := by
  show finD S (m_Reader_pass_by A (φReader_here A) (φReader_need A) [some (.loc r), some (.str s)] S) = _
  have h0 : vM 0 [some (.loc r), some (.str s)] S = .ok (.loc r) S := rfl
  have h1 : vM 1 [some (.loc r), some (.str s)] S = .ok (.str s) S := rfl
  have : m_Reader_pass_by A (φReader_here A) (φReader_need A) [some (.loc r), some (.str s)] S = .nx [some (.loc r), some (.str s)] (S.set r (rd A l (p + 1) m)) := by
    unfold m_Reader_pass_by
    rw [seq_nx (c_need_t h0 hS (b := decide (ch l p = s)) (by simp only [op2M, c_here hl h0 hS, h1, gEqS, bind_ok, RO_some]) (decide_eq_true k))]
    exact a_now h0 hS
  rw [this]
  exact nx_set
theorem pass_f {s : List Nat} (hl : l.length ≤ 1000000) (hS : S[r]? = some (rd A l p m)) (k : ¬ ch l p = s) : φReader_pass_by A [.loc r, .str s] S = .exc (bad A p) S := by
  show finD S (m_Reader_pass_by A (φReader_here A) (φReader_need A) [some (.loc r), some (.str s)] S) = _
  have h0 : vM 0 [some (.loc r), some (.str s)] S = .ok (.loc r) S := rfl
  have h1 : vM 1 [some (.loc r), some (.str s)] S = .ok (.str s) S := rfl
  have : m_Reader_pass_by A (φReader_here A) (φReader_need A) [some (.loc r), some (.str s)] S = .exc (bad A p) [some (.loc r), some (.str s)] S := by
    unfold m_Reader_pass_by
    exact seq_exc (c_need_f h0 hS (b := decide (ch l p = s)) (by simp only [op2M, c_here hl h0 hS, h1, gEqS, bind_ok, RO_some]) (decide_eq_false k))
  rw [this]
  exact finX_same rfl
/-! ### run -/
noncomputable def prC (A : Ad) : MB := andB (cmpB ltG (op2M subG (fldM A.Reader "now" (vM 0)) (vM 4)) (vM 3)) (andB (cmpB neG (methM A.Reader "here" 1 (φReader_here A) (vM 0) nilM []) (cM (.str []))) (cmpB inG (methM A.Reader "here" 1 (φReader_here A) (vM 0) nilM []) (vM 1)))
noncomputable def prB (A : Ad) : MS := fldaugM A.Reader "now" addI (vM 0) (cM (.int 1))
theorem prun_while {ok : List Nat} {least : Int} {k : Nat} (hl : l.length ≤ 1000000) : ∀ (j e : Nat) (S : Store), p ≤ e → e - p + j = k → S[r]? = some (rd A l e m) →
    whileN (prC A) (prB A) (j + 1) [some (.loc r), some (.str ok), some (.int least), some (.int k), some (.int p)] S = .nx [some (.loc r), some (.str ok), some (.int least), some (.int k), some (.int p)] (S.set r (rd A l (runN ok l j e) m)) := by
  have self : ∀ {S : Store} {c : Cell}, S[r]? = some c → S.set r c = S := fun {S c} h => by
    apply List.ext_getElem?
    intro i
    by_cases hi : r = i
    · subst hi
      rw [List.getElem?_set_self (get_lt h), h]
    · rw [List.getElem?_set_ne hi]
  intro j
  induction j with
  | zero =>
    intro e S h1 h2 hS
    have h0 : vM 0 [some (.loc r), some (.str ok), some (.int least), some (.int k), some (.int p)] S = .ok (.loc r) S := rfl
    have hk : ¬ ((e : Int) - p < k) := by omega
    show _ = Flw.nx _ (S.set r (rd A l e m))
    rw [self hS]
    refine while_end ?_
    have e3 : vM 3 [some (.loc r), some (.str ok), some (.int least), some (.int k), some (.int p)] S = .ok (.int k) S := rfl
    have e4 : vM 4 [some (.loc r), some (.str ok), some (.int least), some (.int k), some (.int p)] S = .ok (.int p) S := rfl
    simp only [prC, andB, cmpB, op2M, f_now h0 hS, e3, e4, gLtI, gSubI, asB, bind_ok, RO_some, hk, decide_false, Bool.false_eq_true, if_false]
  | succ j ih =>
    intro e S h1 h2 hS
    have h0 : vM 0 [some (.loc r), some (.str ok), some (.int least), some (.int k), some (.int p)] S = .ok (.loc r) S := rfl
    have hk : ((e : Int) - p < k) := by omega
    have hh := c_here hl h0 hS
    have e1 : vM 1 [some (.loc r), some (.str ok), some (.int least), some (.int k), some (.int p)] S = .ok (.str ok) S := rfl
    have e3 : vM 3 [some (.loc r), some (.str ok), some (.int least), some (.int k), some (.int p)] S = .ok (.int k) S := rfl
    have e4 : vM 4 [some (.loc r), some (.str ok), some (.int least), some (.int k), some (.int p)] S = .ok (.int p) S := rfl
    unfold runN
    cases ec : l[e]? with
    | none =>
      rw [ch_nil ec] at hh
      simp only
      rw [self hS]
      refine while_end ?_
      simp only [prC, andB, cmpB, op2M, cM, f_now h0 hS, hh, e1, e3, e4, gLtI, gSubI, gNeS, asB, bind_ok, RO_some, hk, decide_true, Bool.not_true, if_true, Bool.false_eq_true, if_false]
    | some c =>
      rw [ch_some ec] at hh
      have hne : ¬ (([c] : List Nat) = []) := fun z => by cases z
      by_cases hc : c ∈ ok
      · simp only [hc, if_true]
        have := ih (e + 1) (S.set r (rd A l (e + 1) m)) (by omega) (by omega) (rd_ok hS)
        rw [List.set_set] at this
        refine while_step (S1 := S) (S2 := S.set r (rd A l (e + 1) m)) ?_ ?_ this
        · simp only [prC, andB, cmpB, op2M, cM, f_now h0 hS, hh, e1, e3, e4, gLtI, gSubI, gNeS, gInC, hne, hc, asB, bind_ok, RO_some, hk, decide_true, decide_false, Bool.not_false, if_true]
        · exact a_now h0 hS
      · simp only [hc, if_false]
        rw [self hS]
        refine while_end ?_
        simp only [prC, andB, cmpB, op2M, cM, f_now h0 hS, hh, e1, e3, e4, gLtI, gSubI, gNeS, gInC, hne, hc, asB, bind_ok, RO_some, hk, decide_true, decide_false, Bool.not_false, if_true]
theorem run_body {ok : List Nat} {least : Int} {k : Nat} (hl : l.length ≤ 1000000) (hS : S[r]? = some (rd A l p m)) : m_Reader_run A (φReader_here A) (φReader_need A) [some (.loc r), some (.str ok), some (.int least), some (.int k), none] S =
    if least ≤ (runN ok l k p : Int) - p then .rt (.str (cutN l p (runN ok l k p))) (S.set r (rd A l (runN ok l k p) m)) else .exc (bad A (runN ok l k p)) [some (.loc r), some (.str ok), some (.int least), some (.int k), some (.int p)] (S.set r (rd A l (runN ok l k p) m)) := by
  have hw := whileM_is (k + 1) (prun_while (A := A) (m := m) (r := r) (ok := ok) (least := least) (p := p) (k := k) hl k p S (Nat.le_refl p) (by omega) hS) (by intro z; cases z)
  have h0 : vM 0 [some (.loc r), some (.str ok), some (.int least), some (.int k), none] S = .ok (.loc r) S := rfl
  have hS2 := rd_ok hS (p' := runN ok l k p) (m' := m)
  have h02 : vM 0 [some (.loc r), some (.str ok), some (.int least), some (.int k), some (.int p)] (S.set r (rd A l (runN ok l k p) m)) = .ok (.loc r) (S.set r (rd A l (runN ok l k p) m)) := rfl
  have e2 : vM 2 [some (.loc r), some (.str ok), some (.int least), some (.int k), some (.int p)] (S.set r (rd A l (runN ok l k p) m)) = .ok (.int least) (S.set r (rd A l (runN ok l k p) m)) := rfl
  have e4 : vM 4 [some (.loc r), some (.str ok), some (.int least), some (.int k), some (.int p)] (S.set r (rd A l (runN ok l k p) m)) = .ok (.int p) (S.set r (rd A l (runN ok l k p) m)) := rfl
  have a1 : asgM 4 (fldM A.Reader "now" (vM 0)) [some (.loc r), some (.str ok), some (.int least), some (.int k), none] S = .nx [some (.loc r), some (.str ok), some (.int least), some (.int k), some (.int p)] S := asg_ok (f_now h0 hS)
  unfold m_Reader_run
  rw [seq_nx a1]
  have hw' : whileM (andB (cmpB ltG (op2M subG (fldM A.Reader "now" (vM 0)) (vM 4)) (vM 3)) (andB (cmpB neG (methM A.Reader "here" 1 (φReader_here A) (vM 0) nilM []) (cM (.str []))) (cmpB inG (methM A.Reader "here" 1 (φReader_here A) (vM 0) nilM []) (vM 1)))) (fldaugM A.Reader "now" addI (vM 0) (cM (.int 1))) [some (.loc r), some (.str ok), some (.int least), some (.int k), some (.int p)] S = _ := hw
  rw [seq_nx hw']
  have hb : op2M geG (op2M subG (fldM A.Reader "now" (vM 0)) (vM 4)) (vM 2) [some (.loc r), some (.str ok), some (.int least), some (.int k), some (.int p)] (S.set r (rd A l (runN ok l k p) m)) = .ok (.bl (decide (least ≤ (runN ok l k p : Int) - p))) (S.set r (rd A l (runN ok l k p) m)) := by
    simp only [op2M, f_now h02 hS2, e2, e4, gSubI, gGeI, bind_ok, RO_some]
  by_cases hle : least ≤ (runN ok l k p : Int) - p
  · rw [if_pos hle, seq_nx (c_need_t h02 hS2 hb (decide_eq_true hle))]
    refine ret_ok ?_
    have hsl := gSl2 (S := S.set r (rd A l (runN ok l k p) m)) (p := p) (e := runN ok l k p) hl
    simp only [slM, soO, f_signs h02 hS2, f_now h02 hS2, e4, asI, hsl, bind_ok, RO_some]
  · rw [if_neg hle]
    exact seq_exc (c_need_f h02 hS2 hb (decide_eq_false hle))
theorem prun_t {ok : List Nat} {least : Int} {k : Nat} (hl : l.length ≤ 1000000) (hS : S[r]? = some (rd A l p m)) (hle : least ≤ (runN ok l k p : Int) - p) : φReader_run A [.loc r, .str ok, .int least, .int k] S = .ok (.str (cutN l p (runN ok l k p))) (S.set r (rd A l (runN ok l k p) m)) := by
  show finD S (m_Reader_run A (φReader_here A) (φReader_need A) [some (.loc r), some (.str ok), some (.int least), some (.int k), none] S) = _
  rw [run_body hl hS, if_pos hle]
  exact rt_set rfl
theorem prun_f {ok : List Nat} {least : Int} {k : Nat} (hl : l.length ≤ 1000000) (hS : S[r]? = some (rd A l p m)) (hle : ¬ least ≤ (runN ok l k p : Int) - p) : φReader_run A [.loc r, .str ok, .int least, .int k] S = .exc (bad A (runN ok l k p)) (S.set r (rd A l (runN ok l k p) m)) := by
  show finD S (m_Reader_run A (φReader_here A) (φReader_need A) [some (.loc r), some (.str ok), some (.int least), some (.int k), none] S) = _
  rw [run_body hl hS, if_neg hle]
  exact ex_set
end
section
variable {A : Ad} {l : List Nat} {p : Nat} {m : Int} {S : Store} {r : Nat}
theorem c_run_t {gD : List SL.D → List SL.D → List SL.D} {mk : MA} {zs : List SL.D} {j k : Nat} {ok : List Nat} {least : Int} {δ : DEnv} (hl : l.length ≤ 1000000) (h : vM 0 δ S = .ok (.loc r) S) (hS : S[r]? = some (rd A l p m)) (hk : mk δ S = .ok zs S) (hj : zs.length = j) (hg : gD [.loc r, .str ok] zs = [.loc r, .str ok, .int least, .int k])
    (hle : least ≤ (runN ok l k p : Int) - p) : methN A.Reader "run" 2 j 4 (φReader_run A) gD (vM 0) (consM (cM (.str ok)) nilM) mk δ S = .ok (.str (cutN l p (runN ok l k p))) (S.set r (rd A l (runN ok l k p) m)) := by
  refine (methN_is (xs := [.str ok]) h hS rfl rfl hk rfl hj (by rw [hg]; rfl)).trans ?_
  rw [hg]
  exact prun_t hl hS hle
theorem c_run_f {gD : List SL.D → List SL.D → List SL.D} {mk : MA} {zs : List SL.D} {j k : Nat} {ok : List Nat} {least : Int} {δ : DEnv} (hl : l.length ≤ 1000000) (h : vM 0 δ S = .ok (.loc r) S) (hS : S[r]? = some (rd A l p m)) (hk : mk δ S = .ok zs S) (hj : zs.length = j) (hg : gD [.loc r, .str ok] zs = [.loc r, .str ok, .int least, .int k])
    (hle : ¬ least ≤ (runN ok l k p : Int) - p) : methN A.Reader "run" 2 j 4 (φReader_run A) gD (vM 0) (consM (cM (.str ok)) nilM) mk δ S = .exc (bad A (runN ok l k p)) (S.set r (rd A l (runN ok l k p) m)) := by
  refine (methN_is (xs := [.str ok]) h hS rfl rfl hk rfl hj (by rw [hg]; rfl)).trans ?_
  rw [hg]
  exact prun_f hl hS hle
/-- what the program's way tells, beside the plain one -/
def PO (A : Ad) (l : List Nat) (r : Nat) (S : Store) (x : Res SL.D) : Out → Prop
  | (e, some t, m') => x = .ok (.tup t) (S.set r (rd A l e m'))
  | (e, none, _) => ∃ q m'', x = .exc (bad A e) (S.set r (rd A l q m''))
def PN (A : Ad) (l : List Nat) (r : Nat) (m : Int) (S : Store) (x : Res SL.D) : Nat × Option Int → Prop
  | (e, some v) => x = .ok (.int v) (S.set r (rd A l e m))
  | (e, none) => ∃ q, x = .exc (bad A e) (S.set r (rd A l q m))
theorem number_ok (hl : l.length ≤ 1000000) (hp : p ≤ l.length) (hS : S[r]? = some (rd A l p m)) : PN A l r m S (φReader_number A [.loc r] S) (pTimes l p) := by
  have hf : φReader_number A [.loc r] S = finD S (m_Reader_number A (φReader_here A) (φReader_run A) [some (.loc r), none] S) := rfl
  rw [hf]
  have h0 : vM 0 [some (.loc r), none] S = .ok (.loc r) S := rfl
  have hh := c_here hl h0 hS
  unfold pTimes m_Reader_number
  by_cases k0 : ch l p = [48]
  · rw [if_pos k0]
    have hc : cmpB eqG (methM A.Reader "here" 1 (φReader_here A) (vM 0) nilM []) (cM (.str [48])) [some (.loc r), none] S = .ok true S := by
      simp only [cmpB, hh, cM, gEqS, k0, asB, bind_ok, RO_some, decide_true]
    show _ = Res.ok _ _
    rw [seq_rt ((if_t hc).trans ((seq_nx (a_now h0 hS)).trans (ret_ok rfl)))]
    exact rt_set rfl
  · rw [if_neg k0]
    have hc : cmpB eqG (methM A.Reader "here" 1 (φReader_here A) (vM 0) nilM []) (cM (.str [48])) [some (.loc r), none] S = .ok false S := by
      simp only [cmpB, hh, cM, gEqS, k0, asB, bind_ok, RO_some, decide_false]
    rw [seq_nx (if_fnx hc)]
    by_cases k1 : runN s_FIGURES l 31 p = p
    · rw [if_pos k1]
      refine ⟨runN s_FIGURES l 31 p, ?_⟩
      have hr := c_run_f (A := A) (gD := gD_Reader_run_least_most) (mk := consM (cM (.int 1)) (consM (cM (.int 31)) nilM)) (zs := [.int 1, .int 31]) (j := 2) (k := 31) (ok := s_FIGURES) (least := 1) (δ := [some (.loc r), none]) hl h0 hS rfl rfl rfl (by omega)
      rw [seq_exc (asg_exc hr), ex_set, k1]
    · rw [if_neg k1]
      have hge := run_ge s_FIGURES l 31 p
      have hr := c_run_t (A := A) (gD := gD_Reader_run_least_most) (mk := consM (cM (.int 1)) (consM (cM (.int 31)) nilM)) (zs := [.int 1, .int 31]) (j := 2) (k := 31) (ok := s_FIGURES) (least := 1) (δ := [some (.loc r), none]) hl h0 hS rfl rfl rfl (by omega)
      rw [seq_nx (asg_ok hr)]
      have hnum := num_some hp k1
      have hlen31 := cut_len (ok := s_FIGURES) (k := 31) hp
      have hle := run_le s_FIGURES l 31 p
      have hint : ∀ S : Store, intG S [.str (cutN l p (runN s_FIGURES l 31 p))] = some (.int (numV (cutN l p (runN s_FIGURES l 31 p)))) := fun S => by
        show (if (cutN l p (runN s_FIGURES l 31 p)).length ≤ 640 then (match PySem.intText? ⟨(cutN l p (runN s_FIGURES l 31 p)).toArray⟩ with | some n => some (SL.D.int n) | none => none) else none) = _
        rw [if_pos (by omega), hnum]
      have hS2 := rd_ok hS (p' := runN s_FIGURES l 31 p) (m' := m)
      have h02 : vM 0 [some (.loc r), some (.str (cutN l p (runN s_FIGURES l 31 p)))] (S.set r (rd A l (runN s_FIGURES l 31 p) m)) = .ok (.loc r) (S.set r (rd A l (runN s_FIGURES l 31 p) m)) := rfl
      have hi : (callG intG (consM (vM 1) nilM)) [some (.loc r), some (.str (cutN l p (runN s_FIGURES l 31 p)))] (S.set r (rd A l (runN s_FIGURES l 31 p) m)) = .ok (.int (numV (cutN l p (runN s_FIGURES l 31 p)))) (S.set r (rd A l (runN s_FIGURES l 31 p) m)) := by
        simp only [callG, consM, nilM, vM, hint, bind_ok, RO_some, List.getElem?_cons_zero, List.getElem?_cons_succ]
      have h30 : (10 : Int) ^ 30 = 1000000000000000000000000000000 := by decide
      by_cases k2 : (10 : Int) ^ 30 < numV (cutN l p (runN s_FIGURES l 31 p))
      · rw [if_pos k2]
        refine ⟨runN s_FIGURES l 31 p, ?_⟩
        have hc2 : cmpB gtG (callG intG (consM (vM 1) nilM)) (cM (.int 1000000000000000000000000000000)) [some (.loc r), some (.str (cutN l p (runN s_FIGURES l 31 p)))] (S.set r (rd A l (runN s_FIGURES l 31 p) m)) = .ok true (S.set r (rd A l (runN s_FIGURES l 31 p) m)) := by
          rw [h30] at k2
          simp only [cmpB, hi, cM, gGtI, asB, bind_ok, RO_some, k2, decide_true]
        have hx : mkxM A.BadText 1 ["at", "word"] gx_BadText (consM (op2M subG (fldM A.Reader "now" (vM 0)) (cM (.int 1))) nilM) [some (.loc r), some (.str (cutN l p (runN s_FIGURES l 31 p)))] (S.set r (rd A l (runN s_FIGURES l 31 p) m)) = .ok (bad A (runN s_FIGURES l 31 p - 1)) (S.set r (rd A l (runN s_FIGURES l 31 p) m)) := by
          simp only [mkxM, consM, nilM, op2M, f_now h02 hS2, cM, gSubI, bind_ok, RO_some]
          show Res.ok (⟨A.BadText, ["at", "word"], [.int ((runN s_FIGURES l 31 p : Nat) - 1 : Int), .str [98, 97, 100, 116, 101, 120, 116]]⟩ : Ex) _ = _
          unfold bad
          rw [show ((runN s_FIGURES l 31 p - 1 : Nat) : Int) = (runN s_FIGURES l 31 p : Int) - 1 by omega]
        have hstep := seq_exc (m2 := retM (callG intG (consM (vM 1) nilM))) ((if_t (m2 := nxM) hc2).trans (raise_ok hx))
        have hd : [some (SL.D.loc r), none].set 1 (some (.str (cutN l p (runN s_FIGURES l 31 p)))) = [some (.loc r), some (.str (cutN l p (runN s_FIGURES l 31 p)))] := rfl
        rw [hd, hstep, ex_set]
      · rw [if_neg k2]
        have hc2 : cmpB gtG (callG intG (consM (vM 1) nilM)) (cM (.int 1000000000000000000000000000000)) [some (.loc r), some (.str (cutN l p (runN s_FIGURES l 31 p)))] (S.set r (rd A l (runN s_FIGURES l 31 p) m)) = .ok false (S.set r (rd A l (runN s_FIGURES l 31 p) m)) := by
          rw [h30] at k2
          simp only [cmpB, hi, cM, gGtI, asB, bind_ok, RO_some, k2, decide_false]
        have hd : [some (SL.D.loc r), none].set 1 (some (.str (cutN l p (runN s_FIGURES l 31 p)))) = [some (.loc r), some (.str (cutN l p (runN s_FIGURES l 31 p)))] := rfl
        show _ = Res.ok _ _
        rw [hd, seq_nx (if_fnx hc2), ret_ok hi]
        exact rt_set rfl
/-! ### the step -/
theorem c_pass_t {δ : DEnv} {s : List Nat} (hl : l.length ≤ 1000000) (h : vM 0 δ S = .ok (.loc r) S) (hS : S[r]? = some (rd A l p m)) (k : ch l p = s) : exprM (methM A.Reader "pass_by" 2 (φReader_pass_by A) (vM 0) (consM (cM (.str s)) nilM) []) δ S = .nx δ (S.set r (rd A l (p + 1) m)) :=
  expr_ok ((meth_is h hS rfl (xs := [.str s]) (S2 := S) rfl rfl).trans (pass_t hl hS k))
theorem c_pass_f {δ : DEnv} {s : List Nat} (hl : l.length ≤ 1000000) (h : vM 0 δ S = .ok (.loc r) S) (hS : S[r]? = some (rd A l p m)) (k : ¬ ch l p = s) : exprM (methM A.Reader "pass_by" 2 (φReader_pass_by A) (vM 0) (consM (cM (.str s)) nilM) []) δ S = .exc (bad A p) δ S :=
  expr_exc ((meth_is h hS rfl (xs := [.str s]) (S2 := S) rfl rfl).trans (pass_f hl hS k))
theorem self_set {c : Cell} (h : S[r]? = some c) : S.set r c = S := by
  apply List.ext_getElem?
  intro i
  by_cases hi : r = i
  · subst hi
    rw [List.getElem?_set_self (get_lt h), h]
  · rw [List.getElem?_set_ne hi]
theorem ex_same {q : Nat} {δ : DEnv} (hS : S[r]? = some (rd A l p m)) : finD S (.exc (bad A q) δ S) = .exc (bad A q) (S.set r (rd A l p m)) := by
  have := ex_set (A := A) (S := S) (l := l) (r := r) (p' := p) (m' := m) (q := q) (δ := δ)
  rwa [self_set hS] at this ⊢
noncomputable def need1 (A : Ad) : ME := (andM (op2M neG (vM 2) (cM (.str []))) (andM (op2M inG (vM 2) (cM (.str [46, 126, 60, 40]))) (op2M ltG (fldM A.Reader "many" (vM 0)) (cM (.int 60)))))
noncomputable def need2 : ME := (orM (op2M neG (vM 2) (cM (.str [40]))) (op2M ltG (vM 1) (cM (.int 12))))
noncomputable def stA (A : Ad) (t : MS) : MS := (seqM (asgM 2 (methM A.Reader "here" 1 (φReader_here A) (vM 0) nilM []))
  (seqM (exprM (methM A.Reader "need" 2 (φReader_need A) (vM 0) (consM (need1 A) nilM) []))
  (seqM (exprM (methM A.Reader "need" 2 (φReader_need A) (vM 0) (consM need2 nilM) []))
  (seqM (fldaugM A.Reader "many" addI (vM 0) (cM (.int 1)))
  (seqM (fldaugM A.Reader "now" addI (vM 0) (cM (.int 1))) t)))))
noncomputable def if1 (A : Ad) : MS := (ifSM (cmpB eqG (vM 2) (cM (.str [46]))) (retM (callG tupG (consM (cM (.str [99, 97, 108, 108])) (consM (methN A.Reader "run" 2 0 4 (φReader_run A) gD_Reader_run_0 (vM 0) (consM (cM (.str s_LETTERS)) nilM) nilM) nilM)))) nxM)
noncomputable def if2 (A : Ad) : MS := (ifSM (cmpB eqG (vM 2) (cM (.str [126]))) (retM (callG tupG (consM (cM (.str [116, 117, 114, 110])) (consM (methN A.Reader "run" 2 1 4 (φReader_run A) gD_Reader_run_least (vM 0) (consM (cM (.str s_LETTERS)) nilM) (consM (cM (.int 1)) nilM)) nilM)))) nxM)
noncomputable def if3 (A : Ad) : MS := (ifSM (cmpB eqG (vM 2) (cM (.str [60]))) (seqM (asgM 3 (methN A.Reader "run" 2 2 4 (φReader_run A) gD_Reader_run_least_most (vM 0) (consM (cM (.str s_SMALL)) nilM) (consM (cM (.int 1)) (consM (cM (.int 8)) nilM))))
  (seqM (exprM (methM A.Reader "pass_by" 2 (φReader_pass_by A) (vM 0) (consM (cM (.str [62])) nilM) []))
  (retM (callG tupG (consM (cM (.str [114, 111, 119])) (consM (vM 3) nilM)))))) nxM)
noncomputable def stB (A : Ad) (φrow : Fn) : MS := (seqM (asgM 4 (methM A.Reader "row" 2 φrow (vM 0) (consM (op2M addG (vM 1) (cM (.int 1))) nilM) []))
  (seqM (exprM (methM A.Reader "pass_by" 2 (φReader_pass_by A) (vM 0) (consM (cM (.str [41])) nilM) []))
  (seqM (exprM (methM A.Reader "pass_by" 2 (φReader_pass_by A) (vM 0) (consM (cM (.str [42])) nilM) []))
  (retM (callG tupG (consM (cM (.str [116, 105, 109, 101, 115])) (consM (methM A.Reader "number" 1 (φReader_number A) (vM 0) nilM []) (consM (vM 4) nilM))))))))
theorem mstep_eq (A : Ad) (φrow : Fn) : m_Reader_step A (φReader_here A) (φReader_need A) (φReader_run A) (φReader_pass_by A) φrow (φReader_number A) = stA A (seqM (if1 A) (seqM (if2 A) (seqM (if3 A) (stB A φrow)))) := rfl
theorem need1_ok {δ : DEnv} {d : Int} {a b : Option SL.D} (hS : S[r]? = some (rd A l p m)) (hδ : δ = [some (.loc r), some (.int d), some (.str (ch l p)), a, b]) : need1 A δ S = .ok (.bl (decide ((ch l p = [46] ∨ ch l p = [126] ∨ ch l p = [60] ∨ ch l p = [40]) ∧ m < 60))) S := by
  subst hδ
  have h0 : vM 0 [some (.loc r), some (.int d), some (.str (ch l p)), a, b] S = .ok (.loc r) S := rfl
  have h2 : vM 2 [some (.loc r), some (.int d), some (.str (ch l p)), a, b] S = .ok (.str (ch l p)) S := rfl
  have tb : ∀ c : Bool, truthB S (.bl c) = some c := fun c => rfl
  unfold need1
  cases ec : l[p]? with
  | none =>
    rw [ch_nil ec] at h0 h2 ⊢
    simp only [SL.andM, op2M, h2, cM, gNeS, bind_ok, RO_some, decide_true, Bool.not_true, tb]
    simp
  | some c =>
    rw [ch_some ec] at h0 h2 ⊢
    have hne : ¬ (([c] : List Nat) = []) := fun z => by cases z
    have hd : ([c] = [46] ∨ [c] = [126] ∨ [c] = [60] ∨ [c] = [40]) ↔ c ∈ [46, 126, 60, 40] := by simp
    by_cases hc : c ∈ [46, 126, 60, 40]
    · simp only [SL.andM, op2M, h2, cM, gNeS, gInC, gLtI, f_many h0 hS, hne, hc, bind_ok, RO_some, decide_true, decide_false, Bool.not_false, tb]
      simp only [hd, hc, true_and]
    · simp only [SL.andM, op2M, h2, cM, gNeS, gInC, hne, hc, bind_ok, RO_some, decide_false, Bool.not_false, tb]
      simp only [hd, hc, false_and, decide_false]
theorem need2_ok {δ : DEnv} {d : Int} {a b : Option SL.D} (hδ : δ = [some (.loc r), some (.int d), some (.str (ch l p)), a, b]) : need2 δ S = .ok (.bl (decide (ch l p ≠ [40] ∨ d < 12))) S := by
  subst hδ
  have h1 : vM 1 [some (.loc r), some (.int d), some (.str (ch l p)), a, b] S = .ok (.int d) S := rfl
  have h2 : vM 2 [some (.loc r), some (.int d), some (.str (ch l p)), a, b] S = .ok (.str (ch l p)) S := rfl
  have tb : ∀ c : Bool, truthB S (.bl c) = some c := fun c => rfl
  unfold need2
  by_cases k : ch l p = [40]
  · rw [k] at h1 h2 ⊢
    simp only [SL.orM, op2M, h1, h2, cM, gNeS, gLtI, bind_ok, RO_some, decide_true, Bool.not_true, tb]
    simp
  · simp only [SL.orM, op2M, h2, cM, gNeS, k, bind_ok, RO_some, decide_false, Bool.not_false, tb]
    simp [k]
theorem stA_f {d : Int} {t : MS} (hl : l.length ≤ 1000000) (hS : S[r]? = some (rd A l p m)) (k : ¬ (((ch l p = [46] ∨ ch l p = [126] ∨ ch l p = [60] ∨ ch l p = [40]) ∧ m < 60) ∧ (ch l p ≠ [40] ∨ d < 12))) :
    stA A t [some (.loc r), some (.int d), none, none, none] S = .exc (bad A p) [some (.loc r), some (.int d), some (.str (ch l p)), none, none] S := by
  have h0 : vM 0 [some (.loc r), some (.int d), none, none, none] S = .ok (.loc r) S := rfl
  have h02 : vM 0 [some (.loc r), some (.int d), some (.str (ch l p)), none, none] S = .ok (.loc r) S := rfl
  have a1 : asgM 2 (methM A.Reader "here" 1 (φReader_here A) (vM 0) nilM []) [some (.loc r), some (.int d), none, none, none] S = .nx [some (.loc r), some (.int d), some (.str (ch l p)), none, none] S := asg_ok (c_here hl h0 hS)
  unfold stA
  rw [seq_nx a1]
  by_cases k1 : (ch l p = [46] ∨ ch l p = [126] ∨ ch l p = [60] ∨ ch l p = [40]) ∧ m < 60
  · rw [seq_nx (c_need_t h02 hS (need1_ok hS rfl) (decide_eq_true k1))]
    exact seq_exc (c_need_f h02 hS (need2_ok rfl) (decide_eq_false fun z => k ⟨k1, z⟩))
  · exact seq_exc (c_need_f h02 hS (need1_ok hS rfl) (decide_eq_false k1))
theorem stA_t {d : Int} {t : MS} (hl : l.length ≤ 1000000) (hS : S[r]? = some (rd A l p m)) (k1 : (ch l p = [46] ∨ ch l p = [126] ∨ ch l p = [60] ∨ ch l p = [40]) ∧ m < 60) (k2 : ch l p ≠ [40] ∨ d < 12) :
    stA A t [some (.loc r), some (.int d), none, none, none] S = t [some (.loc r), some (.int d), some (.str (ch l p)), none, none] (S.set r (rd A l (p + 1) (m + 1))) := by
  have h0 : vM 0 [some (.loc r), some (.int d), none, none, none] S = .ok (.loc r) S := rfl
  have h02 : ∀ S, vM 0 [some (.loc r), some (.int d), some (.str (ch l p)), none, none] S = .ok (.loc r) S := fun S => rfl
  have a1 : asgM 2 (methM A.Reader "here" 1 (φReader_here A) (vM 0) nilM []) [some (.loc r), some (.int d), none, none, none] S = .nx [some (.loc r), some (.int d), some (.str (ch l p)), none, none] S := asg_ok (c_here hl h0 hS)
  unfold stA
  rw [seq_nx a1, seq_nx (c_need_t (h02 S) hS (need1_ok hS rfl) (decide_eq_true k1)), seq_nx (c_need_t (h02 S) hS (need2_ok rfl) (decide_eq_true k2)), seq_nx (a_many (h02 S) hS), seq_nx (a_now (h02 _) (rd_ok hS)), List.set_set]
theorem pstep_ok {φrow : Fn} {row : Nat → Int → Int → Out} {n : Nat} {d : Int} (hl : l.length ≤ 1000000) (hm0 : 0 ≤ m) (hS : S[r]? = some (rd A l p m)) (hok : ∀ p m d, oOk (n + 1) (row p m d))
    (hrow : d < 12 → ∀ p m S, p ≤ l.length → 0 ≤ m → m ≤ 60 → S[r]? = some (rd A l p m) → PO A l r S (φrow [.loc r, .int (d + 1)] S) (row p m (d + 1))) :
    PO A l r S (defM 5 (m_Reader_step A (φReader_here A) (φReader_need A) (φReader_run A) (φReader_pass_by A) φrow (φReader_number A)) [.loc r, .int d] S) (pStep row l p m d) := by
  have hf : defM 5 (m_Reader_step A (φReader_here A) (φReader_need A) (φReader_run A) (φReader_pass_by A) φrow (φReader_number A)) [.loc r, .int d] S = finD S (stA A (seqM (if1 A) (seqM (if2 A) (seqM (if3 A) (stB A φrow)))) [some (.loc r), some (.int d), none, none, none] S) := rfl
  rw [hf]
  have ne : ∀ a b : Nat, a ≠ b → ¬ (([a] : List Nat) = [b]) := fun a b h z => h (List.cons.inj z).1
  have hS2 := rd_ok hS (p' := p + 1) (m' := m + 1)
  have t3 : ∀ (S : Store) (a b c : SL.D), tupG S [a, b, c] = some (.tup [a, b, c]) := fun S a b c => rfl
  have t2 : ∀ (S : Store) (a b : SL.D), tupG S [a, b] = some (.tup [a, b]) := fun S a b => rfl
  have h0 : ∀ (sg : List Nat) (a b : Option SL.D) (S : Store), vM 0 [some (.loc r), some (.int d), some (.str sg), a, b] S = .ok (.loc r) S := fun sg a b S => rfl
  have cq : ∀ (sg x : List Nat) (a b : Option SL.D) (S : Store), cmpB eqG (vM 2) (cM (.str x)) [some (.loc r), some (.int d), some (.str sg), a, b] S = .ok (decide (sg = x)) S := fun sg x a b S => rfl
  by_cases hk : ((ch l p = [46] ∨ ch l p = [126] ∨ ch l p = [60] ∨ ch l p = [40]) ∧ m < 60) ∧ (ch l p ≠ [40] ∨ d < 12)
  · obtain ⟨k1, k2⟩ := hk
    rw [stA_t hl hS k1 k2]
    obtain ⟨k1, hm⟩ := k1
    unfold pStep
    by_cases c1 : ch l p = [46]
    · rw [if_pos ⟨c1, hm⟩, c1]
      have hr := c_run_t (A := A) (gD := gD_Reader_run_0) (mk := nilM) (zs := []) (j := 0) (k := 12) (ok := s_LETTERS) (least := 0) (δ := [some (.loc r), some (.int d), some (.str [46]), none, none]) hl (h0 _ _ _ _) hS2 rfl rfl rfl (by have := run_ge s_LETTERS l 12 (p + 1); omega)
      rw [List.set_set] at hr
      show _ = Res.ok _ _
      have hif : if1 A [some (.loc r), some (.int d), some (.str [46]), none, none] (S.set r (rd A l (p + 1) (m + 1))) = .rt (.tup [.str w_call, .str (cutN l (p + 1) (runN s_LETTERS l 12 (p + 1)))]) (S.set r (rd A l (runN s_LETTERS l 12 (p + 1)) (m + 1))) := by
        unfold if1
        refine (if_t (cq _ _ _ _ _)).trans (ret_ok ?_)
        simp only [callG, consM, nilM, cM, hr, t2, bind_ok, RO_some]
        rfl
      rw [seq_rt hif]
      exact rt_set rfl
    · rw [if_neg (fun z => c1 z.1)]
      have hif1 : if1 A [some (.loc r), some (.int d), some (.str (ch l p)), none, none] (S.set r (rd A l (p + 1) (m + 1))) = .nx [some (.loc r), some (.int d), some (.str (ch l p)), none, none] (S.set r (rd A l (p + 1) (m + 1))) := by
        unfold if1
        exact if_fnx ((cq _ _ _ _ _).trans (by rw [decide_eq_false c1]))
      rw [seq_nx hif1]
      by_cases c2 : ch l p = [126]
      · rw [if_pos ⟨c2, hm⟩, c2]
        by_cases h1 : runN s_LETTERS l 12 (p + 1) = p + 1
        · rw [if_pos h1]
          have hr := c_run_f (A := A) (gD := gD_Reader_run_least) (mk := consM (cM (.int 1)) nilM) (zs := [.int 1]) (j := 1) (k := 12) (ok := s_LETTERS) (least := 1) (δ := [some (.loc r), some (.int d), some (.str [126]), none, none]) hl (h0 _ _ _ _) hS2 rfl rfl rfl (by omega)
          rw [List.set_set] at hr
          refine ⟨runN s_LETTERS l 12 (p + 1), m + 1, ?_⟩
          have hif : if2 A [some (.loc r), some (.int d), some (.str [126]), none, none] (S.set r (rd A l (p + 1) (m + 1))) = .exc (bad A (runN s_LETTERS l 12 (p + 1))) [some (.loc r), some (.int d), some (.str [126]), none, none] (S.set r (rd A l (runN s_LETTERS l 12 (p + 1)) (m + 1))) := by
            unfold if2
            refine (if_t (cq _ _ _ _ _)).trans (ret_exc ?_)
            simp only [callG, consM, nilM, cM, bind_ok] at hr ⊢
            simp only [hr, bind_exc]
          rw [seq_exc hif, ex_set, h1]
        · rw [if_neg h1]
          have hge := run_ge s_LETTERS l 12 (p + 1)
          have hr := c_run_t (A := A) (gD := gD_Reader_run_least) (mk := consM (cM (.int 1)) nilM) (zs := [.int 1]) (j := 1) (k := 12) (ok := s_LETTERS) (least := 1) (δ := [some (.loc r), some (.int d), some (.str [126]), none, none]) hl (h0 _ _ _ _) hS2 rfl rfl rfl (by omega)
          rw [List.set_set] at hr
          show _ = Res.ok _ _
          have hif : if2 A [some (.loc r), some (.int d), some (.str [126]), none, none] (S.set r (rd A l (p + 1) (m + 1))) = .rt (.tup [.str w_turn, .str (cutN l (p + 1) (runN s_LETTERS l 12 (p + 1)))]) (S.set r (rd A l (runN s_LETTERS l 12 (p + 1)) (m + 1))) := by
            unfold if2
            refine (if_t (cq _ _ _ _ _)).trans (ret_ok ?_)
            simp only [callG, consM, nilM, cM, bind_ok] at hr ⊢
            simp only [hr, t2, bind_ok, RO_some]
            rfl
          rw [seq_rt hif]
          exact rt_set rfl
      · rw [if_neg (fun z => c2 z.1)]
        have hif2 : if2 A [some (.loc r), some (.int d), some (.str (ch l p)), none, none] (S.set r (rd A l (p + 1) (m + 1))) = .nx [some (.loc r), some (.int d), some (.str (ch l p)), none, none] (S.set r (rd A l (p + 1) (m + 1))) := by
          unfold if2
          exact if_fnx ((cq _ _ _ _ _).trans (by rw [decide_eq_false c2]))
        rw [seq_nx hif2]
        by_cases c3 : ch l p = [60]
        · rw [if_pos ⟨c3, hm⟩, c3]
          by_cases h1 : runN s_SMALL l 8 (p + 1) = p + 1
          · rw [if_pos (.inl h1)]
            have hr := c_run_f (A := A) (gD := gD_Reader_run_least_most) (mk := consM (cM (.int 1)) (consM (cM (.int 8)) nilM)) (zs := [.int 1, .int 8]) (j := 2) (k := 8) (ok := s_SMALL) (least := 1) (δ := [some (.loc r), some (.int d), some (.str [60]), none, none]) hl (h0 _ _ _ _) hS2 rfl rfl rfl (by omega)
            rw [List.set_set] at hr
            refine ⟨runN s_SMALL l 8 (p + 1), m + 1, ?_⟩
            have hif : if3 A [some (.loc r), some (.int d), some (.str [60]), none, none] (S.set r (rd A l (p + 1) (m + 1))) = .exc (bad A (runN s_SMALL l 8 (p + 1))) [some (.loc r), some (.int d), some (.str [60]), none, none] (S.set r (rd A l (runN s_SMALL l 8 (p + 1)) (m + 1))) := by
              unfold if3
              exact (if_t (cq _ _ _ _ _)).trans (seq_exc (asg_exc hr))
            rw [seq_exc hif, ex_set]
          · have hge := run_ge s_SMALL l 8 (p + 1)
            have hr := c_run_t (A := A) (gD := gD_Reader_run_least_most) (mk := consM (cM (.int 1)) (consM (cM (.int 8)) nilM)) (zs := [.int 1, .int 8]) (j := 2) (k := 8) (ok := s_SMALL) (least := 1) (δ := [some (.loc r), some (.int d), some (.str [60]), none, none]) hl (h0 _ _ _ _) hS2 rfl rfl rfl (by omega)
            rw [List.set_set] at hr
            have hS3 := rd_ok hS (p' := runN s_SMALL l 8 (p + 1)) (m' := m + 1)
            by_cases h2 : ch l (runN s_SMALL l 8 (p + 1)) = [62]
            · rw [if_neg (fun z => z.elim h1 (fun z => z h2))]
              show _ = Res.ok _ _
              have hp2 := c_pass_t (δ := [some (.loc r), some (.int d), some (.str [60]), some (.str (cutN l (p + 1) (runN s_SMALL l 8 (p + 1)))), none]) hl (h0 _ _ _ _) hS3 h2
              rw [List.set_set] at hp2
              have hif : if3 A [some (.loc r), some (.int d), some (.str [60]), none, none] (S.set r (rd A l (p + 1) (m + 1))) = .rt (.tup [.str w_row, .str (cutN l (p + 1) (runN s_SMALL l 8 (p + 1)))]) (S.set r (rd A l (runN s_SMALL l 8 (p + 1) + 1) (m + 1))) := by
                unfold if3
                exact (if_t (cq _ _ _ _ _)).trans ((seq_nx (asg_ok hr)).trans ((seq_nx hp2).trans (ret_ok rfl)))
              rw [seq_rt hif]
              exact rt_set rfl
            · rw [if_pos (.inr h2)]
              refine ⟨runN s_SMALL l 8 (p + 1), m + 1, ?_⟩
              have hp2 := c_pass_f (δ := [some (.loc r), some (.int d), some (.str [60]), some (.str (cutN l (p + 1) (runN s_SMALL l 8 (p + 1)))), none]) hl (h0 _ _ _ _) hS3 h2
              have hif : if3 A [some (.loc r), some (.int d), some (.str [60]), none, none] (S.set r (rd A l (p + 1) (m + 1))) = .exc (bad A (runN s_SMALL l 8 (p + 1))) [some (.loc r), some (.int d), some (.str [60]), some (.str (cutN l (p + 1) (runN s_SMALL l 8 (p + 1)))), none] (S.set r (rd A l (runN s_SMALL l 8 (p + 1)) (m + 1))) := by
                unfold if3
                exact (if_t (cq _ _ _ _ _)).trans ((seq_nx (asg_ok hr)).trans (seq_exc hp2))
              rw [seq_exc hif, ex_set]
        · rw [if_neg (fun z => c3 z.1)]
          have hif3 : if3 A [some (.loc r), some (.int d), some (.str (ch l p)), none, none] (S.set r (rd A l (p + 1) (m + 1))) = .nx [some (.loc r), some (.int d), some (.str (ch l p)), none, none] (S.set r (rd A l (p + 1) (m + 1))) := by
            unfold if3
            exact if_fnx ((cq _ _ _ _ _).trans (by rw [decide_eq_false c3]))
          rw [seq_nx hif3]
          have c4 : ch l p = [40] := by
            rcases k1 with z | z | z | z
            · exact absurd z c1
            · exact absurd z c2
            · exact absurd z c3
            · exact z
          have hd : d < 12 := k2.elim (fun z => absurd c4 z) id
          rw [if_pos ⟨c4, hm, hd⟩, c4]
          have hr := hrow hd (p + 1) (m + 1) _ (ch_at c4) (by omega) (by omega) hS2
          have hc := meth_is (C := A.Reader) (m := "row") (n := 2) (φ := φrow) (ms := consM (op2M addG (vM 1) (cM (.int 1))) nilM) (xs := [.int (d + 1)]) (h0 [40] none none (S.set r (rd A l (p + 1) (m + 1)))) hS2 rfl rfl rfl
          unfold stB
          have hoo := hok (p + 1) (m + 1) (d + 1)
          generalize row (p + 1) (m + 1) (d + 1) = o at hr hoo ⊢
          obtain ⟨e, t, m'⟩ := o
          cases t with
          | none =>
            obtain ⟨q, m2, hr⟩ := hr
            rw [List.set_set] at hr
            refine ⟨q, m2, ?_⟩
            rw [seq_exc (asg_exc (hc.trans hr)), ex_set]
          | some t =>
            have hr' : φrow [.loc r, .int (d + 1)] (S.set r (rd A l (p + 1) (m + 1))) = .ok (.tup t) ((S.set r (rd A l (p + 1) (m + 1))).set r (rd A l e m')) := hr
            rw [List.set_set] at hr'
            rw [seq_nx (asg_ok (hc.trans hr'))]
            have hS4 := rd_ok hS (p' := e) (m' := m')
            have htc : okD 0 (.tup t) = true := pl_cl (hoo t rfl)
            by_cases k5 : ch l e = [41]
            · have hp5 := c_pass_t (δ := [some (.loc r), some (.int d), some (.str [40]), none, some (.tup t)]) hl (h0 _ _ _ _) hS4 k5
              rw [List.set_set] at hp5
              show PO A l r S (finD S (seqM _ _ [some (.loc r), some (.int d), some (.str [40]), none, some (.tup t)] (S.set r (rd A l e m')))) _
              rw [seq_nx hp5]
              have hS5 := rd_ok hS (p' := e + 1) (m' := m')
              by_cases k6 : ch l (e + 1) = [42]
              · have hp6 := c_pass_t (δ := [some (.loc r), some (.int d), some (.str [40]), none, some (.tup t)]) hl (h0 _ _ _ _) hS5 k6
                rw [List.set_set] at hp6
                rw [seq_nx hp6]
                have hS6 := rd_ok hS (p' := e + 1 + 1) (m' := m')
                have hnum := number_ok hl (ch_at k6) hS6
                simp only [k5, k6, if_true]
                have hcn := meth_is (C := A.Reader) (m := "number") (n := 1) (φ := φReader_number A) (ms := nilM) (xs := []) (h0 [40] none (some (.tup t)) (S.set r (rd A l (e + 1 + 1) m'))) hS6 rfl rfl rfl
                show PO A l r S _ (match pTimes l (e + 1 + 1) with
                  | (e', none) => (e', none, m')
                  | (e', some v) => (e', some [.str w_times, .int v, .tup t], m'))
                generalize pTimes l (e + 1 + 1) = o2 at hnum ⊢
                obtain ⟨e2, v⟩ := o2
                cases v with
                | none =>
                  obtain ⟨q, hnum⟩ := hnum
                  rw [List.set_set] at hnum
                  refine ⟨q, m', ?_⟩
                  have : retM (callG tupG (consM (cM (.str [116, 105, 109, 101, 115])) (consM (methM A.Reader "number" 1 (φReader_number A) (vM 0) nilM []) (consM (vM 4) nilM)))) [some (.loc r), some (.int d), some (.str [40]), none, some (.tup t)] (S.set r (rd A l (e + 1 + 1) m')) = .exc (bad A e2) [some (.loc r), some (.int d), some (.str [40]), none, some (.tup t)] (S.set r (rd A l q m')) := by
                    refine ret_exc ?_
                    have hx := hcn.trans hnum
                    simp only [callG, consM, cM, bind_ok, hx, bind_exc]
                  rw [this, ex_set]
                | some v =>
                  have hnum' : φReader_number A [.loc r] (S.set r (rd A l (e + 1 + 1) m')) = .ok (.int v) ((S.set r (rd A l (e + 1 + 1) m')).set r (rd A l e2 m')) := hnum
                  rw [List.set_set] at hnum'
                  have : retM (callG tupG (consM (cM (.str [116, 105, 109, 101, 115])) (consM (methM A.Reader "number" 1 (φReader_number A) (vM 0) nilM []) (consM (vM 4) nilM)))) [some (.loc r), some (.int d), some (.str [40]), none, some (.tup t)] (S.set r (rd A l (e + 1 + 1) m')) = .rt (.tup [.str w_times, .int v, .tup t]) (S.set r (rd A l e2 m')) := by
                    refine ret_ok ?_
                    have hx := hcn.trans hnum'
                    have h4 : vM 4 [some (.loc r), some (.int d), some (.str [40]), none, some (.tup t)] (S.set r (rd A l e2 m')) = .ok (.tup t) (S.set r (rd A l e2 m')) := rfl
                    simp only [callG, consM, nilM, cM, bind_ok, hx, h4, t3, RO_some]
                    rfl
                  rw [this]
                  refine rt_set ?_
                  simp only [okD, okL, Bool.true_and, Bool.and_true] at htc ⊢
                  exact htc
              · have hp6 := c_pass_f (δ := [some (.loc r), some (.int d), some (.str [40]), none, some (.tup t)]) hl (h0 _ _ _ _) hS5 k6
                simp only [k5, k6, if_true, if_false]
                refine ⟨e + 1, m', ?_⟩
                rw [seq_exc hp6, ex_set]
            · have hp5 := c_pass_f (δ := [some (.loc r), some (.int d), some (.str [40]), none, some (.tup t)]) hl (h0 _ _ _ _) hS4 k5
              simp only [k5, if_false]
              refine ⟨e, m', ?_⟩
              show finD S (seqM _ _ [some (.loc r), some (.int d), some (.str [40]), none, some (.tup t)] (S.set r (rd A l e m'))) = _
              rw [seq_exc hp5, ex_set]
  · have hpn : pStep row l p m d = (p, none, m) := by
      unfold pStep
      rw [if_neg (fun z => hk ⟨⟨.inl z.1, z.2⟩, .inl (by rw [z.1]; exact ne _ _ (by decide))⟩), if_neg (fun z => hk ⟨⟨.inr (.inl z.1), z.2⟩, .inl (by rw [z.1]; exact ne _ _ (by decide))⟩),
        if_neg (fun z => hk ⟨⟨.inr (.inr (.inl z.1)), z.2⟩, .inl (by rw [z.1]; exact ne _ _ (by decide))⟩), if_neg (fun z => hk ⟨⟨.inr (.inr (.inr z.1)), z.2.1⟩, .inr z.2.2⟩)]
    rw [hpn]
    refine ⟨p, m, ?_⟩
    rw [stA_f hl hS hk]
    exact ex_same hS
end
theorem while_exc {nc : MB} {b : MS} {n : Nat} {δ δ2 : DEnv} {S S1 S2 : Store} {x : Ex} (h1 : nc δ S = .ok true S1) (h2 : b δ S1 = .exc x δ2 S2) : whileN nc b (n + 1) δ S = .exc x δ2 S2 := by
  unfold whileN
  rw [h1]
  simp only [bindS_ok, if_true, h2]
/-! ### how many steps; how far -/
def RM (row : Nat → Int → Int → Out) : Prop := ∀ p m d e t m', row p m d = (e, some t, m') → m ≤ 60 → m ≤ m' ∧ m' ≤ 60
theorem pStep_m {row : Nat → Int → Int → Out} (h : RM row) {l : List Nat} {p : Nat} {m d : Int} {e : Nat} {t : List SL.D} {m' : Int} (hs : pStep row l p m d = (e, some t, m')) : m + 1 ≤ m' ∧ m' ≤ 60 := by
  unfold pStep at hs
  split at hs
  · rename_i k; simp only [Prod.mk.injEq] at hs; omega
  · split at hs
    · rename_i k
      split at hs
      · simp at hs
      · simp only [Prod.mk.injEq] at hs; omega
    · split at hs
      · rename_i k
        split at hs
        · simp at hs
        · simp only [Prod.mk.injEq] at hs; omega
      · split at hs
        · rename_i k
          split at hs
          · simp at hs
          · rename_i e1 t1 m1 er
            have := h _ _ _ _ _ _ er (by omega)
            split at hs
            · split at hs
              · split at hs
                · simp at hs
                · simp only [Prod.mk.injEq] at hs; omega
              · simp at hs
            · simp at hs
        · simp at hs
theorem pSteps_m {step : Nat → Int → Out} {l : List Nat} (h : ∀ p m e t m', step p m = (e, some t, m') → m + 1 ≤ m' ∧ m' ≤ 60) : ∀ (k p : Nat) (m : Int) (acc : List SL.D) (e : Nat) (t : List SL.D) (m' : Int), pSteps step l k p m acc = (e, some t, m') → m ≤ m' ∧ m' ≤ 60
  | 0, p, m, acc, e, t, m', hs => by simp [pSteps] at hs
  | k + 1, p, m, acc, e, t, m', hs => by
    unfold pSteps at hs
    split at hs
    · simp at hs
    · rename_i e1 t1 m1 es
      have h1 := h _ _ _ _ _ es
      split at hs
      · have := pSteps_m h k _ _ _ _ _ _ hs
        omega
      · simp only [Prod.mk.injEq] at hs; omega
theorem pRow_m {l : List Nat} : ∀ f, RM (pRow l f)
  | 0 => fun p m d e t m' hs _ => by simp [pRow] at hs
  | f + 1 => fun p m d e t m' hs hm => by
    unfold pRow at hs
    split at hs
    · simp only [Prod.mk.injEq] at hs; omega
    · exact pSteps_m (fun p m e t m' hs => pStep_m (pRow_m f) hs) 62 p m [] e t m' hs
theorem pTimes_le {l : List Nat} {p : Nat} (hp : p ≤ l.length) : (pTimes l p).1 ≤ l.length := by
  have := run_len s_FIGURES l 31 p hp
  unfold pTimes
  split
  · rename_i k; exact ch_at k
  · split
    · exact hp
    · split
      · show runN s_FIGURES l 31 p - 1 ≤ _
        omega
      · exact this
theorem pStep_le {row : Nat → Int → Int → Out} {l : List Nat} (h : ∀ p m d, p ≤ l.length → (row p m d).1 ≤ l.length) {p : Nat} {m d : Int} (hp : p ≤ l.length) : (pStep row l p m d).1 ≤ l.length := by
  unfold pStep
  split
  · rename_i k; exact run_len _ _ _ _ (ch_at k.1)
  · split
    · rename_i k
      split
      · exact ch_at k.1
      · exact run_len _ _ _ _ (ch_at k.1)
    · split
      · rename_i k
        split
        · exact run_len _ _ _ _ (ch_at k.1)
        · rename_i k2
          have : ch l (runN s_SMALL l 8 (p + 1)) = [62] := by
            by_cases z : ch l (runN s_SMALL l 8 (p + 1)) = [62]
            · exact z
            · exact absurd (.inr z) k2
          exact ch_at this
      · split
        · rename_i k
          have hr := h (p + 1) (m + 1) (d + 1) (ch_at k.1)
          split
          · rename_i er; rw [er] at hr; exact hr
          · rename_i e1 t1 m1 er
            rw [er] at hr
            split
            · rename_i k5
              split
              · rename_i k6
                have := pTimes_le (l := l) (p := e1 + 2) (ch_at k6)
                split
                · rename_i et; rw [et] at this; exact this
                · rename_i et; rw [et] at this; exact this
              · exact ch_at k5
            · exact hr
        · exact hp
theorem pSteps_le {step : Nat → Int → Out} {l : List Nat} (h : ∀ p m, p ≤ l.length → (step p m).1 ≤ l.length) : ∀ (k p : Nat) (m : Int) (acc : List SL.D), p ≤ l.length → (pSteps step l k p m acc).1 ≤ l.length
  | 0, p, m, acc, hp => hp
  | k + 1, p, m, acc, hp => by
    unfold pSteps
    have h1 := h p m hp
    split
    · rename_i es; rw [es] at h1; exact h1
    · rename_i es
      rw [es] at h1
      split
      · rename_i k2; exact pSteps_le h k _ _ _ (ch_at k2)
      · exact h1
theorem pRow_le {l : List Nat} : ∀ (f p : Nat) (m d : Int), p ≤ l.length → (pRow l f p m d).1 ≤ l.length
  | 0, p, m, d, hp => hp
  | f + 1, p, m, d, hp => by
    unfold pRow
    split
    · rename_i k; exact ch_at k
    · exact pSteps_le (fun p m hp => pStep_le (fun p m d hp => pRow_le f p m d hp) hp) 62 p m [] hp
/-! ### the row -/
section
variable {A : Ad} {l : List Nat} {S : Store} {r : Nat}
noncomputable def rwC (A : Ad) : MB := cmpB eqG (methM A.Reader "here" 1 (φReader_here A) (vM 0) nilM []) (cM (.str [32]))
noncomputable def rwB (A : Ad) (φstep : Fn) : MS := (seqM (fldaugM A.Reader "now" addI (vM 0) (cM (.int 1)))
  (exprM (lmM appendG (vM 2) (consM (methM A.Reader "step" 2 φstep (vM 0) (consM (vM 1) nilM) []) nilM))))
def pT (step : Nat → Int → Out) (l : List Nat) (k e : Nat) (m : Int) (acc : List SL.D) : Out := if ch l e = [32] then pSteps step l k (e + 1) m acc else (e, some [.str w_steps, .tup acc], m)
def WR (A : Ad) (l : List Nat) (r : Nat) (S : Store) (δ : DEnv) (x : Flw) : Out → Prop
  | (e, some t, m') => ∃ acc, t = [.str w_steps, .tup acc] ∧ x = .nx δ (S.set r (rd A l e m') ++ [.lst acc])
  | (e, none, _) => ∃ q m'' acc, x = .exc (bad A e) δ (S.set r (rd A l q m'') ++ [.lst acc])
theorem row_while {φstep : Fn} {step : Nat → Int → Out} {d : Int} (hl : l.length ≤ 1000000) (hr : r < S.length) (hsm : ∀ p m e t m', step p m = (e, some t, m') → m + 1 ≤ m' ∧ m' ≤ 60) (hsl : ∀ p m, p ≤ l.length → (step p m).1 ≤ l.length)
    (hstep : ∀ p m S, p ≤ l.length → 0 ≤ m → m ≤ 60 → S[r]? = some (rd A l p m) → PO A l r S (φstep [.loc r, .int d] S) (step p m)) :
    ∀ (k e : Nat) (m : Int) (acc : List SL.D), 0 ≤ m → m ≤ 60 → 61 ≤ k + m → acc.length + k ≤ 62 → WR A l r S [some (.loc r), some (.int d), some (.loc S.length)] (whileN (rwC A) (rwB A φstep) (k + 1) [some (.loc r), some (.int d), some (.loc S.length)] (S.set r (rd A l e m) ++ [.lst acc])) (pT step l k e m acc) := by
  intro k
  induction k with
  | zero => intro e m acc _ h1 h2; omega
  | succ k ih =>
    intro e m acc hm0 h1 h2 h3
    have hS : ∀ (p : Nat) (m : Int) (acc : List SL.D), (S.set r (rd A l p m) ++ [Cell.lst acc])[r]? = some (rd A l p m) := fun p m acc => by
      rw [List.getElem?_append_left (by simpa using hr)]
      exact set_get hr
    have hset : ∀ (p p' : Nat) (m m' : Int) (acc : List SL.D), (S.set r (rd A l p m) ++ [Cell.lst acc]).set r (rd A l p' m') = S.set r (rd A l p' m') ++ [Cell.lst acc] := fun p p' m m' acc => by
      rw [set_app (by simpa using hr), List.set_set]
    have hlen : ∀ (p : Nat) (m : Int), (S.set r (rd A l p m)).length = S.length := fun p m => by simp
    have h0 : ∀ S2, vM 0 [some (.loc r), some (.int d), some (.loc S.length)] S2 = .ok (.loc r) S2 := fun S2 => rfl
    have hh := c_here hl (h0 _) (hS e m acc)
    unfold pT
    by_cases k1 : ch l e = [32]
    · rw [if_pos k1]
      have hc : rwC A [some (.loc r), some (.int d), some (.loc S.length)] (S.set r (rd A l e m) ++ [.lst acc]) = .ok true (S.set r (rd A l e m) ++ [.lst acc]) := by
        simp only [rwC, cmpB, hh, cM, gEqS, k1, asB, bind_ok, RO_some, decide_true]
      have ha := a_now (h0 _) (hS e m acc)
      rw [hset] at ha
      have hp1 := ch_at k1
      have hst := hstep (e + 1) m _ hp1 hm0 h1 (hS (e + 1) m acc)
      have hms := meth_is (C := A.Reader) (m := "step") (n := 2) (φ := φstep) (ms := consM (vM 1) nilM) (xs := [.int d]) (h0 (S.set r (rd A l (e + 1) m) ++ [.lst acc])) (hS (e + 1) m acc) rfl rfl rfl
      have hll : ∀ (p : Nat) (m : Int) (acc : List SL.D), locL (S.set r (rd A l p m) ++ [Cell.lst acc]) (.loc S.length) = some (S.length, acc) := fun p m acc => by
        show (match (S.set r (rd A l p m) ++ [Cell.lst acc])[S.length]? with | some (.lst ds) => some (S.length, ds) | _ => none) = _
        have := loc_at (S.set r (rd A l p m)) acc
        rw [hlen] at this
        rw [this]
      have h2v : ∀ S2, vM 2 [some (.loc r), some (.int d), some (.loc S.length)] S2 = .ok (.loc S.length) S2 := fun S2 => rfl
      have hsm' := hsm (e + 1) m
      unfold pSteps
      have hsl' := hsl (e + 1) m hp1
      generalize step (e + 1) m = o at hst hsm' hsl' ⊢
      obtain ⟨e2, t, m2⟩ := o
      cases t with
      | none =>
        obtain ⟨q, m3, hst⟩ := hst
        rw [hset] at hst
        refine ⟨q, m3, acc, ?_⟩
        refine while_exc hc ?_
        unfold rwB
        rw [seq_nx ha]
        refine expr_exc ?_
        have hx := hms.trans hst
        simp only [lmM, h2v, bind_ok, hll, consM, hx, bind_exc]
      | some t =>
        have hst' : φstep [.loc r, .int d] (S.set r (rd A l (e + 1) m) ++ [.lst acc]) = .ok (.tup t) ((S.set r (rd A l (e + 1) m) ++ [Cell.lst acc]).set r (rd A l e2 m2)) := hst
        rw [hset] at hst'
        have hm2 := hsm' e2 t m2 rfl
        have hb : rwB A φstep [some (.loc r), some (.int d), some (.loc S.length)] (S.set r (rd A l e m) ++ [.lst acc]) = .nx [some (.loc r), some (.int d), some (.loc S.length)] (S.set r (rd A l e2 m2) ++ [.lst (acc ++ [.tup t])]) := by
          unfold rwB
          rw [seq_nx ha]
          refine expr_ok (d := .non) ?_
          have hx := hms.trans hst'
          have e2' : appendG acc [.tup t] = some (.non, acc ++ [.tup t]) := if_pos (by omega)
          have hsa := set_at (S.set r (rd A l e2 m2)) acc (acc ++ [.tup t])
          rw [hlen] at hsa
          simp only [lmM, h2v, bind_ok, hll, consM, nilM, hx, e2', hsa]
        have hi := ih e2 m2 (acc ++ [.tup t]) (by omega) hm2.2 (by omega) (by simp; omega)
        rw [while_step hc hb rfl]
        exact hi
    · rw [if_neg k1]
      refine ⟨acc, rfl, ?_⟩
      refine while_end ?_
      simp only [rwC, cmpB, hh, cM, gEqS, k1, asB, bind_ok, RO_some, decide_false]
theorem prow_step {φstep : Fn} {step : Nat → Int → Out} {d : Int} {p : Nat} {m : Int} {n : Nat} {o : Out} (hl : l.length ≤ 1000000) (hp : p ≤ l.length) (hm0 : 0 ≤ m) (hm : m ≤ 60) (hS : S[r]? = some (rd A l p m)) (hsm : ∀ p m e t m', step p m = (e, some t, m') → m + 1 ≤ m' ∧ m' ≤ 60) (hsl : ∀ p m, p ≤ l.length → (step p m).1 ≤ l.length)
    (hstep : ∀ p m S, p ≤ l.length → 0 ≤ m → m ≤ 60 → S[r]? = some (rd A l p m) → PO A l r S (φstep [.loc r, .int d] S) (step p m)) (ho : o = if ch l p = [45] then (p + 1, some [.str w_steps, .tup []], m) else pSteps step l 62 p m []) (hcl : oOk n o) :
    PO A l r S (defM 3 (m_Reader_row A (φReader_here A) φstep) [.loc r, .int d] S) o := by
  have hf : defM 3 (m_Reader_row A (φReader_here A) φstep) [.loc r, .int d] S = finD S (m_Reader_row A (φReader_here A) φstep [some (.loc r), some (.int d), none] S) := rfl
  rw [hf]
  have hr := get_lt hS
  have h0 : vM 0 [some (.loc r), some (.int d), none] S = .ok (.loc r) S := rfl
  have hh := c_here hl h0 hS
  have hc : ∀ b, decide (ch l p = [45]) = b → cmpB eqG (methM A.Reader "here" 1 (φReader_here A) (vM 0) nilM []) (cM (.str [45])) [some (.loc r), some (.int d), none] S = .ok b S := fun b hb => by
    simp only [cmpB, hh, cM, gEqS, hb, asB, bind_ok, RO_some]
  unfold m_Reader_row
  by_cases k : ch l p = [45]
  · rw [if_pos k] at ho
    subst ho
    show _ = Res.ok _ _
    rw [seq_rt ((if_t (hc true (decide_eq_true k))).trans ((seq_nx (a_now h0 hS)).trans (ret_ok rfl)))]
    exact rt_set rfl
  · rw [if_neg k] at ho
    rw [seq_nx (if_fnx (hc false (decide_eq_false k)))]
    have hst := hstep p m S hp hm0 hm hS
    have hms := meth_is (C := A.Reader) (m := "step") (n := 2) (φ := φstep) (ms := consM (vM 1) nilM) (xs := [.int d]) h0 hS rfl rfl rfl
    have hlen : ∀ (p : Nat) (m : Int), (S.set r (rd A l p m)).length = S.length := fun p m => by simp
    have hex : ∀ (q e : Nat) (m' : Int) (acc : List SL.D) (δ : DEnv), finD S (.exc (bad A e) δ (S.set r (rd A l q m') ++ [.lst acc])) = .exc (bad A e) (S.set r (rd A l q m')) := fun q e m' acc δ => finX_cut rfl (hlen _ _) rd_set
    have hps : o = match step p m with
      | (e, none, m') => (e, none, m')
      | (e, some t, m') => pT step l 61 e m' [.tup t] := by
      rw [ho]
      show pSteps step l (61 + 1) p m [] = _
      unfold pSteps pT
      cases step p m with
      | mk e tm =>
        obtain ⟨t, m'⟩ := tm
        cases t <;> rfl
    have hsm' := hsm p m
    generalize step p m = o1 at hst hps hsm'
    obtain ⟨e, t, m'⟩ := o1
    cases t with
    | none =>
      obtain ⟨q, m3, hst⟩ := hst
      subst hps
      refine ⟨q, m3, ?_⟩
      have hx := hms.trans hst
      have : asgM 2 (lstLM (consM (methM A.Reader "step" 2 φstep (vM 0) (consM (vM 1) nilM) []) nilM)) [some (.loc r), some (.int d), none] S = .exc (bad A e) [some (.loc r), some (.int d), none] (S.set r (rd A l q m3)) := by
        refine asg_exc ?_
        simp only [lstLM, consM, hx, bind_exc]
      rw [seq_exc this, ex_set]
    | some t =>
      have hst' : φstep [.loc r, .int d] S = .ok (.tup t) (S.set r (rd A l e m')) := hst
      have hx := hms.trans hst'
      have hm2 := hsm' e t m' rfl
      have a1 : asgM 2 (lstLM (consM (methM A.Reader "step" 2 φstep (vM 0) (consM (vM 1) nilM) []) nilM)) [some (.loc r), some (.int d), none] S = .nx [some (.loc r), some (.int d), some (.loc S.length)] (S.set r (rd A l e m') ++ [.lst [.tup t]]) := by
        refine asg_ok (d := .loc S.length) ?_
        simp only [lstLM, consM, nilM, hx, bind_ok, List.length_cons, List.length_nil]
        rw [if_pos (by decide), hlen]
      rw [seq_nx a1]
      have hw := row_while (S := S) (d := d) hl hr hsm hsl hstep 61 e m' [.tup t] (by omega) hm2.2 (by omega) (by simp)
      have hps' : o = pT step l 61 e m' [.tup t] := hps
      rw [← hps'] at hw
      obtain ⟨e2, t2, m2⟩ := o
      have hwm : ∀ x : Flw, whileN (rwC A) (rwB A φstep) (61 + 1) [some (.loc r), some (.int d), some (.loc S.length)] (S.set r (rd A l e m') ++ [.lst [.tup t]]) = x → x ≠ .stuck →
          whileM (cmpB eqG (methM A.Reader "here" 1 (φReader_here A) (vM 0) nilM []) (cM (.str [32]))) (seqM (fldaugM A.Reader "now" addI (vM 0) (cM (.int 1))) (exprM (lmM appendG (vM 2) (consM (methM A.Reader "step" 2 φstep (vM 0) (consM (vM 1) nilM) []) nilM)))) [some (.loc r), some (.int d), some (.loc S.length)] (S.set r (rd A l e m') ++ [.lst [.tup t]]) = x := fun x hx hne => whileM_is 62 hx hne
      cases t2 with
      | none =>
        obtain ⟨q, m3, acc, hw⟩ := hw
        refine ⟨q, m3, ?_⟩
        rw [seq_exc (hwm _ hw (by intro z; cases z)), hex]
      | some t2 =>
        obtain ⟨acc, rfl, hw⟩ := hw
        show _ = Res.ok _ _
        rw [seq_nx (hwm _ hw (by intro z; cases z))]
        have htp : tupleG (S.set r (rd A l e2 m2) ++ [.lst acc]) [.loc S.length] = some (.tup acc) := by
          show (match (match (S.set r (rd A l e2 m2) ++ [Cell.lst acc])[S.length]? with | some (.lst ds) => some ds | _ => none) with | some ds => some (SL.D.tup ds) | none => none) = _
          have := loc_at (S.set r (rd A l e2 m2)) acc
          rw [hlen] at this
          rw [this]
        have t2' : ∀ (S : Store) (a b : SL.D), tupG S [a, b] = some (.tup [a, b]) := fun S a b => rfl
        have hret : retM (callG tupG (consM (cM (.str [115, 116, 101, 112, 115])) (consM (callG tupleG (consM (vM 2) nilM)) nilM))) [some (.loc r), some (.int d), some (.loc S.length)] (S.set r (rd A l e2 m2) ++ [.lst acc]) = .rt (.tup [.str w_steps, .tup acc]) (S.set r (rd A l e2 m2) ++ [.lst acc]) := by
          refine ret_ok ?_
          simp only [callG, consM, nilM, vM, cM, bind_ok, RO_some, htp, t2', List.getElem?_cons_zero, List.getElem?_cons_succ]
          rfl
        rw [hret]
        have hclo : okD 0 (.tup [.str w_steps, .tup acc]) = true := pl_cl (hcl _ rfl)
        exact fin_cut (fz_cl hclo) (hlen _ _) rd_set
theorem prow_ok (hl : l.length ≤ 1000000) : ∀ (f n p : Nat) (m d : Int) (S : Store), 1 ≤ f → d + f = 13 → 2 * f ≤ n → p ≤ l.length → 0 ≤ m → m ≤ 60 → S[r]? = some (rd A l p m) → PO A l r S ((grp_Reader_step_Reader_row A n).2 [.loc r, .int d] S) (pRow l f p m d) := by
  intro f
  induction f with
  | zero => intro n p m d S h; omega
  | succ f ih =>
    intro n p m d S _ hd hn hp hm0 hm hS
    obtain ⟨n, rfl⟩ : ∃ j, n = j + 2 := ⟨n - 2, by omega⟩
    have hok := pRow_ok (l := l) (f + 1) p m d
    refine prow_step (step := fun p m => pStep (pRow l f) l p m d) hl hp hm0 hm hS (fun p m e t m' hs => pStep_m (pRow_m f) hs) (fun p m hp => pStep_le (fun p m d hp => pRow_le f p m d hp) hp) (fun p m S hp hm0 hm hS => ?_) rfl hok
    exact pstep_ok (n := 3 * f) hl hm0 hS (fun p m d => pRow_ok f p m d) fun hd2 p m S hp2 hm1 hm2 hS2 => ih n p m (d + 1) S (by omega) (by omega) (by omega) hp2 hm1 hm2 hS2
end
section
variable {A : Ad} {l : List Nat} {S : Store}
theorem ch_end {p : Nat} (hp : p ≤ l.length) : ch l p = [] ↔ p = l.length := by
  cases e : l[p]? with
  | none =>
    have := List.getElem?_eq_none_iff.mp e
    rw [ch_nil e]
    simp
    omega
  | some c =>
    have := (List.getElem?_eq_some_iff.mp e).1
    rw [ch_some e]
    constructor
    · intro z; cases z
    · intro z; omega
def tellO (l : List Nat) (o : Out) : SL.D := match o with
  | (e, some t, _) => if ch l e = [] then .tup t else .int e
  | (e, none, _) => .int e
def tell (l : List Nat) : SL.D := tellO l (pRow l 13 0 0 0)
theorem tell_pl (l : List Nat) : pl 40 (tell l) := by
  have h := pRow_ok (l := l) 13 0 0 0
  unfold tell
  generalize pRow l 13 0 0 0 = o at h ⊢
  obtain ⟨e, t, m⟩ := o
  cases t with
  | none => trivial
  | some t =>
    unfold tellO
    by_cases k : ch l e = []
    · simp only [k, if_true]; exact h t rfl
    · simp only [k, if_false]; trivial
theorem obj_set {c c' : Cell} : (S ++ [c]).set S.length c' = S ++ [c'] := by
  rw [List.set_append_right _ _ (Nat.le_refl _)]
  simp
theorem obj_get {c : Cell} : (S ++ [c])[S.length]? = some c := by simp
theorem init_ok : φReader_init A [.loc S.length, .str l] (S ++ [.obj A.Reader [] []]) = .ok .non (S ++ [rd A l 0 0]) := by
  show finD (S ++ [.obj A.Reader [] []]) (m_Reader_init A [some (.loc S.length), some (.str l)] (S ++ [.obj A.Reader [] []])) = _
  have h0 : ∀ S2, vM 0 [some (.loc S.length), some (.str l)] S2 = .ok (.loc S.length) S2 := fun S2 => rfl
  have : m_Reader_init A [some (.loc S.length), some (.str l)] (S ++ [.obj A.Reader [] []]) = .nx [some (.loc S.length), some (.str l)] (S ++ [rd A l 0 0]) := by
    unfold m_Reader_init
    have a1 := setf_ok (f := "signs") (mv := vM 1) (d := .str l) (δ := [some (.loc S.length), some (.str l)]) (S := S ++ [.obj A.Reader [] []]) rfl (h0 _) obj_get (by decide)
    rw [obj_set] at a1
    rw [seq_nx a1]
    have a2 := setf_ok (C := A.Reader) (f := "now") (mv := cM (.int 0)) (d := .int 0) (δ := [some (.loc S.length), some (.str l)]) (ns := ["signs"]) (ds := [.str l]) (S := S ++ [.obj A.Reader (putS [] [] "signs" (SL.D.str l)).1 (putS [] [] "signs" (SL.D.str l)).2]) rfl (h0 _) obj_get (by decide)
    rw [obj_set] at a2
    rw [seq_nx a2]
    have a3 := setf_ok (C := A.Reader) (f := "many") (mv := cM (.int 0)) (d := .int 0) (δ := [some (.loc S.length), some (.str l)]) (S := S ++ [.obj A.Reader ["signs", "now"] [.str l, .int 0]]) rfl (h0 _) obj_get (by decide)
    rw [obj_set] at a3
    exact a3
  rw [this]
  exact fin_cl (d := .non) rfl (by simp)
def readR (A : Ad) (l : List Nat) (S : Store) (x : Res SL.D) : Out → Prop
  | (e, some t, _) => if ch l e = [] then x = .ok (.tup t) S else x = .exc (bad A e) S
  | (e, none, _) => x = .exc (bad A e) S
theorem read_ok (hl : l.length ≤ 1000000) : readR A l S (φread_row A [.str l] S) (pRow l 13 0 0 0) := by
  have hf : φread_row A [.str l] S = finD S (m_read_row A (φReader_init A) (φReader_row A) (φReader_here A) (φReader_need A) [some (.str l), none, none] S) := rfl
  rw [hf]
  have a1 : asgM 1 (makeM A.Reader 2 (φReader_init A) (consM (vM 0) nilM) []) [some (.str l), none, none] S = .nx [some (.str l), some (.loc S.length), none] (S ++ [rd A l 0 0]) := by
    refine asg_ok (d := .loc S.length) ?_
    have hi := init_ok (A := A) (l := l) (S := S)
    have hn : SL.isNon .non = true := rfl
    simp only [makeM, mkM, consM, nilM, vM, bind_ok, List.append_nil, List.length_cons, List.length_nil, Nat.reduceAdd, if_true, List.getElem?_cons_zero, hi, hn]
  have hset : ∀ (p : Nat) (m : Int), (S ++ [rd A l 0 0]).set S.length (rd A l p m) = S ++ [rd A l p m] := fun p m => obj_set
  have hr := prow_ok (A := A) (l := l) (r := S.length) hl 13 60 0 0 0 (S ++ [rd A l 0 0]) (by omega) (by omega) (by omega) (Nat.zero_le _) (by omega) (by omega) obj_get
  have hcl := pRow_ok (l := l) 13 0 0 0
  have hm := meth_is (C := A.Reader) (m := "row") (n := 2) (φ := φReader_row A) (mo := vM 1) (ms := consM (cM (.int 0)) nilM) (xs := [.int 0]) (δ := [some (.str l), some (.loc S.length), none]) (S := S ++ [rd A l 0 0]) rfl obj_get rfl rfl rfl
  have hex : ∀ (q e : Nat) (m' : Int) (δ : DEnv), finD S (.exc (bad A e) δ (S ++ [rd A l q m'])) = .exc (bad A e) S := fun q e m' δ => finX_cut rfl rfl Settles.same
  unfold m_read_row
  rw [seq_nx a1]
  generalize pRow l 13 0 0 0 = o at hr hcl ⊢
  obtain ⟨e, t, m⟩ := o
  cases t with
  | none =>
    obtain ⟨q, m2, hr⟩ := hr
    rw [hset] at hr
    show _ = Res.exc _ _
    rw [seq_exc (asg_exc (hm.trans hr)), hex]
  | some t =>
    have hr' : φReader_row A [.loc S.length, .int 0] (S ++ [rd A l 0 0]) = .ok (.tup t) ((S ++ [rd A l 0 0]).set S.length (rd A l e m)) := hr
    rw [hset] at hr'
    rw [seq_nx (asg_ok (hm.trans hr'))]
    have hS : (S ++ [rd A l e m])[S.length]? = some (rd A l e m) := obj_get
    have hh := (meth_is (C := A.Reader) (m := "here") (n := 1) (φ := φReader_here A) (mo := vM 1) (ms := nilM) (xs := []) (δ := [some (.str l), some (.loc S.length), some (.tup t)]) (S := S ++ [rd A l e m]) rfl hS rfl rfl rfl).trans (here_ok hl hS)
    have hb : consM (op2M eqG (methM A.Reader "here" 1 (φReader_here A) (vM 1) nilM []) (cM (.str []))) nilM [some (.str l), some (.loc S.length), some (.tup t)] (S ++ [rd A l e m]) = .ok [.bl (decide (ch l e = []))] (S ++ [rd A l e m]) := by
      simp only [consM, nilM, op2M, hh, cM, gEqS, bind_ok, RO_some]
    have hn := meth_is (C := A.Reader) (m := "need") (n := 2) (φ := φReader_need A) (mo := vM 1) (δ := [some (.str l), some (.loc S.length), some (.tup t)]) (S := S ++ [rd A l e m]) rfl hS rfl hb rfl
    unfold readR
    show if ch l e = [] then _ else _
    by_cases k : ch l e = []
    · rw [if_pos k]
      have := expr_ok (hn.trans (need_t (decide_eq_true k)))
      show finD S (seqM _ _ [some (.str l), some (.loc S.length), some (.tup t)] (S ++ [rd A l e m])) = _
      rw [seq_nx this]
      show finV S (.tup t) (S ++ [rd A l e m]) = _
      exact fin_cut (fz_cl (pl_cl (hcl t rfl))) rfl Settles.same
    · rw [if_neg k]
      have := expr_exc (hn.trans (need_f (decide_eq_false k) hS))
      show finD S (seqM _ _ [some (.str l), some (.loc S.length), some (.tup t)] (S ++ [rd A l e m])) = _
      rw [seq_exc this, hex]
end
end K27

/-! k27: trees of rows in plain Lean; their text; what the law writes. -/
namespace K27
open PySem PySem.Spec L2 SL
/-- texts one behind the other -/
def glue (ws : List (List Nat)) : List Nat := if ws = [] then [45] else joinL [32] ws
inductive T where
  | nil
  | call (x : List Nat) (r : T)
  | turn (x : List Nat) (r : T)
  | row (x : List Nat) (r : T)
  | times (n : Nat) (t r : T)
namespace T
def its : T → List SL.D
  | nil => []
  | call x r => .tup [.str w_call, .str x] :: its r
  | turn x r => .tup [.str w_turn, .str x] :: its r
  | row x r => .tup [.str w_row, .str x] :: its r
  | times n t r => .tup [.str w_times, .int n, .tup [.str w_steps, .tup (its t)]] :: its r
def wds : T → List (List Nat)
  | nil => []
  | call x r => ([46] ++ x) :: wds r
  | turn x r => ([126] ++ x) :: wds r
  | row x r => ([60] ++ x ++ [62]) :: wds r
  | times n t r => ([40] ++ glue (wds t) ++ [41, 42] ++ strI n) :: wds r
def cnt : T → Nat
  | nil => 0
  | call _ r => cnt r + 1
  | turn _ r => cnt r + 1
  | row _ r => cnt r + 1
  | times _ t r => cnt t + cnt r + 1
def dp : T → Nat
  | nil => 0
  | call _ r => dp r
  | turn _ r => dp r
  | row _ r => dp r
  | times _ t r => max (dp t + 1) (dp r)
def wt : T → Nat
  | nil => 1
  | call x r => x.length + 2 + wt r
  | turn x r => x.length + 2 + wt r
  | row x r => x.length + 3 + wt r
  | times n t r => wt t + (strI n).length + 4 + wt r
/-- steps as rows have them -/
def ok : T → Prop
  | nil => True
  | call x r => x.length ≤ 12 ∧ (∀ c ∈ x, c ∈ s_LETTERS) ∧ ok r
  | turn x r => 1 ≤ x.length ∧ x.length ≤ 12 ∧ (∀ c ∈ x, c ∈ s_LETTERS) ∧ ok r
  | row x r => 1 ≤ x.length ∧ x.length ≤ 8 ∧ (∀ c ∈ x, c ∈ s_SMALL) ∧ ok r
  | times n t r => n ≤ 10 ^ 30 ∧ ok t ∧ ok r
end T
def tD (t : T) : SL.D := .tup [.str w_steps, .tup t.its]
def txt (t : T) : List Nat := glue t.wds
theorem its_wds : ∀ t : T, t.its.length = t.wds.length
  | .nil => rfl
  | .call _ r => congrArg (· + 1) (its_wds r)
  | .turn _ r => congrArg (· + 1) (its_wds r)
  | .row _ r => congrArg (· + 1) (its_wds r)
  | .times _ _ r => congrArg (· + 1) (its_wds r)
theorem joinL_len (s : List Nat) : ∀ ls : List (List Nat), (joinL s ls).length ≤ (ls.map List.length).sum + ls.length * s.length
  | [] => by simp [joinL]
  | [x] => by simp [joinL]
  | x :: y :: r => by
    have := joinL_len s (y :: r)
    have e : (x :: y :: r).length * s.length = (y :: r).length * s.length + s.length := by simp [Nat.add_mul]
    simp only [joinL, List.length_append, List.map_cons, List.sum_cons] at this ⊢
    rw [e]
    omega
theorem glue_len (ws : List (List Nat)) : (glue ws).length ≤ (ws.map List.length).sum + ws.length + 1 := by
  unfold glue
  split
  · simp
  · have := joinL_len [32] ws
    simp only [List.length_cons, List.length_nil] at this
    omega
theorem wds_len : ∀ t : T, (t.wds.map List.length).sum + t.wds.length + 1 ≤ t.wt
  | .nil => by simp [T.wds, T.wt]
  | .call x r => by have := wds_len r; simp [T.wds, T.wt]; omega
  | .turn x r => by have := wds_len r; simp [T.wds, T.wt]; omega
  | .row x r => by have := wds_len r; simp [T.wds, T.wt]; omega
  | .times n t r => by
    have := wds_len r
    have h1 := wds_len t
    have h2 := glue_len t.wds
    simp [T.wds, T.wt]
    omega
theorem txt_len (t : T) : (txt t).length ≤ t.wt := Nat.le_trans (glue_len t.wds) (wds_len t)
theorem its_len (t : T) : t.its.length < t.wt := by
  rw [its_wds]
  have := wds_len t
  omega
theorem asSs_map : ∀ xs : List (List Nat), asSs (xs.map SL.D.str) = some xs
  | [] => rfl
  | x :: xs => by simp [asSs, asSs_map xs]
theorem join_ok {S : Store} {s : List Nat} {y : SL.D} {xs : List (List Nat)} (hy : asQ S y = some (xs.map SL.D.str)) (h : (xs.map List.length).sum + xs.length * s.length ≤ 1000000) : joinG S (.str s) [y] = some (.str (joinL s xs)) := by
  show (match asQ S y with | some ds => (match asSs ds with | some ls => if (ls.map List.length).sum + ls.length * s.length ≤ 1000000 then some (SL.D.str (joinL s ls)) else none | none => none) | none => none) = _
  rw [hy]
  show (match asSs (xs.map SL.D.str) with | some ls => if (ls.map List.length).sum + ls.length * s.length ≤ 1000000 then some (SL.D.str (joinL s ls)) else none | none => none) = _
  rw [asSs_map]
  exact if_pos h
theorem app_ok {i : Nat} {δ : DEnv} {S S2 : Store} {acc : List SL.D} {x : SL.D} {me : ME} (hv : δ[i]? = some (some (.loc S.length))) (hm : me δ (S ++ [.lst acc]) = .ok x (S2 ++ [.lst acc])) (hl : S2.length = S.length) (hn : acc.length < 1000000) :
    exprM (lmM appendG (vM i) (consM me nilM)) δ (S ++ [.lst acc]) = .nx δ (S2 ++ [.lst (acc ++ [x])]) := by
  refine expr_ok (d := .non) ?_
  have e0 : vM i δ (S ++ [.lst acc]) = .ok (.loc S.length) (S ++ [.lst acc]) := by unfold vM; rw [hv]
  have e1 : locL (S ++ [.lst acc]) (.loc S.length) = some (S.length, acc) := by show (match (S ++ [Cell.lst acc])[S.length]? with | some (Cell.lst ds) => some (S.length, ds) | _ => none) = _; rw [loc_at S acc]
  have e2 : locL (S2 ++ [.lst acc]) (.loc S.length) = some (S.length, acc) := by rw [← hl]; show (match (S2 ++ [Cell.lst acc])[S2.length]? with | some (Cell.lst ds) => some (S2.length, ds) | _ => none) = _; rw [loc_at S2 acc]
  have e3 : appendG acc [x] = some (.non, acc ++ [x]) := if_pos hn
  have e4 : (S2 ++ [Cell.lst acc]).set S.length (.lst (acc ++ [x])) = S2 ++ [.lst (acc ++ [x])] := by rw [← hl]; exact set_at S2 acc _
  simp only [lmM, consM, nilM, e0, e1, hm, bind_ok, e2, e3, e4]
theorem gStr {S : Store} {i : Int} (h : i.natAbs.log2 < 1920) : strG S [.int i] = some (.str (strI i)) := by
  show (if i.natAbs.log2 < 1920 then some (SL.D.str (strI i)) else none) = _
  rw [if_pos h]
theorem log_ok {n : Nat} (h : n ≤ 10 ^ 30) : ((n : Nat) : Int).natAbs.log2 < 1920 := by
  rw [Int.natAbs_natCast]
  rcases Nat.eq_zero_or_pos n with rfl | hp
  · decide
  · refine (Nat.log2_lt (by omega)).mpr (Nat.lt_of_le_of_lt h ?_)
    exact Nat.lt_of_lt_of_le (show 10 ^ 30 < 2 ^ 100 by decide) (Nat.pow_le_pow_right (by decide) (by decide))
end K27

/-! k27: what the law writes: _law_text. -/
namespace K27
open PySem PySem.Spec L2 SL
noncomputable def textB (φ : Fn) : MS := (ifSM (cmpB eqG (op2M ixG (vM 2) (cM (.int 0))) (cM (.str [116, 105, 109, 101, 115]))) (exprM (lmM appendG (vM 1) (consM (op2M addG (op2M addG (op2M addG (cM (.str [40])) (appM 1 φ (consM (op2M ixG (vM 2) (cM (.int 2))) nilM) [])) (cM (.str [41, 42]))) (callG strG (consM (op2M ixG (vM 2) (cM (.int 1))) nilM))) nilM))) (ifSM (cmpB eqG (op2M ixG (vM 2) (cM (.int 0))) (cM (.str [114, 111, 119]))) (exprM (lmM appendG (vM 1) (consM (op2M addG (op2M addG (cM (.str [60])) (op2M ixG (vM 2) (cM (.int 1)))) (cM (.str [62]))) nilM))) (exprM (lmM appendG (vM 1) (consM (op2M addG (op2M ixG (callG lstG (consM (cM (.str [46])) (consM (cM (.str [126])) nilM))) (callG intG (consM (op2M eqG (op2M ixG (vM 2) (cM (.int 0))) (cM (.str [116, 117, 114, 110]))) nilM))) (op2M ixG (vM 2) (cM (.int 1)))) nilM)))))
noncomputable def textE : MS := (retM (ifM (cmpB eqG (vM 1) (callG lstG nilM)) (cM (.str [45])) (mtS joinG (cM (.str [32])) (consM (vM 1) nilM))))
theorem mtext_eq (A : Ad) (φ : Fn) : m_law_text A φ = seqM (asgM 1 (lstLM nilM)) (seqM (SL.forM (srcV (op2M ixG (vM 0) (cM (.int 1)))) (.nm 2) (textB φ)) textE) := rfl
theorem text_call {φ : Fn} {S0 : Store} {k : Nat} {y : SL.D} {x : List Nat} {acc : List SL.D} {S : Store} (hS : S0 = S ++ [.lst acc]) (hk : k = S.length) (hx : x.length ≤ 12) (ha : acc.length < 1000000) :
    textB φ [some y, some (.loc k), some (.tup [.str w_call, .str x])] S0 = .nx [some y, some (.loc k), some (.tup [.str w_call, .str x])] (S ++ [.lst (acc ++ [.str ([46] ++ x)])]) := by
  subst hS hk
  unfold textB
  rw [if_f (S1 := S ++ [.lst acc]) rfl, if_f (S1 := S ++ [.lst acc]) rfl]
  refine app_ok rfl ?_ rfl ha
  have g : addG (S ++ [.lst acc]) (.str [46]) (.str x) = some (.str ([46] ++ x)) := gAddS (by simp; omega)
  show RO (addG (S ++ [.lst acc]) (.str [46]) (.str x)) (S ++ [.lst acc]) = _
  rw [g]
  rfl
theorem text_turn {φ : Fn} {S0 : Store} {k : Nat} {y : SL.D} {x : List Nat} {acc : List SL.D} {S : Store} (hS : S0 = S ++ [.lst acc]) (hk : k = S.length) (hx : x.length ≤ 12) (ha : acc.length < 1000000) :
    textB φ [some y, some (.loc k), some (.tup [.str w_turn, .str x])] S0 = .nx [some y, some (.loc k), some (.tup [.str w_turn, .str x])] (S ++ [.lst (acc ++ [.str ([126] ++ x)])]) := by
  subst hS hk
  unfold textB
  rw [if_f (S1 := S ++ [.lst acc]) rfl, if_f (S1 := S ++ [.lst acc]) rfl]
  refine app_ok rfl ?_ rfl ha
  have g : addG (S ++ [.lst acc]) (.str [126]) (.str x) = some (.str ([126] ++ x)) := gAddS (by simp; omega)
  show RO (addG (S ++ [.lst acc]) (.str [126]) (.str x)) (S ++ [.lst acc]) = _
  rw [g]
  rfl
theorem text_row {φ : Fn} {S0 : Store} {k : Nat} {y : SL.D} {x : List Nat} {acc : List SL.D} {S : Store} (hS : S0 = S ++ [.lst acc]) (hk : k = S.length) (hx : x.length ≤ 12) (ha : acc.length < 1000000) :
    textB φ [some y, some (.loc k), some (.tup [.str w_row, .str x])] S0 = .nx [some y, some (.loc k), some (.tup [.str w_row, .str x])] (S ++ [.lst (acc ++ [.str ([60] ++ x ++ [62])])]) := by
  subst hS hk
  unfold textB
  rw [if_f (S1 := S ++ [.lst acc]) rfl, if_t (S1 := S ++ [.lst acc]) rfl]
  refine app_ok rfl ?_ rfl ha
  have g : addG (S ++ [.lst acc]) (.str [60]) (.str x) = some (.str ([60] ++ x)) := gAddS (by simp; omega)
  have g2 : addG (S ++ [.lst acc]) (.str ([60] ++ x)) (.str [62]) = some (.str ([60] ++ x ++ [62])) := gAddS (by simp; omega)
  show ((RO (addG (S ++ [.lst acc]) (.str [60]) (.str x)) (S ++ [.lst acc])).bind fun a S1 => RO (addG S1 a (.str [62])) S1) = _
  rw [g]
  show RO (addG (S ++ [.lst acc]) (.str ([60] ++ x)) (.str [62])) (S ++ [.lst acc]) = _
  rw [g2]
  rfl
theorem text_times {φ : Fn} {S0 : Store} {k n : Nat} {y : SL.D} {t : T} {acc : List SL.D} {S : Store} (hS : S0 = S ++ [.lst acc]) (hk : k = S.length) (hn : n ≤ 10 ^ 30) (hw : t.wt + (strI n).length ≤ 900000) (ha : acc.length < 1000000)
    (hf : ∀ S, φ [tD t] S = .ok (.str (txt t)) S) :
    textB φ [some y, some (.loc k), some (.tup [.str w_times, .int n, tD t])] S0 = .nx [some y, some (.loc k), some (.tup [.str w_times, .int n, tD t])] (S ++ [.lst (acc ++ [.str ([40] ++ txt t ++ [41, 42] ++ strI n)])]) := by
  subst hS hk
  have hl := txt_len t
  unfold textB
  rw [if_t (S1 := S ++ [.lst acc]) rfl]
  refine app_ok rfl ?_ rfl ha
  have g1 : addG (S ++ [.lst acc]) (.str [40]) (.str (txt t)) = some (.str ([40] ++ txt t)) := gAddS (by simp; omega)
  have g2 : addG (S ++ [.lst acc]) (.str ([40] ++ txt t)) (.str [41, 42]) = some (.str ([40] ++ txt t ++ [41, 42])) := gAddS (by simp; omega)
  have g3 : addG (S ++ [.lst acc]) (.str ([40] ++ txt t ++ [41, 42])) (.str (strI n)) = some (.str ([40] ++ txt t ++ [41, 42] ++ strI n)) := gAddS (by simp; omega)
  have g4 : strG (S ++ [.lst acc]) [.int n] = some (.str (strI n)) := gStr (log_ok hn)
  have v2 : vM 2 [some y, some (.loc S.length), some (.tup [.str w_times, .int n, tD t])] (S ++ [.lst acc]) = .ok (.tup [.str w_times, .int n, tD t]) (S ++ [.lst acc]) := rfl
  have i1 : ixG (S ++ [.lst acc]) (.tup [.str w_times, .int n, tD t]) (.int 1) = some (.int n) := rfl
  have i2 : ixG (S ++ [.lst acc]) (.tup [.str w_times, .int n, tD t]) (.int 2) = some (tD t) := rfl
  simp only [op2M, appM, callG, consM, nilM, cM, v2, i1, i2, hf, g1, g2, g3, g4, bind_ok, RO_some, List.append_nil, List.length_cons, List.length_nil, Nat.reduceAdd, if_true]
theorem text_loop {φ : Fn} {S : Store} {y : SL.D} {ds : List SL.D} : ∀ (r : T) (acc : List (List Nat)) (z : Option SL.D), r.ok → acc.length + r.wt ≤ 500000 → (∀ t : T, t.dp + 1 ≤ r.dp → t.wt ≤ r.wt → t.ok → ∀ S, φ [tD t] S = .ok (.str (txt t)) S) →
    ∃ z', forL (.vals (.tup ds)) (.nm 2) (textB φ) ds r.its [some y, some (.loc S.length), z] (S ++ [.lst (acc.map SL.D.str)]) = .nx [some y, some (.loc S.length), z'] (S ++ [.lst ((acc ++ r.wds).map SL.D.str)])
  | .nil, acc, z, _, _, _ => ⟨z, by rw [show T.its .nil = [] from rfl, forL_nil rfl]; simp [T.wds]⟩
  | .call x r, acc, z, ho, hw, hs => by
    simp only [T.wt] at hw
    have ha : (acc.map SL.D.str).length < 1000000 := by rw [List.length_map]; omega
    obtain ⟨z', e⟩ := text_loop r (acc ++ [[46] ++ x]) (some (.tup [.str w_call, .str x])) ho.2.2 (by simp; omega) (fun t h1 h2 h3 => hs t h1 (by simp only [T.wt]; omega) h3)
    refine ⟨z', ?_⟩
    rw [show T.its (.call x r) = .tup [.str w_call, .str x] :: r.its from rfl, forL_nx rfl rfl (text_call rfl rfl ho.1 ha)]
    rw [show acc.map SL.D.str ++ [.str ([46] ++ x)] = (acc ++ [[46] ++ x]).map SL.D.str by simp]
    rw [List.append_assoc acc [([46] ++ x)] r.wds] at e
    exact e
  | .turn x r, acc, z, ho, hw, hs => by
    simp only [T.wt] at hw
    have ha : (acc.map SL.D.str).length < 1000000 := by rw [List.length_map]; omega
    obtain ⟨z', e⟩ := text_loop r (acc ++ [[126] ++ x]) (some (.tup [.str w_turn, .str x])) ho.2.2.2 (by simp; omega) (fun t h1 h2 h3 => hs t h1 (by simp only [T.wt]; omega) h3)
    refine ⟨z', ?_⟩
    rw [show T.its (.turn x r) = .tup [.str w_turn, .str x] :: r.its from rfl, forL_nx rfl rfl (text_turn rfl rfl ho.2.1 ha)]
    rw [show acc.map SL.D.str ++ [.str ([126] ++ x)] = (acc ++ [[126] ++ x]).map SL.D.str by simp]
    rw [List.append_assoc acc [([126] ++ x)] r.wds] at e
    exact e
  | .row x r, acc, z, ho, hw, hs => by
    simp only [T.wt] at hw
    have ha : (acc.map SL.D.str).length < 1000000 := by rw [List.length_map]; omega
    obtain ⟨z', e⟩ := text_loop r (acc ++ [[60] ++ x ++ [62]]) (some (.tup [.str w_row, .str x])) ho.2.2.2 (by simp; omega) (fun t h1 h2 h3 => hs t h1 (by simp only [T.wt]; omega) h3)
    refine ⟨z', ?_⟩
    rw [show T.its (.row x r) = .tup [.str w_row, .str x] :: r.its from rfl, forL_nx rfl rfl (text_row rfl rfl (Nat.le_trans ho.2.1 (by decide)) ha)]
    rw [show acc.map SL.D.str ++ [.str ([60] ++ x ++ [62])] = (acc ++ [[60] ++ x ++ [62]]).map SL.D.str by simp]
    rw [List.append_assoc acc [([60] ++ x ++ [62])] r.wds] at e
    exact e
  | .times n t r, acc, z, ho, hw, hs => by
    simp only [T.wt] at hw
    have ha : (acc.map SL.D.str).length < 1000000 := by rw [List.length_map]; omega
    obtain ⟨z', e⟩ := text_loop r (acc ++ [[40] ++ txt t ++ [41, 42] ++ strI n]) (some (.tup [.str w_times, .int n, tD t])) ho.2.2 (by simp only [List.length_append, List.length_cons, List.length_nil]; omega) (fun t' h1 h2 h3 => hs t' (by simp only [T.dp]; omega) (by simp only [T.wt]; omega) h3)
    refine ⟨z', ?_⟩
    rw [show T.its (.times n t r) = .tup [.str w_times, .int n, tD t] :: r.its from rfl, forL_nx rfl rfl (text_times rfl rfl ho.1 (by omega) ha (hs t (by simp only [T.dp]; omega) (by simp only [T.wt]; omega) ho.2.1))]
    rw [show acc.map SL.D.str ++ [.str ([40] ++ txt t ++ [41, 42] ++ strI n)] = (acc ++ [[40] ++ txt t ++ [41, 42] ++ strI n]).map SL.D.str by simp]
    rw [List.append_assoc acc [([40] ++ txt t ++ [41, 42] ++ strI n)] r.wds] at e
    exact e
theorem strI_num (n : Nat) : strI n = TL.numL n := TL.tl_num n
theorem strI_dig {n c : Nat} (h : c ∈ strI n) : 48 ≤ c ∧ c ≤ 57 := by
  rw [strI_num] at h
  exact TL.numL_digits n c h
theorem lets_asc : ∀ c ∈ s_LETTERS, c < 128 := by decide
theorem smal_asc : ∀ c ∈ s_SMALL, c < 128 := by decide
def asc1 (x : List Nat) : Prop := ∀ c ∈ x, c < 128
theorem asc_app {x y : List Nat} (hx : asc1 x) (hy : asc1 y) : asc1 (x ++ y) := fun c h => (List.mem_append.mp h).elim (hx c) (hy c)
theorem asc_join {s : List Nat} (hs : asc1 s) : ∀ {ws : List (List Nat)}, (∀ w ∈ ws, asc1 w) → asc1 (joinL s ws)
  | [], _ => by intro c h; cases h
  | [x], h => h x (by simp)
  | x :: y :: r, h => asc_app (asc_app (h x (by simp)) hs) (asc_join hs (ws := y :: r) fun w hw => h w (by simp [hw]))
theorem asc_glue {ws : List (List Nat)} (h : ∀ w ∈ ws, asc1 w) : asc1 (glue ws) := by
  unfold glue
  split
  · intro c hc; simp at hc; omega
  · exact asc_join (by intro c hc; simp at hc; omega) h
theorem asc_1 {c : Nat} (h : c < 128) : asc1 [c] := fun x hx => by rw [List.mem_singleton.mp hx]; exact h
theorem asc_wds : ∀ t : T, t.ok → ∀ w ∈ t.wds, asc1 w
  | .nil, _, w, h => by cases h
  | .call x r, ho, w, h => by
    rcases List.mem_cons.mp h with rfl | h
    · exact asc_app (asc_1 (by decide)) fun c hc => lets_asc c (ho.2.1 c hc)
    · exact asc_wds r ho.2.2 w h
  | .turn x r, ho, w, h => by
    rcases List.mem_cons.mp h with rfl | h
    · exact asc_app (asc_1 (by decide)) fun c hc => lets_asc c (ho.2.2.1 c hc)
    · exact asc_wds r ho.2.2.2 w h
  | .row x r, ho, w, h => by
    rcases List.mem_cons.mp h with rfl | h
    · exact asc_app (asc_app (asc_1 (by decide)) fun c hc => smal_asc c (ho.2.2.1 c hc)) (asc_1 (by decide))
    · exact asc_wds r ho.2.2.2 w h
  | .times n t r, ho, w, h => by
    rcases List.mem_cons.mp h with rfl | h
    · refine asc_app (asc_app (asc_app (asc_1 (by decide)) (asc_glue (asc_wds t ho.2.1))) ?_) fun c hc => by have := strI_dig hc; omega
      intro c hc
      simp at hc
      omega
    · exact asc_wds r ho.2.2 w h
theorem eq_nil {S : Store} {ws : List (List Nat)} {y z : Option SL.D} (hb : ∀ w ∈ ws, asc1 w) : cmpB eqG (vM 1) (callG lstG nilM) [y, some (.loc S.length), z] (S ++ [.lst (ws.map SL.D.str)]) = .ok (decide (ws = [])) (S ++ [.lst (ws.map SL.D.str)]) := by
  have e1 : asL (S ++ [.lst (ws.map SL.D.str)]) (.loc S.length) = some (ws.map SL.D.str) := by
    show (match (S ++ [Cell.lst (ws.map SL.D.str)])[S.length]? with | some (Cell.lst ds) => some ds | _ => none) = _
    rw [loc_at]
  have e2 : ∀ ws : List (List Nat), toPys (ws.map SL.D.str) = some (ws.map fun l => PyData.str ⟨l.toArray⟩) := fun ws => by
    induction ws with
    | nil => rfl
    | cons w ws ih => simp only [List.map_cons, toPys, toPy, ih]
  have e3 : toPyS (S ++ [.lst (ws.map SL.D.str)]) (.loc S.length) = some (.list (ws.map fun l => PyData.str ⟨l.toArray⟩)) := by
    simp only [toPyS, e1, e2]
  have e4 : ∀ ws : List (List Nat), (∀ w ∈ ws, asc1 w) → PyData.canLayAll0 (ws.map fun l => PyData.str ⟨l.toArray⟩) = true ∧ PyData.depthAll (ws.map fun l => PyData.str ⟨l.toArray⟩) = 0 := fun ws hb => by
    induction ws with
    | nil => exact ⟨rfl, rfl⟩
    | cons w ws ih =>
      obtain ⟨i1, i2⟩ := ih fun w hw => hb w (by simp [hw])
      have : PyData.strOk ⟨w.toArray⟩ = true := by
        unfold PyData.strOk
        simp only [List.all_toArray, List.all_eq_true, decide_eq_true_eq]
        intro c hc
        have := hb w (by simp) c hc
        omega
      simp only [List.map_cons, PyData.canLayAll0, PyData.canLay0, PyData.depthAll, PyData.depth, this, i1, i2, Bool.and_self, Nat.max_self, and_self]
  obtain ⟨f1, f2⟩ := e4 ws hb
  have e5 : SeqAt.shaped (.list (ws.map fun l => PyData.str ⟨l.toArray⟩)) = true := by
    unfold SeqAt.shaped
    simp only [PyData.canLay0, PyData.depth, f1, f2]
    decide
  have e6 : PyData.eqv (.list (ws.map fun l => PyData.str ⟨l.toArray⟩)) (.list []) = decide (ws = []) := by
    cases ws with
    | nil => rfl
    | cons w ws => rfl
  have e : eqG (S ++ [.lst (ws.map SL.D.str)]) (.loc S.length) (.lst []) = some (.bl (decide (ws = []))) := by
    have e7 : eqB (S ++ [.lst (ws.map SL.D.str)]) (.loc S.length) (.lst []) = some (decide (ws = [])) := by
      show (match toPyS (S ++ [.lst (ws.map SL.D.str)]) (.loc S.length), toPyS (S ++ [.lst (ws.map SL.D.str)]) (.lst []) with
        | some p, some q => if SeqAt.shaped p = true ∧ SeqAt.shaped q = true then some (PyData.eqv p q) else none
        | _, _ => none) = _
      rw [e3]
      show (if SeqAt.shaped (.list (ws.map fun l => PyData.str ⟨l.toArray⟩)) = true ∧ SeqAt.shaped (.list []) = true then some (PyData.eqv (.list (ws.map fun l => PyData.str ⟨l.toArray⟩)) (.list [])) else none) = _
      rw [if_pos ⟨e5, by decide⟩, e6]
    unfold eqG
    rw [e7]
  have v1 : vM 1 [y, some (.loc S.length), z] (S ++ [.lst (ws.map SL.D.str)]) = .ok (.loc S.length) (S ++ [.lst (ws.map SL.D.str)]) := rfl
  have l0 : lstG (S ++ [.lst (ws.map SL.D.str)]) [] = some (.lst []) := rfl
  simp only [cmpB, op2M, callG, nilM, v1, l0, e, asB, bind_ok, RO_some]
theorem law_text_ok {A : Ad} : ∀ (n : Nat) (t : T), t.dp < n → t.ok → t.wt ≤ 400000 → ∀ S, grp_law_text A n [tD t] S = .ok (.str (txt t)) S
  | 0, t, h, _, _, _ => by omega
  | n + 1, t, h, ho, hw, S => by
    have hf : grp_law_text A (n + 1) [tD t] S = finD S (m_law_text A (grp_law_text A n) [some (tD t), none, none] S) := rfl
    rw [hf, mtext_eq]
    have a1 : asgM 1 (lstLM nilM) [some (tD t), none, none] S = .nx [some (tD t), some (.loc S.length), none] (S ++ [.lst []]) := asg_ok rfl
    rw [seq_nx a1]
    obtain ⟨z, e⟩ := text_loop (φ := grp_law_text A n) (S := S) (y := tD t) (ds := t.its) t [] none ho (by simp; omega) (fun t' h1 h2 h3 S => law_text_ok n t' (by omega) h3 (by omega) S)
    have e2 : SL.forM (srcV (op2M ixG (vM 0) (cM (.int 1)))) (.nm 2) (textB (grp_law_text A n)) [some (tD t), some (.loc S.length), none] (S ++ [.lst []]) = .nx [some (tD t), some (.loc S.length), z] (S ++ [.lst (t.wds.map SL.D.str)]) := (forM_is (src := .vals (.tup t.its)) (ds := t.its) rfl rfl).trans e
    rw [seq_nx e2]
    have hwl := wds_len t
    have e3 : textE [some (tD t), some (.loc S.length), z] (S ++ [.lst (t.wds.map SL.D.str)]) = .rt (.str (txt t)) (S ++ [.lst (t.wds.map SL.D.str)]) := by
      unfold textE
      refine ret_ok ?_
      unfold ifM
      rw [eq_nil (asc_wds t ho)]
      unfold txt glue
      by_cases hn : t.wds = []
      · simp only [hn, decide_true, bind_ok, if_true, cM]
      · simp only [hn, decide_false, bind_ok, if_false, Bool.false_eq_true]
        have hj : joinG (S ++ [.lst (t.wds.map SL.D.str)]) (.str [32]) [.loc S.length] = some (.str (joinL [32] t.wds)) := join_ok (xs := t.wds) (by
          show (match (match (S ++ [Cell.lst (t.wds.map SL.D.str)])[S.length]? with | some (Cell.lst ds) => some ds | _ => none) with | some ds => some ds | none => asT (.loc S.length)) = _
          rw [loc_at]) (by simp only [List.length_cons, List.length_nil]; omega)
        have v1 : vM 1 [some (tD t), some (.loc S.length), z] (S ++ [.lst (t.wds.map SL.D.str)]) = .ok (.loc S.length) (S ++ [.lst (t.wds.map SL.D.str)]) := rfl
        simp only [mtS, consM, nilM, cM, v1, hj, isS, bind_ok, RO_some, if_true]
    rw [e3]
    exact fin_cut (d := .str _) (fz_cl rfl) rfl Settles.same
end K27

/-! k27: what the program writes: step_text, told_text. -/
namespace K27
open PySem PySem.Spec L2 SL
theorem seq_no {nc : MB} {m1 m2 : MS} {δ : DEnv} {S S1 : Store} (h : nc δ S = .ok false S1) : seqM (ifSM nc m1 nxM) m2 δ S = m2 δ S1 := seq_nx (if_fnx h)
theorem map_of {α : Type} {f : α → SL.D} {xs : List SL.D} {ws : List α} (hl : xs.length = ws.length) (h : ∀ (k : Nat) (x : SL.D), xs[k]? = some x → ∃ w, ws[k]? = some w ∧ x = f w) : xs = ws.map f := by
  apply List.ext_getElem?
  intro k
  rw [List.getElem?_map]
  cases e : xs[k]? with
  | none =>
    have := List.getElem?_eq_none_iff.mp e
    rw [List.getElem?_eq_none_iff.mpr (by omega)]
    rfl
  | some x =>
    obtain ⟨w, e1, rfl⟩ := h k x e
    rw [e1]
    rfl
/-- what step_text tells of a step -/
def StepOk (φ : Fn) (d : SL.D) (w : List Nat) : Prop := ∀ S, φ [d] S = .ok (.str w) S
section
variable {A : Ad} {φ : Fn} {S : Store} {x : List Nat}
theorem st_call (hx : x.length ≤ 1000) : StepOk (defM 3 (m_step_text A φ)) (.tup [.str w_call, .str x]) ([46] ++ x) := fun S => by
  show finD S (m_step_text A φ [some (.tup [.str w_call, .str x]), none, none] S) = _
  unfold m_step_text
  have a1 : asgS [(.nm 1), (.nm 2)] 1 (vM 0) [some (.tup [.str w_call, .str x]), none, none] S = .nx [some (.tup [.str w_call, .str x]), some (.str w_call), some (.lst [.str x])] S := rfl
  rw [seq_nx a1]
  have i1 : ∀ S : Store, ixG S (.lst [.str x]) (.int 0) = some (.str x) := fun S => rfl
  have v2 : vM 2 [some (.tup [.str w_call, .str x]), some (.str w_call), some (.lst [.str x])] S = .ok (.lst [.str x]) S := rfl
  have f1 : fmtG (.str x) = some (.str x) := if_pos (by omega)
  have r1 : retM (jsL [(cM (.str [46])), (fmtM (op2M ixG (vM 2) (cM (.int 0))))] []) [some (.tup [.str w_call, .str x]), some (.str w_call), some (.lst [.str x])] S = .rt (.str ([46] ++ x)) S := by
    refine ret_ok ?_
    simp only [jsL, fmtM, op2M, cM, v2, i1, f1, bind_ok, RO_some, List.nil_append, List.length_nil, List.length_cons]
    rw [if_pos (by omega), if_pos (by omega)]
  have r2 : ifSM (cmpB eqG (vM 1) (cM (.str [99, 97, 108, 108]))) (retM (jsL [(cM (.str [46])), (fmtM (op2M ixG (vM 2) (cM (.int 0))))] [])) nxM [some (.tup [.str w_call, .str x]), some (.str w_call), some (.lst [.str x])] S = .rt (.str ([46] ++ x)) S := (if_t (S1 := S) rfl).trans r1
  rw [seq_rt r2]
  exact rt_fin rfl
theorem st_turn (hx : x.length ≤ 1000) : StepOk (defM 3 (m_step_text A φ)) (.tup [.str w_turn, .str x]) ([126] ++ x) := fun S => by
  show finD S (m_step_text A φ [some (.tup [.str w_turn, .str x]), none, none] S) = _
  unfold m_step_text
  have a1 : asgS [(.nm 1), (.nm 2)] 1 (vM 0) [some (.tup [.str w_turn, .str x]), none, none] S = .nx [some (.tup [.str w_turn, .str x]), some (.str w_turn), some (.lst [.str x])] S := rfl
  rw [seq_nx a1]
  have i1 : ∀ S : Store, ixG S (.lst [.str x]) (.int 0) = some (.str x) := fun S => rfl
  have v2 : vM 2 [some (.tup [.str w_turn, .str x]), some (.str w_turn), some (.lst [.str x])] S = .ok (.lst [.str x]) S := rfl
  have f1 : fmtG (.str x) = some (.str x) := if_pos (by omega)
  have r1 : retM (jsL [(cM (.str [126])), (fmtM (op2M ixG (vM 2) (cM (.int 0))))] []) [some (.tup [.str w_turn, .str x]), some (.str w_turn), some (.lst [.str x])] S = .rt (.str ([126] ++ x)) S := by
    refine ret_ok ?_
    simp only [jsL, fmtM, op2M, cM, v2, i1, f1, bind_ok, RO_some, List.nil_append, List.length_nil, List.length_cons]
    rw [if_pos (by omega), if_pos (by omega)]
  rw [seq_no (S1 := S) rfl]
  have r2 : ifSM (cmpB eqG (vM 1) (cM (.str [116, 117, 114, 110]))) (retM (jsL [(cM (.str [126])), (fmtM (op2M ixG (vM 2) (cM (.int 0))))] [])) nxM [some (.tup [.str w_turn, .str x]), some (.str w_turn), some (.lst [.str x])] S = .rt (.str ([126] ++ x)) S := (if_t (S1 := S) rfl).trans r1
  rw [seq_rt r2]
  exact rt_fin rfl
theorem st_row (hx : x.length ≤ 1000) : StepOk (defM 3 (m_step_text A φ)) (.tup [.str w_row, .str x]) ([60] ++ x ++ [62]) := fun S => by
  show finD S (m_step_text A φ [some (.tup [.str w_row, .str x]), none, none] S) = _
  unfold m_step_text
  have a1 : asgS [(.nm 1), (.nm 2)] 1 (vM 0) [some (.tup [.str w_row, .str x]), none, none] S = .nx [some (.tup [.str w_row, .str x]), some (.str w_row), some (.lst [.str x])] S := rfl
  rw [seq_nx a1]
  have i1 : ∀ S : Store, ixG S (.lst [.str x]) (.int 0) = some (.str x) := fun S => rfl
  have v2 : vM 2 [some (.tup [.str w_row, .str x]), some (.str w_row), some (.lst [.str x])] S = .ok (.lst [.str x]) S := rfl
  have f1 : fmtG (.str x) = some (.str x) := if_pos (by omega)
  have r1 : retM (jsL [(cM (.str [60])), (fmtM (op2M ixG (vM 2) (cM (.int 0)))), (cM (.str [62]))] []) [some (.tup [.str w_row, .str x]), some (.str w_row), some (.lst [.str x])] S = .rt (.str ([60] ++ x ++ [62])) S := by
    refine ret_ok ?_
    simp only [jsL, fmtM, op2M, cM, v2, i1, f1, bind_ok, RO_some, List.nil_append, List.length_nil, List.length_cons, List.length_append]
    rw [if_pos (by omega), if_pos (by omega), if_pos (by omega)]
  rw [seq_no (S1 := S) rfl, seq_no (S1 := S) rfl]
  have r2 : ifSM (cmpB eqG (vM 1) (cM (.str [114, 111, 119]))) (retM (jsL [(cM (.str [60])), (fmtM (op2M ixG (vM 2) (cM (.int 0)))), (cM (.str [62]))] [])) nxM [some (.tup [.str w_row, .str x]), some (.str w_row), some (.lst [.str x])] S = .rt (.str ([60] ++ x ++ [62])) S := (if_t (S1 := S) rfl).trans r1
  rw [seq_rt r2]
  exact rt_fin rfl
theorem st_times {n : Nat} {t : T} (hn : n ≤ 10 ^ 30) (hw : t.wt + (strI n).length ≤ 900000) (hf : ∀ S, φ [tD t] S = .ok (.str (txt t)) S) : StepOk (defM 3 (m_step_text A φ)) (.tup [.str w_times, .int n, tD t]) ([40] ++ txt t ++ [41, 42] ++ strI n) := fun S => by
  have hl := txt_len t
  show finD S (m_step_text A φ [some (.tup [.str w_times, .int n, tD t]), none, none] S) = _
  unfold m_step_text
  have a1 : asgS [(.nm 1), (.nm 2)] 1 (vM 0) [some (.tup [.str w_times, .int n, tD t]), none, none] S = .nx [some (.tup [.str w_times, .int n, tD t]), some (.str w_times), some (.lst [.int n, tD t])] S := rfl
  rw [seq_nx a1]
  have i1 : ∀ S : Store, ixG S (.lst [.int n, tD t]) (.int 0) = some (.int n) := fun S => rfl
  have i2 : ∀ S : Store, ixG S (.lst [.int n, tD t]) (.int 1) = some (tD t) := fun S => rfl
  have v2 : vM 2 [some (.tup [.str w_times, .int n, tD t]), some (.str w_times), some (.lst [.int n, tD t])] S = .ok (.lst [.int n, tD t]) S := rfl
  have f1 : fmtG (.str (txt t)) = some (.str (txt t)) := if_pos (by omega)
  have f2 : fmtG (.int n) = some (.str (strI n)) := if_pos (log_ok hn)
  have r1 : retM (jsL [(cM (.str [40])), (fmtM (appM 1 φ (consM (op2M ixG (vM 2) (cM (.int 1))) nilM) [])), (cM (.str [41, 42])), (fmtM (op2M ixG (vM 2) (cM (.int 0))))] []) [some (.tup [.str w_times, .int n, tD t]), some (.str w_times), some (.lst [.int n, tD t])] S = .rt (.str ([40] ++ txt t ++ [41, 42] ++ strI n)) S := by
    refine ret_ok ?_
    simp only [jsL, fmtM, op2M, appM, consM, nilM, cM, v2, i1, i2, hf, f1, f2, bind_ok, RO_some, List.nil_append, List.append_nil, List.length_nil, List.length_cons, List.length_append, Nat.reduceAdd, if_true]
    rw [if_pos (by omega), if_pos (by omega), if_pos (by omega), if_pos (by omega)]
  rw [seq_no (S1 := S) rfl, seq_no (S1 := S) rfl, seq_no (S1 := S) rfl, r1]
  exact rt_fin rfl
end
theorem steps_at {A : Ad} {φ : Fn} : ∀ (r : T), r.ok → r.wt ≤ 500000 → (∀ t : T, t.dp + 1 ≤ r.dp → t.wt ≤ r.wt → t.ok → ∀ S, φ [tD t] S = .ok (.str (txt t)) S) → ∀ (k : Nat) (d : SL.D), r.its[k]? = some d → ∃ w, r.wds[k]? = some w ∧ StepOk (defM 3 (m_step_text A φ)) d w
  | .nil, _, _, _, k, d, h => by simp [T.its] at h
  | .call x r, ho, hw, hs, 0, d, h => by cases h; exact ⟨_, rfl, st_call (Nat.le_trans ho.1 (by decide))⟩
  | .turn x r, ho, hw, hs, 0, d, h => by cases h; exact ⟨_, rfl, st_turn (Nat.le_trans ho.2.1 (by decide))⟩
  | .row x r, ho, hw, hs, 0, d, h => by cases h; exact ⟨_, rfl, st_row (Nat.le_trans ho.2.1 (by decide))⟩
  | .times n t r, ho, hw, hs, 0, d, h => by
    cases h
    simp only [T.wt] at hw
    exact ⟨_, rfl, st_times ho.1 (by omega) (hs t (by simp only [T.dp]; omega) (by simp only [T.wt]; omega) ho.2.1)⟩
  | .call x r, ho, hw, hs, k + 1, d, h => steps_at r ho.2.2 (by simp only [T.wt] at hw; omega) (fun t h1 h2 h3 => hs t h1 (by simp only [T.wt]; omega) h3) k d h
  | .turn x r, ho, hw, hs, k + 1, d, h => steps_at r ho.2.2.2 (by simp only [T.wt] at hw; omega) (fun t h1 h2 h3 => hs t h1 (by simp only [T.wt]; omega) h3) k d h
  | .row x r, ho, hw, hs, k + 1, d, h => steps_at r ho.2.2.2 (by simp only [T.wt] at hw; omega) (fun t h1 h2 h3 => hs t h1 (by simp only [T.wt]; omega) h3) k d h
  | .times n t r, ho, hw, hs, k + 1, d, h => steps_at r ho.2.2 (by simp only [T.wt] at hw; omega) (fun t' h1 h2 h3 => hs t' (by simp only [T.dp]; omega) (by simp only [T.wt]; omega) h3) k d h
theorem told_text_ok {A : Ad} : ∀ (n : Nat) (t : T), 2 * t.dp + 1 < n → t.ok → t.wt ≤ 400000 → ∀ S, (grp_step_text_told_text A n).2 [tD t] S = .ok (.str (txt t)) S
  | 0, t, h, _, _, _ => by omega
  | 1, t, h, _, _, _ => by omega
  | n + 2, t, h, ho, hw, S => by
    have hf : (grp_step_text_told_text A (n + 2)).2 [tD t] S = finD S (m_told_text A (defM 3 (m_step_text A (grp_step_text_told_text A n).2)) [some (tD t), none] S) := rfl
    rw [hf]
    have hi := its_len t
    have hwl := wds_len t
    have hc := comp_gen (mi := srcV (op2M ixG (vM 0) (cM (.int 1)))) (el := appM 1 (defM 3 (m_step_text A (grp_step_text_told_text A n).2)) (consM (vM 1) nilM) []) (i := 1) (δ := [some (tD t), none]) (S := S) (S1 := S) (src := .vals (.tup t.its)) (ds := t.its) (Inv := fun S0 => S0 = S) (P := fun k x => ∃ w, t.wds[k]? = some w ∧ x = SL.D.str w) rfl rfl (fun S0 h => by rw [h]) (fun S0 h => by rw [h]; exact Settles.same) (fun S0 t' h => rfl) (by omega) (fun k d hd S0 acc hI => by
      obtain ⟨w, h1, h2⟩ := steps_at (A := A) (φ := (grp_step_text_told_text A n).2) t ho (by omega) (fun t' h1 h2 h3 S => told_text_ok n t' (by omega) h3 (by omega) S) k d hd
      refine ⟨.str w, S0, hI, ⟨w, h1, rfl⟩, rfl, ?_⟩
      simp only [appM, consM, nilM, vM, bind_ok, List.set_cons_succ, List.set_cons_zero, List.getElem?_cons_zero, List.getElem?_cons_succ, List.append_nil, List.length_cons, List.length_nil, Nat.reduceAdd, if_true]
      exact h2 _)
    obtain ⟨xs, S2, rfl, e2, e3, e4, e5⟩ := hc
    have ex : xs = t.wds.map SL.D.str := map_of (by rw [e2, its_wds]) e3
    subst ex
    have e1 : retM (ifM (cmpB gtG (callG lenG (consM (op2M ixG (vM 0) (cM (.int 1))) nilM)) (cM (.int 0))) (mtS joinG (cM (.str [32])) (consM (compM (srcV (op2M ixG (vM 0) (cM (.int 1)))) (.nm 1) yesB (appM 1 (defM 3 (m_step_text A (grp_step_text_told_text A n).2)) (consM (vM 1) nilM) []) [1]) nilM)) (cM (.str [45]))) [some (tD t), none] S2 = .rt (.str (txt t)) S2 := by
      refine ret_ok ?_
      have c1 : cmpB gtG (callG lenG (consM (op2M ixG (vM 0) (cM (.int 1))) nilM)) (cM (.int 0)) [some (tD t), none] S2 = .ok (decide (0 < t.its.length)) S2 := by
        have : cmpB gtG (callG lenG (consM (op2M ixG (vM 0) (cM (.int 1))) nilM)) (cM (.int 0)) [some (tD t), none] S2 = .ok (decide ((0 : Int) < (t.its.length : Int))) S2 := rfl
        rw [this]
        congr 1
        simp
      unfold ifM
      rw [c1]
      unfold txt glue
      by_cases hn : t.wds = []
      · have h0 : t.its.length = 0 := by rw [its_wds, hn]; rfl
        simp only [hn, h0, Nat.lt_irrefl, decide_false, bind_ok, if_true, if_false, Bool.false_eq_true, cM]
      · have h0 : 0 < t.its.length := by rw [its_wds]; exact List.length_pos_iff.mpr hn
        have hj : joinG S2 (.str [32]) [.lst (t.wds.map SL.D.str)] = some (.str (joinL [32] t.wds)) := join_ok rfl (by simp only [List.length_cons, List.length_nil]; omega)
        have hc2 : ∀ {me : ME} {d : SL.D} {δ : DEnv}, me δ S2 = .ok d S2 → consM me nilM δ S2 = .ok [d] S2 := fun h => by unfold consM nilM; rw [h]; rfl
        simp only [hn, h0, decide_true, bind_ok, if_true, if_false]
        unfold mtS
        simp only [cM, bind_ok, isS, if_true]
        rw [hc2 e5]
        simp only [bind_ok, hj, RO_some]
    show finD S2 (retM _ [some (tD t), none] S2) = _
    rw [e1]
    exact rt_fin rfl
end K27

/-! k27: what the program judges: is_built, many_steps, deep_of, is_row; row_text. -/
namespace K27
open PySem PySem.Spec L2 SL
section
variable {A : Ad} {φ : Fn} {S : Store} {x : List Nat}
theorem sg_at {x : List Nat} {k : Nat} {d : SL.D} (h : (SL.signs x)[k]? = some d) : ∃ c, c ∈ x ∧ d = .str [c] := by
  have h' : (x.map fun c => SL.D.str [c])[k]? = some d := h
  rw [List.getElem?_map] at h'
  cases e : x[k]? with
  | none => rw [e] at h'; cases h'
  | some c =>
    rw [e] at h'
    cases h'
    exact ⟨c, List.mem_of_getElem? e, rfl⟩
theorem all_bl {xs : List SL.D} (h : ∀ (k : Nat) (y : SL.D), xs[k]? = some y → y = SL.D.bl true) {S : Store} : allG S [.lst xs] = some (.bl true) := by
  obtain ⟨bs, f1, f2⟩ := bs_all h
  show (match asBs xs with | some bs => some (SL.D.bl (bs.all id)) | none => none) = _
  rw [f1]
  simp [f2]
theorem are_ok {least : Int} (hx : x.length ≤ 12) (hl : least ≤ x.length) (ha : ∀ c ∈ x, c ∈ s_LETTERS) : φare_letters A [.str x, .int least] S = .ok (.bl true) S := by
  have hf : φare_letters A [.str x, .int least] S = finD S (m_are_letters A [some (.str x), some (.int least), none] S) := rfl
  rw [hf]
  have hc := comp_gen (mi := srcV (vM 0)) (el := op2M inG (vM 2) (cM (.str s_LETTERS))) (i := 2) (δ := [some (.str x), some (.int least), none]) (S := S) (S1 := S) (src := .vals (.str x)) (ds := SL.signs x) (Inv := fun S0 => S0 = S) (P := fun k y => y = SL.D.bl true) rfl rfl (fun S0 h => by rw [h]) (fun S0 h => by rw [h]; exact Settles.same) (fun S0 t' h => rfl) (by unfold SL.signs; simp; omega) (fun k d hd S0 acc hI => by
    obtain ⟨c, hcm, rfl⟩ := sg_at hd
    refine ⟨.bl true, S0, hI, rfl, rfl, ?_⟩
    simp only [op2M, vM, cM, gInC, ha c hcm, decide_true, bind_ok, RO_some, List.set_cons_succ, List.set_cons_zero, List.getElem?_cons_zero, List.getElem?_cons_succ])
  obtain ⟨xs, S2, rfl, e2, e3, e4, e5⟩ := hc
  have l0 : lenG S2 [.str x] = some (.int x.length) := gLenS (by omega)
  have h12 : (x.length : Int) ≤ 12 := by omega
  have : m_are_letters A [some (.str x), some (.int least), none] S2 = .rt (.bl true) S2 := by
    unfold m_are_letters
    refine ret_ok ?_
    rw [andM_t (callG_ok (two_ok (v_ok rfl) c_ok) rfl)]
    rw [andM_t (ch_t (v_ok (d := .int least) rfl) (callG_ok (one_ok (v_ok rfl)) l0) (gLeI.trans (by rw [decide_eq_true hl])) c_ok (gLeI.trans (by rw [decide_eq_true h12])))]
    exact callG_ok (one_ok e5) (all_bl e3)
  rw [this]
  exact rt_fin rfl
theorem name_ok (h1 : 1 ≤ x.length) (hx : x.length ≤ 8) (ha : ∀ c ∈ x, c ∈ s_SMALL) : φis_name A [.str x] S = .ok (.bl true) S := by
  have hf : φis_name A [.str x] S = finD S (m_is_name A [some (.str x), none] S) := rfl
  rw [hf]
  have hc := comp_gen (mi := srcV (vM 0)) (el := op2M inG (vM 1) (cM (.str s_SMALL))) (i := 1) (δ := [some (.str x), none]) (S := S) (S1 := S) (src := .vals (.str x)) (ds := SL.signs x) (Inv := fun S0 => S0 = S) (P := fun k y => y = SL.D.bl true) rfl rfl (fun S0 h => by rw [h]) (fun S0 h => by rw [h]; exact Settles.same) (fun S0 t' h => rfl) (by unfold SL.signs; simp; omega) (fun k d hd S0 acc hI => by
    obtain ⟨c, hcm, rfl⟩ := sg_at hd
    refine ⟨.bl true, S0, hI, rfl, rfl, ?_⟩
    simp only [op2M, vM, cM, gInC, ha c hcm, decide_true, bind_ok, RO_some, List.set_cons_succ, List.set_cons_zero, List.getElem?_cons_zero, List.getElem?_cons_succ])
  obtain ⟨xs, S2, rfl, e2, e3, e4, e5⟩ := hc
  have l0 : lenG S2 [.str x] = some (.int x.length) := gLenS (by omega)
  have h1' : (1 : Int) ≤ x.length := by omega
  have h8 : (x.length : Int) ≤ 8 := by omega
  have : m_is_name A [some (.str x), none] S2 = .rt (.bl true) S2 := by
    unfold m_is_name
    refine ret_ok ?_
    rw [andM_t (ch_t c_ok (callG_ok (one_ok (v_ok rfl)) l0) (gLeI.trans (by rw [decide_eq_true h1'])) c_ok (gLeI.trans (by rw [decide_eq_true h8])))]
    exact callG_ok (one_ok e5) (all_bl e3)
  rw [this]
  exact rt_fin rfl
theorem times_ok {n : Nat} (hn : n ≤ 10 ^ 30) : φis_times A [.int n] S = .ok (.bl true) S := by
  have hf : φis_times A [.int n] S = finD S (m_is_times A [some (.int n)] S) := rfl
  rw [hf]
  have h0 : (0 : Int) ≤ n := by omega
  have h1 : (n : Int) ≤ 1000000000000000000000000000000 := by
    have : (10 ^ 30 : Nat) = 1000000000000000000000000000000 := by decide
    omega
  have : m_is_times A [some (.int n)] S = .rt (.bl true) S := by
    unfold m_is_times
    refine ret_ok ?_
    rw [andM_t (callG_ok (two_ok (v_ok rfl) c_ok) rfl)]
    rw [andM_t (notM_ok (b := false) (callG_ok (two_ok (v_ok rfl) c_ok) rfl))]
    exact ch_t (g := leG) (g' := leG) c_ok (v_ok rfl) (gLeI.trans (by rw [decide_eq_true h0])) c_ok (gLeI.trans (by rw [decide_eq_true h1]))
  rw [this]
  exact rt_fin rfl
/-- is_step of a step -/
theorem ist_call (hx : x.length ≤ 12) (ha : ∀ c ∈ x, c ∈ s_LETTERS) : defM 1 (m_is_step A (φare_letters A) (φis_name A) (φis_times A) φ) [.tup [.str w_call, .str x]] S = .ok (.bl true) S := by
  show finD S (m_is_step A (φare_letters A) (φis_name A) (φis_times A) φ [some (.tup [.str w_call, .str x])] S) = _
  unfold m_is_step
  have e : andM (op2M eqG (callG lenG (consM (vM 0) nilM)) (cM (.int 2))) (appM 2 (φare_letters A) (consM (op2M ixG (vM 0) (cM (.int 1))) (consM (cM (.int 0)) nilM)) []) [some (.tup [.str w_call, .str x])] S = .ok (.bl true) S := by
    rw [andM_t (S1 := S) rfl]
    exact (app_is (xs := [.str x, .int 0]) (S1 := S) rfl rfl).trans (are_ok hx (by omega) ha)
  rw [seq_no (S1 := S) rfl, seq_rt (if_t (S1 := S) rfl |>.trans (ret_ok e))]
  exact rt_fin rfl
theorem ist_turn (h1 : 1 ≤ x.length) (hx : x.length ≤ 12) (ha : ∀ c ∈ x, c ∈ s_LETTERS) : defM 1 (m_is_step A (φare_letters A) (φis_name A) (φis_times A) φ) [.tup [.str w_turn, .str x]] S = .ok (.bl true) S := by
  show finD S (m_is_step A (φare_letters A) (φis_name A) (φis_times A) φ [some (.tup [.str w_turn, .str x])] S) = _
  unfold m_is_step
  have e : andM (op2M eqG (callG lenG (consM (vM 0) nilM)) (cM (.int 2))) (appM 2 (φare_letters A) (consM (op2M ixG (vM 0) (cM (.int 1))) (consM (cM (.int 1)) nilM)) []) [some (.tup [.str w_turn, .str x])] S = .ok (.bl true) S := by
    rw [andM_t (S1 := S) rfl]
    exact (app_is (xs := [.str x, .int 1]) (S1 := S) rfl rfl).trans (are_ok hx (by omega) ha)
  rw [seq_no (S1 := S) rfl, seq_no (S1 := S) rfl, seq_rt (if_t (S1 := S) rfl |>.trans (ret_ok e))]
  exact rt_fin rfl
theorem ist_row (h1 : 1 ≤ x.length) (hx : x.length ≤ 8) (ha : ∀ c ∈ x, c ∈ s_SMALL) : defM 1 (m_is_step A (φare_letters A) (φis_name A) (φis_times A) φ) [.tup [.str w_row, .str x]] S = .ok (.bl true) S := by
  show finD S (m_is_step A (φare_letters A) (φis_name A) (φis_times A) φ [some (.tup [.str w_row, .str x])] S) = _
  unfold m_is_step
  have e : andM (op2M eqG (callG lenG (consM (vM 0) nilM)) (cM (.int 2))) (andM (callG isiA (consM (op2M ixG (vM 0) (cM (.int 1))) (consM (cM (.raw (.ty "str"))) nilM))) (appM 1 (φis_name A) (consM (op2M ixG (vM 0) (cM (.int 1))) nilM) [])) [some (.tup [.str w_row, .str x])] S = .ok (.bl true) S := by
    rw [andM_t (S1 := S) rfl, andM_t (S1 := S) rfl]
    exact (app_is (xs := [.str x]) (S1 := S) rfl rfl).trans (name_ok h1 hx ha)
  rw [seq_no (S1 := S) rfl, seq_no (S1 := S) rfl, seq_no (S1 := S) rfl, seq_rt (if_t (S1 := S) rfl |>.trans (ret_ok e))]
  exact rt_fin rfl
theorem ist_times {n : Nat} {t : T} (hn : n ≤ 10 ^ 30) (hf : φ [tD t] S = .ok (.bl true) S) : defM 1 (m_is_step A (φare_letters A) (φis_name A) (φis_times A) φ) [.tup [.str w_times, .int n, tD t]] S = .ok (.bl true) S := by
  show finD S (m_is_step A (φare_letters A) (φis_name A) (φis_times A) φ [some (.tup [.str w_times, .int n, tD t])] S) = _
  unfold m_is_step
  rw [seq_no (S1 := S) rfl, seq_no (S1 := S) rfl, seq_no (S1 := S) rfl, seq_no (S1 := S) rfl]
  have e : andM (op2M eqG (op2M ixG (vM 0) (cM (.int 0))) (cM (.str [116, 105, 109, 101, 115]))) (andM (op2M eqG (callG lenG (consM (vM 0) nilM)) (cM (.int 3))) (andM (appM 1 (φis_times A) (consM (op2M ixG (vM 0) (cM (.int 1))) nilM) []) (appM 1 φ (consM (op2M ixG (vM 0) (cM (.int 2))) nilM) []))) [some (.tup [.str w_times, .int n, tD t])] S = .ok (.bl true) S := by
    rw [andM_t (S1 := S) rfl, andM_t (S1 := S) rfl]
    have e1 : appM 1 (φis_times A) (consM (op2M ixG (vM 0) (cM (.int 1))) nilM) [] [some (.tup [.str w_times, .int n, tD t])] S = .ok (.bl true) S := (app_is (xs := [.int n]) (S1 := S) rfl rfl).trans (times_ok hn)
    rw [andM_t e1]
    exact (app_is (xs := [tD t]) (S1 := S) rfl rfl).trans hf
  rw [ret_ok e]
  exact rt_fin rfl
end
end K27

/-! k27: is_built, many_steps, deep_of, is_row; row_text. -/
namespace K27
open PySem PySem.Spec L2 SL
theorem built_at {A : Ad} {φ : Fn} : ∀ (r : T), r.ok → (∀ t : T, t.dp + 1 ≤ r.dp → t.wt ≤ r.wt → t.ok → ∀ S, φ [tD t] S = .ok (.bl true) S) → ∀ (k : Nat) (d : SL.D), r.its[k]? = some d → ∀ S, defM 1 (m_is_step A (φare_letters A) (φis_name A) (φis_times A) φ) [d] S = .ok (.bl true) S
  | .nil, _, _, k, d, h, S => by simp [T.its] at h
  | .call x r, ho, hs, 0, d, h, S => by cases h; exact ist_call ho.1 ho.2.1
  | .turn x r, ho, hs, 0, d, h, S => by cases h; exact ist_turn ho.1 ho.2.1 ho.2.2.1
  | .row x r, ho, hs, 0, d, h, S => by cases h; exact ist_row ho.1 ho.2.1 ho.2.2.1
  | .times n t r, ho, hs, 0, d, h, S => by
    cases h
    exact ist_times ho.1 (hs t (by simp only [T.dp]; omega) (by simp only [T.wt]; omega) ho.2.1 S)
  | .call x r, ho, hs, k + 1, d, h, S => built_at r ho.2.2 (fun t h1 h2 h3 => hs t h1 (by simp only [T.wt]; omega) h3) k d h S
  | .turn x r, ho, hs, k + 1, d, h, S => built_at r ho.2.2.2 (fun t h1 h2 h3 => hs t h1 (by simp only [T.wt]; omega) h3) k d h S
  | .row x r, ho, hs, k + 1, d, h, S => built_at r ho.2.2.2 (fun t h1 h2 h3 => hs t h1 (by simp only [T.wt]; omega) h3) k d h S
  | .times n t r, ho, hs, k + 1, d, h, S => built_at r ho.2.2 (fun t' h1 h2 h3 => hs t' (by simp only [T.dp]; omega) (by simp only [T.wt]; omega) h3) k d h S
theorem built_ok {A : Ad} : ∀ (n : Nat) (t : T), 2 * t.dp + 1 < n → t.ok → t.wt ≤ 400000 → ∀ S, (grp_is_step_is_built A n).2 [tD t] S = .ok (.bl true) S
  | 0, t, h, _, _, _ => by omega
  | 1, t, h, _, _, _ => by omega
  | n + 2, t, h, ho, hw, S => by
    have hf : (grp_is_step_is_built A (n + 2)).2 [tD t] S = finD S (m_is_built A (defM 1 (m_is_step A (φare_letters A) (φis_name A) (φis_times A) (grp_is_step_is_built A n).2)) [some (tD t), none] S) := rfl
    rw [hf]
    have hi := its_len t
    have hc := comp_gen (mi := srcV (op2M ixG (vM 0) (cM (.int 1)))) (el := appM 1 (defM 1 (m_is_step A (φare_letters A) (φis_name A) (φis_times A) (grp_is_step_is_built A n).2)) (consM (vM 1) nilM) []) (i := 1) (δ := [some (tD t), none]) (S := S) (S1 := S) (src := .vals (.tup t.its)) (ds := t.its) (Inv := fun S0 => S0 = S) (P := fun k x => x = SL.D.bl true) rfl rfl (fun S0 h => by rw [h]) (fun S0 h => by rw [h]; exact Settles.same) (fun S0 t' h => rfl) (by omega) (fun k d hd S0 acc hI => by
      have h2 := built_at (A := A) (φ := (grp_is_step_is_built A n).2) t ho (fun t' h1 h2 h3 S => built_ok n t' (by omega) h3 (by omega) S) k d hd
      exact ⟨.bl true, S0, hI, rfl, rfl, (app_is (one_ok (v_ok rfl)) rfl).trans (h2 _)⟩)
    obtain ⟨xs, S2, rfl, e2, e3, e4, e5⟩ := hc
    unfold m_is_built
    rw [seq_no (S1 := S2) rfl, ret_ok (callG_ok (one_ok e5) (all_bl e3))]
    exact rt_fin rfl
/-! ### many_steps -/
/-- the steps, each with what a comprehension over the groups makes of it -/
def prs (g : T → SL.D) : T → List (SL.D × Option SL.D)
  | .nil => []
  | .call x r => (.tup [.str w_call, .str x], none) :: prs g r
  | .turn x r => (.tup [.str w_turn, .str x], none) :: prs g r
  | .row x r => (.tup [.str w_row, .str x], none) :: prs g r
  | .times n t r => (.tup [.str w_times, .int n, tD t], some (g t)) :: prs g r
theorem prs_its (g : T → SL.D) : ∀ t : T, t.its = (prs g t).map (·.1)
  | .nil => rfl
  | .call _ r => congrArg (_ :: ·) (prs_its g r)
  | .turn _ r => congrArg (_ :: ·) (prs_its g r)
  | .row _ r => congrArg (_ :: ·) (prs_its g r)
  | .times _ _ r => congrArg (_ :: ·) (prs_its g r)
/-- the groups of a row -/
def subs : T → List T
  | .nil => []
  | .call _ r => subs r
  | .turn _ r => subs r
  | .row _ r => subs r
  | .times _ t r => t :: subs r
theorem prs_sub (g : T → SL.D) : ∀ t : T, (prs g t).filterMap (·.2) = (subs t).map g
  | .nil => rfl
  | .call _ r => prs_sub g r
  | .turn _ r => prs_sub g r
  | .row _ r => prs_sub g r
  | .times _ t r => congrArg (g t :: ·) (prs_sub g r)
theorem prs_mem {g : T → SL.D} {d : SL.D} {f : Option SL.D} : ∀ {r : T}, (d, f) ∈ prs g r → (∃ w x, w ≠ w_times ∧ d = .tup [.str w, .str x] ∧ f = none) ∨ ∃ n t, t ∈ subs r ∧ d = .tup [.str w_times, .int n, tD t] ∧ f = some (g t)
  | .nil, h => by cases h
  | .call x r, h => by
    rcases List.mem_cons.mp h with h | h
    · cases h; exact .inl ⟨_, _, by decide, rfl, rfl⟩
    · exact prs_mem (r := r) h
  | .turn x r, h => by
    rcases List.mem_cons.mp h with h | h
    · cases h; exact .inl ⟨_, _, by decide, rfl, rfl⟩
    · exact prs_mem (r := r) h
  | .row x r, h => by
    rcases List.mem_cons.mp h with h | h
    · cases h; exact .inl ⟨_, _, by decide, rfl, rfl⟩
    · exact prs_mem (r := r) h
  | .times n t r, h => by
    rcases List.mem_cons.mp h with h | h
    · cases h; exact .inr ⟨_, _, by simp [subs], rfl, rfl⟩
    · rcases prs_mem (r := r) h with h | ⟨n, t', h1, h2⟩
      · exact .inl h
      · exact .inr ⟨n, t', by simp [subs, h1], h2⟩
theorem sub_in {t : T} : ∀ {r : T}, r.ok → t ∈ subs r → t.ok ∧ t.dp + 1 ≤ r.dp ∧ t.wt ≤ r.wt
  | .nil, _, h => by cases h
  | .call x r, ho, h => by have := sub_in ho.2.2 h; simp only [T.dp, T.wt]; exact ⟨this.1, this.2.1, by omega⟩
  | .turn x r, ho, h => by have := sub_in ho.2.2.2 h; simp only [T.dp, T.wt]; exact ⟨this.1, this.2.1, by omega⟩
  | .row x r, ho, h => by have := sub_in ho.2.2.2 h; simp only [T.dp, T.wt]; exact ⟨this.1, this.2.1, by omega⟩
  | .times n t' r, ho, h => by
    simp only [T.dp, T.wt]
    rcases List.mem_cons.mp h with rfl | h
    · exact ⟨ho.2.1, by omega, by omega⟩
    · have := sub_in ho.2.2 h
      exact ⟨this.1, by omega, by omega⟩
theorem cnt_sub : ∀ t : T, t.cnt = t.its.length + ((subs t).map T.cnt).sum
  | .nil => rfl
  | .call _ r => by have := cnt_sub r; simp only [T.cnt, T.its, subs, List.length_cons]; omega
  | .turn _ r => by have := cnt_sub r; simp only [T.cnt, T.its, subs, List.length_cons]; omega
  | .row _ r => by have := cnt_sub r; simp only [T.cnt, T.its, subs, List.length_cons]; omega
  | .times _ t r => by have := cnt_sub r; simp only [T.cnt, T.its, subs, List.length_cons, List.map_cons, List.sum_cons]; omega
theorem asIs_map : ∀ ls : List Int, asIs (ls.map SL.D.int) = some ls
  | [] => rfl
  | x :: ls => by simp [asIs, asIs_map ls]
theorem test_ok {n : Nat} {i : Nat} {d : SL.D} {f : Option SL.D} {g : T → SL.D} {r : T} {δ : DEnv} {S : Store} (h : (d, f) ∈ prs g r) (hv : δ[i]? = some (some d)) : cmpB eqG (op2M ixG (vM i) (cM (.int 0))) (cM (.str [116, 105, 109, 101, 115])) δ S = .ok f.isSome S := by
  rcases prs_mem h with ⟨w, x, hw, rfl, rfl⟩ | ⟨n, t, _, rfl, rfl⟩
  · exact cmp_ok (op2_ok (v_ok hv) c_ok rfl) c_ok (gEqS.trans (by rw [decide_eq_false (show ¬ w = [116, 105, 109, 101, 115] from hw)]; rfl))
  · exact cmp_ok (op2_ok (v_ok hv) c_ok rfl) c_ok rfl
theorem many_ok {A : Ad} : ∀ (n : Nat) (t : T), t.dp < n → t.ok → t.wt ≤ 400000 → ∀ S, grp_many_steps A n [tD t] S = .ok (.int t.cnt) S
  | 0, t, h, _, _, _ => by omega
  | n + 1, t, h, ho, hw, S => by
    have hf : grp_many_steps A (n + 1) [tD t] S = finD S (m_many_steps A (grp_many_steps A n) [some (tD t), none, none] S) := rfl
    rw [hf]
    have hi := its_len t
    have hc := comp_flt (mi := srcV (op2M ixG (vM 0) (cM (.int 1)))) (tst := cmpB eqG (op2M ixG (vM 2) (cM (.int 0))) (cM (.str [116, 105, 109, 101, 115]))) (el := appM 1 (grp_many_steps A n) (consM (op2M ixG (vM 2) (cM (.int 2))) nilM) []) (i := 2) (δ := [some (tD t), none, none]) (S := S) (src := .vals (.tup t.its)) (prs_its (fun t => .int t.cnt) t) rfl (fun t' => rfl) (by omega) (fun d f hm acc => by
      refine ⟨test_ok (n := 0) hm rfl, fun x hx => ?_⟩
      rcases prs_mem hm with ⟨w, y, hw, rfl, rfl⟩ | ⟨m, t', ht, rfl, rfl⟩
      · cases hx
      · cases hx
        obtain ⟨h1, h2, h3⟩ := sub_in ho ht
        exact ⟨rfl, (app_is (one_ok (op2_ok (v_ok rfl) c_ok rfl)) rfl).trans (many_ok n t' (by omega) h1 (by omega) _)⟩)
    rw [prs_sub] at hc
    unfold m_many_steps
    rw [seq_nx (asg_ok hc)]
    have e1 : sumG S [.lst ((subs t).map fun t => SL.D.int t.cnt)] = some (.int (((subs t).map fun t => (t.cnt : Int)).sum)) := by
      show (match asIs ((subs t).map fun t => SL.D.int t.cnt) with | some bs => some (SL.D.int bs.sum) | none => none) = _
      rw [show ((subs t).map fun t => SL.D.int t.cnt) = ((subs t).map fun t => (t.cnt : Int)).map SL.D.int by rw [List.map_map]; rfl, asIs_map]
    have e2 : ((t.its.length : Int) + (((subs t).map fun t => (t.cnt : Int)).sum)) = (t.cnt : Int) := by
      rw [cnt_sub t]
      have : ∀ l : List T, (l.map fun t => (t.cnt : Int)).sum = (((l.map T.cnt).sum : Nat) : Int) := fun l => by
        induction l with
        | nil => rfl
        | cons a l ih => simp only [List.map_cons, List.sum_cons, ih, Int.natCast_add]
      rw [this, Int.natCast_add]
    have e3 : retM (op2M addG (callG lenG (consM (op2M ixG (vM 0) (cM (.int 1))) nilM)) (callG sumG (consM (vM 1) nilM))) [some (tD t), some (.lst ((subs t).map fun t => SL.D.int t.cnt)), none] S = .rt (.int t.cnt) S :=
      ret_ok (op2_ok (callG_ok (one_ok (op2_ok (v_ok rfl) c_ok rfl)) rfl) (callG_ok (one_ok (v_ok rfl)) e1) (gAddI.trans (by rw [e2])))
    show finD S (retM _ [some (tD t), some (.lst ((subs t).map fun t => SL.D.int t.cnt)), none] S) = _
    rw [e3]
    exact rt_fin rfl
end K27

/-! k27: deep_of, is_row, look_row, row_text. -/
namespace K27
open PySem PySem.Spec L2 SL
theorem maxOf_max : ∀ (ys : List Int) (y : Int), PySem.W.maxOf y ys = ys.foldl max y
  | [], y => rfl
  | z :: ys, y => by
    have h := maxOf_max ys (if PySem.W.DatumOrd.lt y z = true then z else y)
    have e : (if PySem.W.DatumOrd.lt y z = true then z else y) = max y z := by
      show (if decide (y < z) = true then z else y) = max y z
      by_cases k : y < z
      · rw [if_pos (decide_eq_true k)]; omega
      · rw [if_neg (by simpa using k)]; omega
    show List.foldl _ (if PySem.W.DatumOrd.lt y z = true then z else y) ys = ys.foldl max (max y z)
    rw [← e]
    exact h
theorem fold_max : ∀ (ys : List Nat) (a : Nat), (ys.map fun (n : Nat) => (n : Int)).foldl max (a : Int) = ((ys.foldl max a : Nat) : Int)
  | [], a => rfl
  | y :: ys, a => by
    rw [List.map_cons, List.foldl_cons, List.foldl_cons, show max (a : Int) (y : Int) = ((max a y : Nat) : Int) by omega]
    exact fold_max ys _
theorem fold_acc : ∀ (ys : List Nat) (a : Nat), ys.foldl max a = max a (ys.foldl max 0)
  | [], a => by simp
  | y :: ys, a => by rw [List.foldl_cons, List.foldl_cons, fold_acc ys (max a y), fold_acc ys (max 0 y)]; omega
theorem dp_sub : ∀ t : T, t.dp = ((subs t).map fun t => t.dp + 1).foldl max 0
  | .nil => rfl
  | .call _ r => dp_sub r
  | .turn _ r => dp_sub r
  | .row _ r => dp_sub r
  | .times _ t r => by
    rw [subs, List.map_cons, List.foldl_cons, fold_acc, ← dp_sub r, T.dp]
    omega
theorem deep_max (ls : List Nat) : maxI (ls.map fun (n : Nat) => (n : Int)) 0 = ((ls.foldl max 0 : Nat) : Int) := by
  cases ls with
  | nil => rfl
  | cons y ys =>
    show PySem.W.maxOf (y : Int) (ys.map fun (n : Nat) => (n : Int)) = _
    rw [maxOf_max, fold_max, List.foldl_cons, Nat.zero_max]
theorem deep_ok {A : Ad} : ∀ (n : Nat) (t : T), t.dp < n → t.ok → t.wt ≤ 400000 → ∀ S, grp_deep_of A n [tD t] S = .ok (.int t.dp) S
  | 0, t, h, _, _, _ => by omega
  | n + 1, t, h, ho, hw, S => by
    have hf : grp_deep_of A (n + 1) [tD t] S = finD S (m_deep_of A (grp_deep_of A n) [some (tD t), none] S) := rfl
    rw [hf]
    have hi := its_len t
    have hc := comp_flt (mi := srcV (op2M ixG (vM 0) (cM (.int 1)))) (tst := cmpB eqG (op2M ixG (vM 1) (cM (.int 0))) (cM (.str [116, 105, 109, 101, 115]))) (el := op2M addG (cM (.int 1)) (appM 1 (grp_deep_of A n) (consM (op2M ixG (vM 1) (cM (.int 2))) nilM) [])) (i := 1) (δ := [some (tD t), none]) (S := S) (src := .vals (.tup t.its)) (prs_its (fun t => .int ((t.dp + 1 : Nat) : Int)) t) rfl (fun t' => rfl) (by omega) (fun d f hm acc => by
      refine ⟨test_ok (n := 0) hm rfl, fun x hx => ?_⟩
      rcases prs_mem hm with ⟨w, y, hw, rfl, rfl⟩ | ⟨m, t', ht, rfl, rfl⟩
      · cases hx
      · cases hx
        obtain ⟨h1, h2, h3⟩ := sub_in ho ht
        have e : appM 1 (grp_deep_of A n) (consM (op2M ixG (vM 1) (cM (.int 2))) nilM) [] (([some (tD t), none].set 1 none).set 1 (some (.tup [.str w_times, .int m, tD t']))) (S ++ [.lst acc]) = _ := (app_is (xs := [tD t']) (S1 := S ++ [.lst acc]) rfl rfl).trans (deep_ok n t' (by omega) h1 (by omega) (S ++ [.lst acc]))
        exact ⟨rfl, op2_ok c_ok e (gAddI.trans (by congr 2; omega))⟩)
    rw [prs_sub] at hc
    have e1 : maxDfG S [.lst ((subs t).map fun t => SL.D.int ((t.dp + 1 : Nat) : Int))] [.int 0] = some (.int t.dp) := by
      show (match asIs ((subs t).map fun t => SL.D.int ((t.dp + 1 : Nat) : Int)) with | some ns => some (SL.D.int (maxI ns 0)) | none => none) = _
      rw [show ((subs t).map fun t => SL.D.int ((t.dp + 1 : Nat) : Int)) = (((subs t).map fun t => t.dp + 1).map fun (n : Nat) => (n : Int)).map SL.D.int by simp only [List.map_map]; rfl, asIs_map]
      show some (SL.D.int (maxI _ 0)) = _
      rw [deep_max, ← dp_sub]
    unfold m_deep_of
    rw [ret_ok (callKG_ok (one_ok hc) (one_ok c_ok) e1)]
    exact rt_fin rfl
def isRow (t : T) : Bool := decide (t.cnt ≤ 60) && decide (t.dp ≤ 12)
theorem row_is {A : Ad} {t : T} {S : Store} (ho : t.ok) (hw : t.wt ≤ 400000) (hd : t.dp ≤ 18) : φis_row A [tD t] S = .ok (.bl (isRow t)) S := by
  have hf : φis_row A [tD t] S = finD S (m_is_row A (φis_built A) (φmany_steps A) (φdeep_of A) [some (tD t)] S) := rfl
  rw [hf]
  have e1 : appM 1 (φis_built A) (consM (vM 0) nilM) [] [some (tD t)] S = .ok (.bl true) S := (app_is (one_ok (v_ok rfl)) rfl).trans (built_ok 40 t (by omega) ho hw S)
  have e2 : appM 1 (φmany_steps A) (consM (vM 0) nilM) [] [some (tD t)] S = .ok (.int t.cnt) S := (app_is (one_ok (v_ok rfl)) rfl).trans (many_ok 40 t (by omega) ho hw S)
  have e3 : appM 1 (φdeep_of A) (consM (vM 0) nilM) [] [some (tD t)] S = .ok (.int t.dp) S := (app_is (one_ok (v_ok rfl)) rfl).trans (deep_ok 40 t (by omega) ho hw S)
  have : m_is_row A (φis_built A) (φmany_steps A) (φdeep_of A) [some (tD t)] S = .rt (.bl (isRow t)) S := by
    unfold m_is_row
    refine ret_ok ?_
    rw [andM_t e1]
    refine andM_bl (op2_ok e2 c_ok (gLeI.trans ?_)) fun _ => op2_ok e3 c_ok (gLeI.trans ?_)
    · congr 2
      exact decide_eq_decide.mpr (by omega)
    · congr 2
      exact decide_eq_decide.mpr (by omega)
  rw [this]
  exact rt_fin rfl
theorem row_text_ok {A : Ad} {t : T} {S : Store} (ho : t.ok) (hw : t.wt ≤ 400000) (hr : isRow t = true) : φrow_text A [tD t] S = .ok (.str (txt t)) S := by
  have hd : t.dp ≤ 12 := of_decide_eq_true (Bool.and_eq_true_iff.mp hr).2
  have hl : φlook_row A [tD t] S = .ok .non S := by
    have hf : φlook_row A [tD t] S = finD S (m_look_row A (φis_row A) [some (tD t)] S) := rfl
    rw [hf]
    unfold m_look_row
    have e1 : appM 1 (φis_row A) (consM (vM 0) nilM) [] [some (tD t)] S = .ok (.bl true) S := (app_is (one_ok (v_ok rfl)) rfl).trans ((row_is ho hw (by omega)).trans (by rw [hr]))
    rw [if_fnx (notB_ok (b := true) (tr_bl e1))]
    exact fin_cl (d := .non) rfl rfl
  have hf : φrow_text A [tD t] S = finD S (m_row_text A (φlook_row A) (φtold_text A) [some (tD t)] S) := rfl
  rw [hf]
  unfold m_row_text
  have e1 : appM 1 (φlook_row A) (consM (vM 0) nilM) [] [some (tD t)] S = .ok .non S := (app_is (one_ok (v_ok rfl)) rfl).trans hl
  have e2 : appM 1 (φtold_text A) (consM (vM 0) nilM) [] [some (tD t)] S = .ok (.str (txt t)) S := (app_is (one_ok (v_ok rfl)) rfl).trans (told_text_ok 40 t (by omega) ho hw S)
  rw [seq_nx (expr_ok e1), ret_ok e2]
  exact rt_fin rfl
end K27

/-! k27: the reader gives back what was written. -/
namespace K27
open PySem PySem.Spec L2 SL
section
variable {l : List Nat} {p : Nat}
theorem ch_cons {c : Nat} {r : List Nat} (h : l.drop p = c :: r) : ch l p = [c] := by unfold ch; rw [h]; rfl
theorem ch_emp (h : l.drop p = []) : ch l p = [] := by unfold ch; rw [h]; rfl
theorem drop_app {x post : List Nat} (h : l.drop p = x ++ post) : l.drop (p + x.length) = post := by
  rw [← List.drop_drop, h, List.drop_left]
theorem drop_at {c : Nat} {r : List Nat} (h : l.drop p = c :: r) : l[p]? = some c := by
  have := congrArg (fun z => z[0]?) h
  simpa using this
theorem drop_no (h : l.drop p = []) : l[p]? = none := by
  have := congrArg (fun z => z[0]?) h
  simpa using this
theorem run_word {ok : List Nat} : ∀ (x post : List Nat) (k p : Nat), l.drop p = x ++ post → (∀ c ∈ x, c ∈ ok) → (∀ c r, post = c :: r → c ∉ ok) → x.length ≤ k → runN ok l k p = p + x.length
  | [], [], 0, p, h, _, _, _ => rfl
  | [], _ :: _, 0, p, h, _, _, _ => rfl
  | [], [], k + 1, p, h, _, _, _ => by unfold runN; rw [drop_no h]; rfl
  | [], c :: r, k + 1, p, h, _, hp, _ => by
    unfold runN
    rw [drop_at h]
    show (if c ∈ ok then _ else p) = _
    rw [if_neg (hp c r rfl)]
    rfl
  | c :: x, post, 0, p, h, _, _, hk => by simp at hk
  | c :: x, post, k + 1, p, h, hx, hp, hk => by
    unfold runN
    rw [drop_at h]
    show (if c ∈ ok then _ else p) = _
    rw [if_pos (hx c (by simp)), run_word x post k (p + 1) (by
      have := congrArg List.tail h
      simpa using this) (fun c' h' => hx c' (by simp [h'])) hp (by simpa using hk)]
    simp
    omega
theorem cut_word {x post : List Nat} (h : l.drop p = x ++ post) : cutN l p (p + x.length) = x := by
  unfold cutN
  rw [h, show p + x.length - p = x.length by omega, List.take_left]
end
theorem numL_head : ∀ n : Nat, 0 < n → ∃ c r, TL.numL n = c :: r ∧ 49 ≤ c := by
  intro n
  induction n using Nat.strongRecOn with
  | _ n ih =>
    intro hn
    by_cases h : n < 10
    · exact ⟨48 + n, [], TL.numL_lt h, by omega⟩
    · obtain ⟨c, r, e, hc⟩ := ih (n / 10) (by omega) (by omega)
      exact ⟨c, r ++ [48 + n % 10], by rw [TL.numL_step (by omega), e]; rfl, hc⟩
theorem figs : ∀ c, 48 ≤ c ∧ c ≤ 57 → c ∈ s_FIGURES := by
  intro c h
  have : c = 48 ∨ c = 49 ∨ c = 50 ∨ c = 51 ∨ c = 52 ∨ c = 53 ∨ c = 54 ∨ c = 55 ∨ c = 56 ∨ c = 57 := by omega
  rcases this with rfl | rfl | rfl | rfl | rfl | rfl | rfl | rfl | rfl | rfl <;> decide
/-- what stands behind a word: nothing, a blank or a closing sign -/
def gap (post : List Nat) : Prop := post = [] ∨ ∃ c r, post = c :: r ∧ (c = 32 ∨ c = 41)
theorem gap_not {ok post : List Nat} (h : gap post) (h1 : (32 : Nat) ∉ ok) (h2 : (41 : Nat) ∉ ok) : ∀ c r, post = c :: r → c ∉ ok := fun c r e => by
  rcases h with rfl | ⟨c', r', rfl, rfl | rfl⟩
  · cases e
  · cases e; exact h1
  · cases e; exact h2
theorem times_back {l : List Nat} {p n : Nat} {post : List Nat} (hn : n ≤ 10 ^ 30) (h : l.drop p = strI n ++ post) (hg : gap post) : pTimes l p = (p + (strI n).length, some (n : Int)) := by
  rw [strI_num] at h ⊢
  have hlen : (TL.numL n).length ≤ 31 := TL.numL_len (by decide) (Nat.lt_of_le_of_lt hn (by decide))
  unfold pTimes
  rcases Nat.eq_zero_or_pos n with rfl | hp
  · have e0 : TL.numL 0 = [48] := by decide
    rw [e0] at h ⊢
    rw [if_pos (ch_cons h)]
    rfl
  · obtain ⟨c, r, e, hc⟩ := numL_head n hp
    have hch : ch l p = [c] := ch_cons (r := r ++ post) (by rw [h, e]; rfl)
    have hrun : runN s_FIGURES l 31 p = p + (TL.numL n).length := run_word (TL.numL n) post 31 p h (fun c hc => figs c (TL.numL_digits n c hc)) (gap_not hg (by decide) (by decide)) hlen
    have hne : 0 < (TL.numL n).length := by rw [e]; simp
    have hcut : cutN l p (p + (TL.numL n).length) = TL.numL n := cut_word h
    have hval : numV (TL.numL n) = (n : Int) := by
      unfold numV
      have e1 : (Str.ofString (toString ((n : Nat) : Int))) = (⟨(TL.numL n).toArray⟩ : Str) := by
        have := TL.tl_num n
        have e2 : (Str.ofString (toString ((n : Nat) : Int))).cps.toList = TL.numL n := this
        rw [← e2]
      have := TL.int_num (n := n) (by omega)
      rw [e1] at this
      rw [this]
      rfl
    rw [hrun, hcut, hval, hch]
    rw [if_neg (by intro z; cases z; omega), if_neg (by omega), if_neg (by
      have : ((10 : Int) ^ 30) = ((10 ^ 30 : Nat) : Int) := by decide
      rw [this]
      omega)]
end K27

/-! k27: the reader gives back what was written: steps and rows. -/
namespace K27
open PySem PySem.Spec L2 SL
section
variable {l : List Nat} {p : Nat} {m d : Int} {x post : List Nat} {row : Nat → Int → Int → Out}
theorem drop1 {c : Nat} {r : List Nat} (h : l.drop p = c :: r) : l.drop (p + 1) = r := by
  have := congrArg List.tail h
  simpa using this
theorem ps_call (h : l.drop p = [46] ++ x ++ post) (hg : gap post) (hx : x.length ≤ 12) (ha : ∀ c ∈ x, c ∈ s_LETTERS) (hm : m < 60) : pStep row l p m d = (p + ([46] ++ x).length, some [.str w_call, .str x], m + 1) := by
  have h' : l.drop p = 46 :: (x ++ post) := h
  have h1 := drop1 h'
  have hr : runN s_LETTERS l 12 (p + 1) = p + 1 + x.length := run_word x post 12 (p + 1) h1 ha (gap_not hg (by decide) (by decide)) hx
  unfold pStep
  rw [if_pos ⟨ch_cons h', hm⟩, hr, cut_word h1]
  simp
  omega
theorem ps_turn (h : l.drop p = [126] ++ x ++ post) (hg : gap post) (h1 : 1 ≤ x.length) (hx : x.length ≤ 12) (ha : ∀ c ∈ x, c ∈ s_LETTERS) (hm : m < 60) : pStep row l p m d = (p + ([126] ++ x).length, some [.str w_turn, .str x], m + 1) := by
  have h' : l.drop p = 126 :: (x ++ post) := h
  have h2 := drop1 h'
  have hr : runN s_LETTERS l 12 (p + 1) = p + 1 + x.length := run_word x post 12 (p + 1) h2 ha (gap_not hg (by decide) (by decide)) hx
  have hc := ch_cons h'
  unfold pStep
  rw [if_neg (by rw [hc]; intro z; cases z.1), if_pos ⟨hc, hm⟩, hr, cut_word h2, if_neg (by omega)]
  simp
  omega
theorem ps_row (h : l.drop p = [60] ++ x ++ [62] ++ post) (h1 : 1 ≤ x.length) (hx : x.length ≤ 8) (ha : ∀ c ∈ x, c ∈ s_SMALL) (hm : m < 60) : pStep row l p m d = (p + ([60] ++ x ++ [62]).length, some [.str w_row, .str x], m + 1) := by
  have h' : l.drop p = 60 :: (x ++ (62 :: post)) := by rw [h]; simp
  have h2 := drop1 h'
  have hr : runN s_SMALL l 8 (p + 1) = p + 1 + x.length := run_word x (62 :: post) 8 (p + 1) h2 ha (fun c r e => by cases e; decide) hx
  have hc := ch_cons h'
  have hc2 : ch l (p + 1 + x.length) = [62] := ch_cons (drop_app h2)
  unfold pStep
  rw [if_neg (by rw [hc]; intro z; cases z.1), if_neg (by rw [hc]; intro z; cases z.1), if_pos ⟨hc, hm⟩, hr, cut_word h2, if_neg (by rw [hc2]; intro z; rcases z with z | z; omega; exact z rfl)]
  simp
  omega
theorem ps_times {n : Nat} {t : T} (h : l.drop p = [40] ++ txt t ++ [41, 42] ++ strI n ++ post) (hg : gap post) (hn : n ≤ 10 ^ 30) (hm : m < 60) (hd : d < 12)
    (hr : row (p + 1) (m + 1) (d + 1) = (p + 1 + (txt t).length, some [.str w_steps, .tup t.its], m + 1 + t.cnt)) : pStep row l p m d = (p + ([40] ++ txt t ++ [41, 42] ++ strI n).length, some [.str w_times, .int n, tD t], m + (t.cnt + 1 : Nat)) := by
  have h' : l.drop p = 40 :: (txt t ++ (41 :: 42 :: (strI n ++ post))) := by rw [h]; simp
  have h2 := drop_app (drop1 h')
  have h3 := drop1 h2
  have h4 := drop1 h3
  have hc := ch_cons h'
  have ht := times_back hn h4 hg
  unfold pStep
  rw [if_neg (by rw [hc]; intro z; cases z.1), if_neg (by rw [hc]; intro z; cases z.1), if_neg (by rw [hc]; intro z; cases z.1), if_pos ⟨hc, hm, hd⟩, hr]
  simp only
  rw [if_pos (ch_cons h2), if_pos (ch_cons h3), show p + 1 + (txt t).length + 2 = p + 1 + (txt t).length + 1 + 1 from rfl, ht]
  simp only [Prod.mk.injEq, List.length_append, List.length_cons, List.length_nil]
  refine ⟨by omega, rfl, by omega⟩
end
end K27

/-! k27: the reader gives back what was written: whole rows. -/
namespace K27
open PySem PySem.Spec L2 SL
/-- what stands behind a row -/
def stop (post : List Nat) : Prop := post = [] ∨ ∃ r, post = 41 :: r
theorem stop_ch {l post : List Nat} {p : Nat} (h : l.drop p = post) (hs : stop post) : ch l p ≠ [32] := by
  rcases hs with rfl | ⟨r, rfl⟩
  · rw [ch_emp h]; intro z; cases z
  · rw [ch_cons h]; intro z; cases z
theorem stop_gap {post : List Nat} (h : stop post) : gap post := by
  rcases h with rfl | ⟨r, rfl⟩
  · exact .inl rfl
  · exact .inr ⟨41, r, rfl, .inr rfl⟩
def RowBack (l : List Nat) (f : Nat) : Prop := ∀ (t : T) (p : Nat) (m d : Int) (post : List Nat), t.ok → stop post → l.drop p = txt t ++ post → 0 ≤ m → m + t.cnt ≤ 60 → d + t.dp ≤ 12 → t.dp < f → t.its.length ≤ 61 → pRow l f p m d = (p + (txt t).length, some [.str w_steps, .tup t.its], m + t.cnt)
/-- one step in a row of steps -/
theorem one_step {l : List Nat} {step : Nat → Int → Out} {k p : Nat} {m c : Int} {acc it : List SL.D} {w rest post : List Nat} {ws : List (List Nat)}
    (hs : ∀ post', gap post' → l.drop p = w ++ post' → step p m = (p + w.length, some it, m + c)) (hp : stop post) (h : l.drop p = joinL [32] (w :: ws) ++ post) :
    (ws = [] → pSteps step l (k + 1) p m acc = (p + (joinL [32] (w :: ws)).length, some [.str w_steps, .tup (acc ++ [.tup it])], m + c)) ∧
    (∀ y ys, ws = y :: ys → l.drop (p + w.length + 1) = joinL [32] ws ++ post ∧ p + w.length + 1 + (joinL [32] ws).length = p + (joinL [32] (w :: ws)).length ∧ pSteps step l (k + 1) p m acc = pSteps step l k (p + w.length + 1) (m + c) (acc ++ [.tup it])) := by
  constructor
  · rintro rfl
    have h' : l.drop p = w ++ post := h
    have e := hs post (stop_gap hp) h'
    unfold pSteps
    rw [e]
    show (if ch l (p + w.length) = [32] then _ else _) = _
    rw [if_neg (stop_ch (drop_app h') hp)]
    rfl
  · rintro y ys rfl
    have h' : l.drop p = w ++ (32 :: (joinL [32] (y :: ys) ++ post)) := by rw [h]; simp [joinL]
    have e := hs _ (.inr ⟨32, _, rfl, .inl rfl⟩) h'
    have h2 := drop_app h'
    refine ⟨drop1 h2, by simp [joinL]; omega, ?_⟩
    conv => lhs; unfold pSteps
    rw [e]
    show (if ch l (p + w.length) = [32] then _ else _) = _
    rw [if_pos (ch_cons h2)]
theorem fin_step {l : List Nat} {step : Nat → Int → Out} {k p : Nat} {m c : Int} {acc it : List SL.D} {w post : List Nat} {r : T}
    (hs : ∀ post', gap post' → l.drop p = w ++ post' → step p m = (p + w.length, some it, m + c)) (hp : stop post) (h : l.drop p = joinL [32] (w :: r.wds) ++ post)
    (ih : r.wds ≠ [] → ∀ (p : Nat) (acc : List SL.D), l.drop p = joinL [32] r.wds ++ post → pSteps step l k p (m + c) acc = (p + (joinL [32] r.wds).length, some [.str w_steps, .tup (acc ++ r.its)], m + c + r.cnt))
    (hn : r.wds = [] → r.its = [] ∧ r.cnt = 0) :
    pSteps step l (k + 1) p m acc = (p + (joinL [32] (w :: r.wds)).length, some [.str w_steps, .tup (acc ++ .tup it :: r.its)], m + c + r.cnt) := by
  obtain ⟨h1, h2⟩ := one_step (k := k) (acc := acc) (rest := []) hs hp h
  cases e : r.wds with
  | nil =>
    obtain ⟨e1, e2⟩ := hn e
    have := h1 e
    rw [e] at this
    rw [this, e1, e2]
    simp
  | cons y ys =>
    obtain ⟨e1, e2, e3⟩ := h2 y ys e
    rw [e3, ih (by rw [e]; simp) _ _ e1, e2, e]
    simp
theorem nil_of {r : T} (h : r.wds = []) : r.its = [] ∧ r.cnt = 0 := by
  cases r with
  | nil => exact ⟨rfl, rfl⟩
  | _ => simp [T.wds] at h
theorem steps_back {l : List Nat} {f : Nat} (hR : RowBack l f) {post : List Nat} (hp : stop post) : ∀ (r : T) (k p : Nat) (m d : Int) (acc : List SL.D), r.ok → r.wds ≠ [] → l.drop p = joinL [32] r.wds ++ post → r.its.length ≤ k → 0 ≤ m → m + r.cnt ≤ 60 → d + r.dp ≤ 12 → r.dp < f + 1 →
    pSteps (fun p m => pStep (pRow l f) l p m d) l k p m acc = (p + (joinL [32] r.wds).length, some [.str w_steps, .tup (acc ++ r.its)], m + r.cnt)
  | .nil, k, p, m, d, acc, _, hne, _, _, _, _, _, _ => absurd rfl hne
  | .call x r, 0, p, m, d, acc, _, _, _, hk, _, _, _, _ => by simp [T.its] at hk
  | .turn x r, 0, p, m, d, acc, _, _, _, hk, _, _, _, _ => by simp [T.its] at hk
  | .row x r, 0, p, m, d, acc, _, _, _, hk, _, _, _, _ => by simp [T.its] at hk
  | .times n t r, 0, p, m, d, acc, _, _, _, hk, _, _, _, _ => by simp [T.its] at hk
  | .call x r, k + 1, p, m, d, acc, ho, _, h, hk, h0, hm, hd, hf => by
    simp only [T.cnt, T.dp, T.its, List.length_cons] at hm hd hf hk
    have := fin_step (k := k) (acc := acc) (c := 1) (r := r) (step := fun p m => pStep (pRow l f) l p m d) (fun post' hg h' => ps_call h' hg ho.1 ho.2.1 (by omega)) hp h (fun hne p acc h => steps_back hR hp r k p (m + 1) d acc ho.2.2 hne h (by omega) (by omega) (by omega) hd hf) nil_of
    rw [this]
    simp only [T.wds, T.its, T.cnt, Prod.mk.injEq, true_and]
    omega
  | .turn x r, k + 1, p, m, d, acc, ho, _, h, hk, h0, hm, hd, hf => by
    simp only [T.cnt, T.dp, T.its, List.length_cons] at hm hd hf hk
    have := fin_step (k := k) (acc := acc) (c := 1) (r := r) (step := fun p m => pStep (pRow l f) l p m d) (fun post' hg h' => ps_turn h' hg ho.1 ho.2.1 ho.2.2.1 (by omega)) hp h (fun hne p acc h => steps_back hR hp r k p (m + 1) d acc ho.2.2.2 hne h (by omega) (by omega) (by omega) hd hf) nil_of
    rw [this]
    simp only [T.wds, T.its, T.cnt, Prod.mk.injEq, true_and]
    omega
  | .row x r, k + 1, p, m, d, acc, ho, _, h, hk, h0, hm, hd, hf => by
    simp only [T.cnt, T.dp, T.its, List.length_cons] at hm hd hf hk
    have := fin_step (k := k) (acc := acc) (c := 1) (r := r) (step := fun p m => pStep (pRow l f) l p m d) (fun post' hg h' => ps_row h' ho.1 ho.2.1 ho.2.2.1 (by omega)) hp h (fun hne p acc h => steps_back hR hp r k p (m + 1) d acc ho.2.2.2 hne h (by omega) (by omega) (by omega) hd hf) nil_of
    rw [this]
    simp only [T.wds, T.its, T.cnt, Prod.mk.injEq, true_and]
    omega
  | .times n t r, k + 1, p, m, d, acc, ho, _, h, hk, h0, hm, hd, hf => by
    simp only [T.cnt, T.dp, T.its, List.length_cons] at hm hd hf hk
    have hc := cnt_sub t
    have := fin_step (k := k) (acc := acc) (c := ((t.cnt + 1 : Nat) : Int)) (r := r) (step := fun p m => pStep (pRow l f) l p m d) (fun post' hg h' => by
      have h1 : l.drop p = 40 :: (txt t ++ (41 :: 42 :: (strI n ++ post'))) := by rw [h']; simp [txt]
      exact ps_times h' hg ho.1 (by omega) (by omega) (hR t (p + 1) (m + 1) (d + 1) _ ho.2.1 (.inr ⟨_, rfl⟩) (drop1 h1) (by omega) (by omega) (by omega) (by omega) (by omega))) hp h (fun hne p acc h => steps_back hR hp r k p _ d acc ho.2.2 hne h (by omega) (by omega) (by omega) (by omega) (by omega)) nil_of
    rw [this]
    simp only [T.wds, T.its, T.cnt, Prod.mk.injEq]
    exact ⟨by simp [txt], by simp [tD], by omega⟩
theorem row_back (l : List Nat) : ∀ f, RowBack l f
  | 0 => fun t p m d post _ _ _ _ _ _ hf => by omega
  | f + 1 => fun t p m d post ho hp h h0 hm hd hf hi => by
    unfold pRow
    by_cases hn : t.wds = []
    · obtain ⟨e1, e2⟩ := nil_of hn
      have ht : txt t = [45] := by unfold txt glue; rw [if_pos hn]
      rw [ht] at h
      rw [if_pos (ch_cons h), ht, e1, e2]
      simp
    · have ht : txt t = joinL [32] t.wds := by unfold txt glue; rw [if_neg hn]
      rw [ht] at h
      have hne : ch l p ≠ [45] := by
        cases t with
        | nil => exact absurd rfl hn
        | call x r => cases e : r.wds <;> rw [ch_cons (c := 46) (by rw [h]; simp [T.wds, joinL, e]; rfl)] <;> simp
        | turn x r => cases e : r.wds <;> rw [ch_cons (c := 126) (by rw [h]; simp [T.wds, joinL, e]; rfl)] <;> simp
        | row x r => cases e : r.wds <;> rw [ch_cons (c := 60) (by rw [h]; simp [T.wds, joinL, e]; rfl)] <;> simp
        | times n t r => cases e : r.wds <;> rw [ch_cons (c := 40) (by rw [h]; simp [T.wds, joinL, e]; rfl)] <;> simp
      rw [if_neg hne, steps_back (row_back l f) hp t 62 p m d [] ho hn h (by omega) h0 hm hd hf, ht]
      simp
end K27

/-! k27: the rows that are drawn. -/
namespace K27
open PySem PySem.Spec L2 SL
local macro_rules
  | `(tactic| infer_instance) => `(tactic| first
    | ((with_reducible first
        | refine wf_seq ?_ | refine wf_asg ?_ | refine wf_ret ?_ | refine wf_retN ?_ | refine wf_expr ?_ | refine wf_nxM ?_ | refine wf_ctM ?_ | refine wf_bkM ?_ | refine wf_asgT ?_ | refine wf_raise ?_
        | refine wp_op2 ?_ | refine wp_op1 ?_ | refine wp_callG ?_ | refine wp_cons ?_ | refine wp_nil ?_ | refine wp_c ?_ | refine wp_cmpB ?_ | refine wp_trM ?_ | refine wp_notB ?_ | refine wp_andB ?_ | refine wp_orB ?_ | refine wp_andM ?_ | refine wp_orM ?_ | refine wp_notM ?_ | refine wp_ch ?_ | refine wp_sl ?_ | refine wp_soO ?_ | refine wp_noO ?_ | refine wp_fmt ?_ | refine wp_callKG ?_ | refine wp_yes ?_ | refine wp_mkx ?_
        | refine gw_addI ?_ | refine gw_subI ?_ | refine gw_ltI ?_ | refine gw_leI ?_ | refine gw_gtI ?_ | refine gw_geI ?_ | refine gw_eqI ?_ | refine gw_neI ?_ | refine gw_eqS ?_ | refine gw_neS ?_ | refine gw_inC ?_ | refine gw_ninC ?_
        | refine gb_ltI ?_ | refine gb_leI ?_ | refine gb_gtI ?_ | refine gb_geI ?_ | refine gb_eqI ?_ | refine gb_neI ?_ | refine gb_eqS ?_ | refine gb_neS ?_ | refine gb_inC ?_ | refine gb_ninC ?_ | refine gb_bl ?_ | refine gt_bl ?_ | refine gt_int ?_ | refine gt_lst ?_ | refine gt_tup ?_
        | refine gw_asI ?_ | refine gw_slT ?_ | refine gw_slL ?_ | refine gw_lenL ?_ | refine gw_lenT ?_ | refine gw_tuple ?_ | refine gw_tupleT ?_ | refine gw_tupleEnd ?_ | refine gw_lenEnd ?_ | refine gw_all ?_ | refine gw_any ?_ | refine gw_sum ?_ | refine gw_intI ?_ | refine gw_intB ?_ | refine gw_ix0L ?_ | refine gw_ix0T ?_ | refine gw_ix1L ?_ | refine gw_ix1T ?_ | refine gw_ix2L ?_ | refine gw_ix2T ?_))
    | ((with_reducible apply wp_v); (· rfl))
    | (with_reducible refine wp_appA ?_)
    | (with_reducible refine wp_mtS ?_)
    | (with_reducible first | refine gw_addS ?_ | refine gw_addL ?_ | refine gw_addT ?_ | refine gw_mulR ?_ | refine gw_mulL ?_ | refine gw_modI ?_ | refine gw_fdivI ?_ | refine gw_tup ?_ | refine gw_lst ?_ | refine gw_lenS ?_ | refine gw_slTo ?_ | refine gw_slFrom ?_ | refine gw_slFT ?_ | refine gw_slS ?_ | refine gw_pow ?_ | refine gw_upper ?_ | refine gw_lower ?_ | refine gw_str ?_ | refine gw_mulS ?_)
    | (refine ⟨rfl, ?_⟩))
  | `(tactic| sizeOf_list_dec) => `(tactic| (refine wp_def ?_; simp only [startD, List.map_cons, List.map_nil, List.length_cons, List.length_nil, Nat.reduceAdd, Nat.reduceSub, List.replicate_succ, List.replicate_zero, List.cons_append, List.nil_append, Nat.zero_add]))
section
variable {A : Ad} {U S : Store} {Q : SL.D → Store → Prop} {X : Ex → Store → Prop}
theorem number_wd (h : Dw U S) (k : ∀ (n : Nat) S', Dw U S' → n ≤ 10 ^ 30 → Q (.int (n : Int)) S') : wp (φlaw_number A [.loc 0] S) Q X := by
  sizeOf_list_dec
  unfold m_law_number
  repeat infer_instance
  refine wd_draw h (by decide) (by decide) fun r1 S1 d1 h1 => ?_
  repeat infer_instance
  refine wd_draw d1 (by decide) (by decide) fun r2 S2 d2 h2 => ?_
  repeat infer_instance
  refine wd_draw d2 (by decide) (by decide) fun r3 S3 d3 h3 => ?_
  repeat infer_instance
  refine wd_of d3 rfl fun d S4 d4 hd => ?_
  have fin : ∀ n : Nat, n ≤ 10 ^ 30 → d = .int n → wp (finV S d S4) Q X := fun n hn e => by
    subst e
    exact wp_fin rfl (d4.len.trans h.len.symm) (k n S4 d4 hn)
  simp only [List.mem_cons, List.not_mem_nil, or_false] at hd
  have e6 : (10 : Int) ^ (6 : Int).toNat = 1000000 := by decide
  have e9 : (10 : Int) ^ (9 : Int).toNat = 1000000000 := by decide
  have e30 : (10 : Int) ^ (30 : Int).toNat = 1000000000000000000000000000000 := by decide
  rw [e6] at h2
  rw [e9, e30] at hd
  rcases hd with e | e | e | e | e | e | e
  · exact fin 0 (by decide) e
  · exact fin 1 (by decide) e
  · exact fin 2 (by decide) e
  · exact fin 3 (by decide) e
  · exact fin r1 (by omega) e
  · exact fin (1000000000 + r2) (by omega) (by rw [e]; congr 1)
  · exact fin (1000000000000000000000000000000 - r3) (by omega) (by rw [e]; congr 1; omega)
theorem letters_wd (k : Q (.str s_SMALL) S) : wp (φlaw_letters A [] S) Q X := by
  sizeOf_list_dec
  unfold m_law_letters
  repeat infer_instance
  exact wp_finS rfl k
theorem small_lets : ∀ c ∈ s_SMALL, c ∈ s_LETTERS := by decide
theorem name_wd (h : Dw U S) (k : ∀ (x : List Nat) S', Dw U S' → 1 ≤ x.length → x.length ≤ 8 → (∀ c ∈ x, c ∈ s_SMALL) → Q (.str x) S') : wp (φlaw_name A [.loc 0] S) Q X := by
  sizeOf_list_dec
  unfold m_law_name
  repeat infer_instance
  refine letters_wd ?_
  repeat infer_instance
  refine wd_draw h (by decide) (by decide) fun r1 S1 d1 h1 => ?_
  repeat infer_instance
  refine gw_ixSd (by show r1 < 26; omega) (fun c hc => ?_) (by decide)
  repeat infer_instance
  refine wd_draw d1 (by decide) (by decide) fun r2 S2 d2 h2 => ?_
  have hl : (List.replicate r2 [c]).flatten.length = r2 := by simp
  repeat infer_instance
  have ha : ∀ x ∈ (List.replicate r2 [c]).flatten, x = c := fun x hx => by simp at hx; exact hx.2
  generalize (List.replicate r2 [c]).flatten = w at hl ha ⊢
  refine wd_draw d2 (by omega) (by omega) fun r3 S3 d3 h3 => ?_
  repeat infer_instance
  refine letters_wd ?_
  repeat infer_instance
  refine wd_draw d3 (by decide) (by decide) fun r4 S4 d4 h4 => ?_
  repeat infer_instance
  refine gw_ixSd (by show r4 < 26; omega) (fun e he => ?_) (by decide)
  repeat infer_instance
  refine wp_fin rfl (d4.len.trans h.len.symm) (k _ S4 d4 (by simp only [List.length_append, List.length_take, List.length_drop, List.length_cons, List.length_nil]; omega) (by simp only [List.length_append, List.length_take, List.length_drop, List.length_cons, List.length_nil]; omega) ?_)
  intro x hx
  simp only [List.mem_append, List.mem_singleton] at hx
  rcases hx with (hx | rfl) | hx
  · rw [ha x (List.mem_of_mem_take hx)]; exact hc
  · exact he
  · rw [ha x (List.mem_of_mem_drop hx)]; exact hc
theorem up_lets : ∀ c ∈ s_SMALL, upL c ∈ s_LETTERS ∧ asc [c] = true := by decide
theorem sides_wd {x : List Nat} (hx : x.length ≤ 12) (ha : ∀ c ∈ x, c ∈ s_SMALL) (h : Dw U S) (k : ∀ (y : List Nat) S', Dw U S' → y.length ≤ 12 → (∀ c ∈ y, c ∈ s_LETTERS) → Q (.str y) S') : wp (φlaw_sides A [.loc 0, .str x] S) Q X := by
  sizeOf_list_dec
  unfold m_law_sides
  repeat infer_instance
  refine wd_of h rfl fun d S1 d1 hd => ?_
  obtain ⟨od, rfl, ho⟩ : ∃ od : Nat, d = .int od ∧ 0 < od ∧ od < 10 := by
    simp only [List.mem_cons, List.not_mem_nil, or_false] at hd
    rcases hd with rfl | rfl | rfl | rfl
    · exact ⟨2, rfl, by decide⟩
    · exact ⟨3, rfl, by decide⟩
    · exact ⟨4, rfl, by decide⟩
    · exact ⟨6, rfl, by decide⟩
  repeat infer_instance
  refine wf_for (fun j δ S' => ∃ f y4 y5, δ = [some (.loc 0), some (.str x), some (.int (od : Int)), some (.str f), y4, y5] ∧ f.length ≤ j ∧ (∀ c ∈ f, c ∈ s_LETTERS) ∧ Dw U S') ?_
  refine wp_srcV (wp_v rfl ⟨rfl, signs x, fun _ _ _ _ => rfl, ⟨[], none, none, rfl, by simp, by simp, d1⟩, ?_, ?_⟩)
  · rintro j d hd δ S' ⟨f, y4, y5, rfl, hf, hfa, d'⟩
    obtain ⟨c, hc, rfl⟩ := sg_at hd
    have hj : j < 12 := by have := (List.getElem?_eq_some_iff.mp hd).1; simp [signs] at this; omega
    refine gw_bind ?_
    repeat infer_instance
    refine wd_draw d' (by omega) (by omega) fun r2 S2 d2 h2 => ?_
    repeat infer_instance
    refine wf_if ?_
    repeat infer_instance
    refine ⟨fun hlt => ?_, fun hlt => ?_⟩
    · simp only [decide_eq_true_eq] at hlt
      obtain ⟨hu1, hu2⟩ := up_lets c (ha c hc)
      repeat infer_instance
      refine gw_ixLd (by show r2 < 2; omega) fun d hd => ?_
      obtain ⟨e, rfl, he⟩ : ∃ e : Nat, d = .str [e] ∧ e ∈ s_LETTERS := by
        simp only [List.mem_cons, List.not_mem_nil, or_false] at hd
        rcases hd with rfl | rfl
        · exact ⟨c, rfl, small_lets c (ha c hc)⟩
        · exact ⟨_, rfl, hu1⟩
      repeat infer_instance
      exact ⟨_, _, _, rfl, by simp only [List.length_append, List.length_cons, List.length_nil]; omega, fun z hz => (List.mem_append.mp hz).elim (hfa z) (fun hz => by rw [List.mem_singleton.mp hz]; exact he), d2⟩
    · repeat infer_instance
      exact ⟨f, _, _, rfl, by omega, hfa, d2⟩
  · rintro δ S' ⟨f, y4, y5, rfl, hf, hfa, d'⟩
    repeat infer_instance
    have : (signs x).length = x.length := by simp [signs]
    exact wp_fin rfl (d'.len.trans h.len.symm) (k _ S' d' (by omega) hfa)
theorem map_erase : ∀ (w : List Nat) (r : Nat), (sgD w).eraseIdx r = sgD (w.eraseIdx r)
  | [], _ => rfl
  | _ :: _, 0 => rfl
  | c :: w, r + 1 => congrArg (SL.D.str [c] :: ·) (map_erase w r)
theorem mixed_wd {x : List Nat} (hx : x.length ≤ 12) (ha : ∀ c ∈ x, c ∈ s_LETTERS) (h : Dw U S) (k : ∀ (y : List Nat) S', Dw U S' → y.length = x.length → (∀ c ∈ y, c ∈ s_LETTERS) → Q (.lst (y.map fun c => .str [c])) S') : wp (φlaw_mixed A [.loc 0, .str x] S) Q X := by
  sizeOf_list_dec
  unfold m_law_mixed
  repeat infer_instance
  have e1 : list2G S [.str x] = some (.lst (sgD x)) := if_pos (by omega)
  refine wp_list2LM ?_
  repeat infer_instance
  refine ⟨_, e1, ?_⟩
  repeat infer_instance
  refine wp_comp (fun j acc S' => ∃ (S2 : Store) (w y : List Nat), S' = S2 ++ [.lst (sgD w)] ∧ Dw U S2 ∧ w.length + j = x.length ∧ (∀ c ∈ w, c ∈ s_LETTERS) ∧ acc = (y.map fun c => .str [c]) ∧ y.length = j ∧ ∀ c ∈ y, c ∈ s_LETTERS) ?_
  refine wp_srcV (wp_v rfl ⟨rfl, signs x, by simp [signs]; omega, fun _ _ _ _ _ => rfl, ?_, ⟨S, x, [], rfl, h, rfl, ha, rfl, rfl, by simp⟩, ?_, ?_⟩)
  · rintro j acc S' ⟨S2, w, y, rfl, d2, hw, hwa, rfl, hy, hya⟩
    refine ⟨by simp [d2.len, h.len], ?_, okL_iff.mpr ?_, by simp [hy]⟩
    · refine h.settles2 d2 fun c hc => ?_
      rw [List.mem_singleton.mp hc]
      exact okL_iff.mpr fun d hd => by
        obtain ⟨c, _, rfl⟩ := List.mem_map.mp hd
        rfl
    · intro d hd
      obtain ⟨c, _, rfl⟩ := List.mem_map.mp hd
      rfl
  · rintro j d hd acc S' ⟨S2, w, y, rfl, d2, hw, hwa, rfl, hy, hya⟩
    have hj : j < x.length := by have := (List.getElem?_eq_some_iff.mp hd).1; simpa [signs] using this
    have hlen : S2.length = S.length := d2.len.trans h.len.symm
    refine gw_bind ?_
    repeat infer_instance
    refine ⟨fun _ => ?_, fun z => by cases z⟩
    refine wp_lm (wp_v (d := .loc S.length) rfl ⟨by rw [← hlen, loc_mid]; rfl, ?_⟩)
    repeat infer_instance
    rw [← hlen]
    refine gw_lenMid ?_
    have hwl : (sgD w).length = w.length := by simp [sgD]
    rw [hwl]
    repeat infer_instance
    refine wd_draw (d2.app (t := [.lst (sgD w)]).app) (by omega) (by omega) fun r S3 d3 hr => ?_
    obtain ⟨S4, d4, rfl⟩ := d3.cut
    obtain ⟨S5, d5, rfl⟩ := d4.cut
    repeat infer_instance
    have hr' : r < w.length := by omega
    have l5 : S5.length = S2.length := d5.len.trans d2.len.symm
    have hp : popAtG (sgD w) [.int (r : Int)] = some (.str [w[r]], sgD (w.eraseIdx r)) := by
      rw [popAt_ok (d := .str [w[r]]) (by simp [sgD, hr']) (by omega)]
      congr 2
      exact map_erase w r
    refine ⟨_, _, _, _, by rw [← l5]; exact loc_mid, hp, _, set_mid, S5, w.eraseIdx r, y ++ [w[r]], rfl, d5, ?_, ?_, by simp, by simp [hy], ?_⟩
    · rw [List.length_eraseIdx, if_pos hr']; omega
    · exact fun c hc => hwa c (List.mem_of_mem_eraseIdx hc)
    · intro c hc
      rcases List.mem_append.mp hc with hc | hc
      · exact hya c hc
      · rw [List.mem_singleton.mp hc]; exact hwa _ (List.getElem_mem hr')
  · rintro acc S' ⟨S2, w, y, rfl, d2, hw, hwa, rfl, hy, hya⟩
    have hs : (signs x).length = x.length := by simp [signs]
    refine wp_finG (S' := S2) (okL_iff.mpr ?_) (d2.len.trans h.len.symm) (h.settles d2) (k y S2 d2 (by omega) hya)
    intro d hd
    obtain ⟨c, _, rfl⟩ := List.mem_map.mp hd
    rfl
namespace T
def app : T → T → T
  | nil, b => b
  | call x r, b => call x (app r b)
  | turn x r, b => turn x (app r b)
  | row x r, b => row x (app r b)
  | times n t r, b => times n t (app r b)
theorem app_its : ∀ a b : T, (app a b).its = a.its ++ b.its
  | nil, b => rfl
  | call x r, b => by simp [app, its, app_its r b]
  | turn x r, b => by simp [app, its, app_its r b]
  | row x r, b => by simp [app, its, app_its r b]
  | times n t r, b => by simp [app, its, app_its r b]
theorem app_ok : ∀ {a b : T}, a.ok → b.ok → (app a b).ok
  | nil, b, _, h => h
  | call x r, b, ⟨h1, h2, h3⟩, h => ⟨h1, h2, app_ok h3 h⟩
  | turn x r, b, ⟨h1, h2, h3, h4⟩, h => ⟨h1, h2, h3, app_ok h4 h⟩
  | row x r, b, ⟨h1, h2, h3, h4⟩, h => ⟨h1, h2, h3, app_ok h4 h⟩
  | times n t r, b, ⟨h1, h2, h3⟩, h => ⟨h1, h2, app_ok h3 h⟩
theorem app_dp : ∀ a b : T, (app a b).dp = max a.dp b.dp
  | nil, b => by simp [app, dp]
  | call x r, b => app_dp r b
  | turn x r, b => app_dp r b
  | row x r, b => app_dp r b
  | times n t r, b => by simp only [app, dp, app_dp r b]; omega
theorem app_wt : ∀ a b : T, (app a b).wt + 1 = a.wt + b.wt
  | nil, b => by simp [app, wt]; omega
  | call x r, b => by have := app_wt r b; simp only [app, wt]; omega
  | turn x r, b => by have := app_wt r b; simp only [app, wt]; omega
  | row x r, b => by have := app_wt r b; simp only [app, wt]; omega
  | times n t r, b => by have := app_wt r b; simp only [app, wt]; omega
end T
theorem join_sing : ∀ y : List Nat, joinL [] (y.map fun c => [c]) = y
  | [] => rfl
  | [c] => rfl
  | c :: d :: y => by
    have := join_sing (d :: y)
    simp only [List.map_cons, joinL, List.append_nil] at this ⊢
    rw [this]
    rfl
def wB : Nat → Nat
  | 0 => 801
  | d + 1 => 1 + 20 * (wB d + 40)
theorem okD_its : ∀ t : T, okL 0 t.its = true
  | .nil => rfl
  | .call x r => by simp [T.its, okL, okD, okD_its r]
  | .turn x r => by simp [T.its, okL, okD, okD_its r]
  | .row x r => by simp [T.its, okL, okD, okD_its r]
  | .times n t r => by simp [T.its, okL, okD, okD_its r, okD_its t]
theorem num_len {n : Nat} (h : n ≤ 10 ^ 30) : (strI n).length ≤ 31 := by
  rw [strI_num]
  exact TL.numL_len (by decide) (by omega)
def JT (deep left loc : Nat) (U : Store) (j : Nat) (δ : DEnv) (S' : Store) : Prop := ∃ (t : T) (y4 y5 y6 : Option SL.D) (S2 : Store), δ = [some (.loc 0), some (.int (left : Int)), some (.int (deep : Int)), some (.loc loc), y4, y5, y6] ∧ S' = S2 ++ [.lst t.its] ∧ Dw U S2 ∧ t.ok ∧ t.dp ≤ deep ∧ (deep = 0 → t.wt ≤ 1 + j * 40) ∧ (∀ e, deep = e + 1 → t.wt ≤ 1 + j * (wB e + 40))
theorem tree_wd : ∀ (n deep left : Nat), deep < n → deep ≤ 2 → left ≤ 20 → ∀ {U S : Store} {Q : SL.D → Store → Prop} {X : Ex → Store → Prop}, Dw U S → (∀ (t : T) S', Dw U S' → t.ok → t.dp ≤ deep → t.wt ≤ wB deep → Q (tD t) S') → wp (grp_law_tree A n [.loc 0, .int (left : Int), .int (deep : Int)] S) Q X
  | 0, deep, left, hd, _, hl, _, _, _, _, _, _ => by omega
  | n + 1, deep, left, hd, hd2, hl, U, S, Q, X, h, k => by
    unfold grp_law_tree
    sizeOf_list_dec
    unfold m_law_tree
    repeat infer_instance
    refine wp_lstLM ?_
    repeat infer_instance
    refine ⟨by simp, ?_⟩
    refine wf_seq ?_
    refine wf_for (JT deep left S.length U) ?_
    refine wp_src1 ?_
    repeat infer_instance
    refine wd_of (h.app (t := [.lst []])) rfl fun d S1 d1 hd => ?_
    obtain ⟨m, rfl, hm⟩ : ∃ m : Nat, d = .int m ∧ m ≤ 20 := by
      simp only [List.mem_cons, List.not_mem_nil, or_false] at hd
      rcases hd with rfl | rfl | rfl | rfl | rfl
      · exact ⟨0, rfl, by decide⟩
      · exact ⟨1, rfl, by decide⟩
      · exact ⟨2, rfl, by decide⟩
      · exact ⟨3, rfl, by decide⟩
      · exact ⟨left, rfl, hl⟩
    obtain ⟨S2, d2, rfl⟩ := d1.cut
    refine ⟨m, rfl, by omega, _, fun _ _ _ _ => rfl, ⟨.nil, none, none, none, S2, rfl, rfl, d2, trivial, by simp [T.dp], by simp [T.wt], by simp [T.wt]⟩, ?_, ?_⟩
    · rintro j d hd δ S' ⟨t, y4, y5, y6, S3, rfl, rfl, d3, ho, hdp, hw0, hw⟩
      have hj : j < m := (rng_at hd).1
      have hlen : S3.length = S.length := d3.len.trans h.len.symm
      -- a step put on
      have put : ∀ (u : T) (y4 y5 y6 : Option SL.D) (S' : Store), Dw U S' → u.ok → u.dp ≤ deep → (deep = 0 → u.wt ≤ 41) → (∀ e, deep = e + 1 → u.wt ≤ wB e + 41) →
          JT deep left S.length U (j + 1) [some (.loc 0), some (.int (left : Int)), some (.int (deep : Int)), some (.loc S.length), y4, y5, y6] (S' ++ [.lst (t.its ++ u.its)]) := by
        intro u y4 y5 y6 S' d' hu hud hu0 hu1
        have hwt := T.app_wt t u
        refine ⟨T.app t u, y4, y5, y6, S', rfl, by rw [T.app_its], d', T.app_ok ho hu, by rw [T.app_dp]; omega, fun e => ?_, fun e he => ?_⟩
        · have h1 := hw0 e
          have h2 := hu0 e
          rw [Nat.add_mul]
          omega
        · have h1 := hw e he
          have h2 := hu1 e he
          rw [Nat.add_mul]
          omega
      have htl : t.its.length < 1000000 := by
        have h1 := its_len t
        cases deep with
        | zero => have := hw0 rfl; omega
        | succ e =>
          have h2 := hw e rfl
          have h3 : j * (wB e + 40) ≤ 20 * (wB e + 40) := Nat.mul_le_mul_right _ (by omega)
          have h4 : wB e ≤ 20000 := by
            have : e ≤ 1 := by omega
            cases e with
            | zero => decide
            | succ e => cases e with
              | zero => decide
              | succ e => omega
          omega
      refine gw_bind ?_
      repeat infer_instance
      refine wd_draw (d3.app (t := [.lst t.its])) (by decide) (by decide) fun r S4 d4 hr => ?_
      obtain ⟨S5, d5, rfl⟩ := d4.cut
      have l5 : S5.length = S.length := d5.len.trans h.len.symm
      repeat infer_instance
      refine wf_if ?_
      refine wp_q (Q := fun c S1 => c = decide (r = 0 ∧ 0 < deep) ∧ S1 = S5 ++ [.lst t.its]) ?_ ?_
      · repeat infer_instance
        refine ⟨fun h0 => ?_, fun h0 => ?_⟩
        · repeat infer_instance
          simp only [decide_eq_true_eq] at h0
          refine ⟨?_, rfl⟩
          have : r = 0 := by omega
          simp [this]
        · simp only [decide_eq_false_iff_not] at h0
          refine ⟨?_, rfl⟩
          have : ¬ r = 0 := by omega
          simp [this]
      rintro _ _ ⟨rfl, rfl⟩
      refine ⟨fun h0 => ?_, fun h0 => ?_⟩
      · simp only [decide_eq_true_eq] at h0
        obtain ⟨hr0, hdeep⟩ := h0
        obtain ⟨e, rfl⟩ : ∃ e, deep = e + 1 := ⟨deep - 1, by omega⟩
        repeat infer_instance
        rw [← l5]
        refine wp_append (by rw [l5]; rfl) ?_
        repeat infer_instance
        refine number_wd (d5.app (t := [.lst t.its])) fun nn S6 d6 hn => ?_
        obtain ⟨S7, d7, rfl⟩ := d6.cut
        repeat infer_instance
        have e1 : (left : Int) / 8 = ((left / 8 : Nat) : Int) := by omega
        have e2 : ((e + 1 : Nat) : Int) - 1 = (e : Int) := by omega
        rw [e1, e2]
        refine tree_wd n e (left / 8) (by omega) (by omega) (by omega) (d7.app (t := [.lst t.its])) fun u S8 d8 hu hud huw => ?_
        obtain ⟨S9, d9, rfl⟩ := d8.cut
        repeat infer_instance
        refine ⟨S9, _, rfl, d9.len.trans d5.len.symm, rfl, htl, ?_⟩
        have hnl := num_len hn
        rw [l5]
        refine put (.times nn u .nil) _ _ _ S9 d9 ⟨hn, hu, trivial⟩ (by simp only [T.dp]; omega) (by omega) (fun e' he => ?_)
        obtain rfl : e = e' := by omega
        simp only [T.wt]
        omega
      · refine wf_if ?_
        repeat infer_instance
        refine ⟨fun h1 => ?_, fun h1 => ?_⟩
        · repeat infer_instance
          rw [← l5]
          refine wp_append (by rw [l5]; rfl) ?_
          repeat infer_instance
          refine name_wd (d5.app (t := [.lst t.its])) fun x S6 d6 hx1 hx2 hxa => ?_
          obtain ⟨S7, d7, rfl⟩ := d6.cut
          repeat infer_instance
          refine ⟨S7, _, rfl, d7.len.trans d5.len.symm, rfl, htl, ?_⟩
          rw [l5]
          exact put (.row x .nil) _ _ _ S7 d7 ⟨hx1, hx2, hxa, trivial⟩ (by simp [T.dp]) (fun _ => by simp only [T.wt]; omega) (fun e he => by simp only [T.wt]; omega)
        · repeat infer_instance
          refine letters_wd ?_
          repeat infer_instance
          refine wd_draw (d5.app (t := [.lst t.its])) (by decide) (by decide) fun q S6 d6 hq => ?_
          repeat infer_instance
          have hsl : s_SMALL.length = 26 := rfl
          refine sides_wd (by rw [List.length_take]; omega) (fun c hc => List.mem_of_mem_take hc) d6 fun x S7 d7 hx hxa => ?_
          repeat infer_instance
          refine mixed_wd hx hxa d7 fun y S8 d8 hy hya => ?_
          obtain ⟨S9, d9, rfl⟩ := d8.cut
          have hsum : ((y.map fun c => [c]).map List.length).sum = y.length := by
            rw [List.map_map]
            clear hy hya
            induction y with
            | nil => rfl
            | cons c y ih => simp [List.sum_cons] at ih ⊢; omega
          have l9 : S9.length = S.length := d9.len.trans h.len.symm
          repeat infer_instance
          have e1 : (y.map fun c => SL.D.str [c]) = (y.map fun c => [c]).map SL.D.str := by rw [List.map_map]; rfl
          rw [e1]
          refine gw_joinL ?_ (by rw [hsum]; simp; omega)
          rw [join_sing]
          repeat infer_instance
          rw [← l9]
          refine wp_append (by rw [l9]; rfl) ?_
          repeat infer_instance
          refine wp_ifM ?_
          refine wp_q (Q := fun c S1 => c = decide (r < 5 ∨ y = []) ∧ S1 = S9 ++ [.lst t.its]) ?_ ?_
          · repeat infer_instance
            refine ⟨fun h0 => ?_, fun h0 => ?_⟩
            · simp only [decide_eq_true_eq] at h0
              have : r < 5 := by omega
              simp [this]
            · repeat infer_instance
              simp only [decide_eq_false_iff_not] at h0
              have : ¬ r < 5 := by omega
              simp [this]
          rintro _ _ ⟨rfl, rfl⟩
          refine ⟨fun h2 => ?_, fun h2 => ?_⟩
          · repeat infer_instance
            refine ⟨S9, _, rfl, rfl, rfl, htl, ?_⟩
            rw [l9]
            exact put (.call y .nil) _ _ _ S9 d9 ⟨by omega, hya, trivial⟩ (by simp [T.dp]) (fun _ => by simp only [T.wt]; omega) (fun e he => by simp only [T.wt]; omega)
          · simp only [decide_eq_false_iff_not, not_or] at h2
            have hy1 : 1 ≤ y.length := List.length_pos_iff.mpr h2.2
            repeat infer_instance
            refine ⟨S9, _, rfl, rfl, rfl, htl, ?_⟩
            rw [l9]
            exact put (.turn y .nil) _ _ _ S9 d9 ⟨hy1, by omega, hya, trivial⟩ (by simp [T.dp]) (fun _ => by simp only [T.wt]; omega) (fun e he => by simp only [T.wt]; omega)
    · rintro δ S' ⟨t, y4, y5, y6, S3, rfl, rfl, d3, ho, hdp, hw0, hw⟩
      have hlen : S3.length = S.length := d3.len.trans h.len.symm
      repeat infer_instance
      rw [← hlen]
      refine gw_tupleEnd ?_
      repeat infer_instance
      refine wp_finG (S' := S3) (by simp [okD, okL, okD_its]) hlen (h.settles d3) (k t S3 d3 ho hdp ?_)
      simp only [List.length_map, List.length_range, Int.toNat_natCast] at hw0 hw
      cases deep with
      | zero => have := hw0 rfl; simp only [wB]; omega
      | succ e =>
        have := hw e rfl
        simp only [wB]
        have : m * (wB e + 40) ≤ 20 * (wB e + 40) := Nat.mul_le_mul_right _ hm
        omega
end
end K27

/-! k27: the law. -/
namespace K27
open PySem PySem.Spec L2 SL
local macro_rules
  | `(tactic| infer_instance) => `(tactic| first
    | ((with_reducible first
        | refine wf_seq ?_ | refine wf_asg ?_ | refine wf_ret ?_ | refine wf_retN ?_ | refine wf_expr ?_ | refine wf_nxM ?_ | refine wf_ctM ?_ | refine wf_bkM ?_ | refine wf_asgT ?_ | refine wf_raise ?_
        | refine wp_op2 ?_ | refine wp_op1 ?_ | refine wp_callG ?_ | refine wp_cons ?_ | refine wp_nil ?_ | refine wp_c ?_ | refine wp_cmpB ?_ | refine wp_trM ?_ | refine wp_notB ?_ | refine wp_andB ?_ | refine wp_orB ?_ | refine wp_andM ?_ | refine wp_orM ?_ | refine wp_notM ?_ | refine wp_ch ?_ | refine wp_sl ?_ | refine wp_soO ?_ | refine wp_noO ?_ | refine wp_fmt ?_ | refine wp_callKG ?_ | refine wp_yes ?_ | refine wp_mkx ?_
        | refine gw_addI ?_ | refine gw_subI ?_ | refine gw_ltI ?_ | refine gw_leI ?_ | refine gw_gtI ?_ | refine gw_geI ?_ | refine gw_eqI ?_ | refine gw_neI ?_ | refine gw_eqS ?_ | refine gw_neS ?_ | refine gw_inC ?_ | refine gw_ninC ?_
        | refine gb_ltI ?_ | refine gb_leI ?_ | refine gb_gtI ?_ | refine gb_geI ?_ | refine gb_eqI ?_ | refine gb_neI ?_ | refine gb_eqS ?_ | refine gb_neS ?_ | refine gb_inC ?_ | refine gb_ninC ?_ | refine gb_bl ?_ | refine gt_bl ?_ | refine gt_int ?_ | refine gt_lst ?_ | refine gt_tup ?_
        | refine gw_asI ?_ | refine gw_slT ?_ | refine gw_slL ?_ | refine gw_lenL ?_ | refine gw_lenT ?_ | refine gw_tuple ?_ | refine gw_tupleT ?_ | refine gw_tupleEnd ?_ | refine gw_lenEnd ?_ | refine gw_all ?_ | refine gw_any ?_ | refine gw_sum ?_ | refine gw_intI ?_ | refine gw_intB ?_ | refine gw_ix0L ?_ | refine gw_ix0T ?_ | refine gw_ix1L ?_ | refine gw_ix1T ?_ | refine gw_ix2L ?_ | refine gw_ix2T ?_))
    | ((with_reducible apply wp_v); (· rfl))
    | (with_reducible refine wp_appA ?_)
    | (with_reducible refine wp_mtS ?_)
    | (with_reducible first | refine gw_addS ?_ | refine gw_addL ?_ | refine gw_addT ?_ | refine gw_mulR ?_ | refine gw_mulL ?_ | refine gw_modI ?_ | refine gw_fdivI ?_ | refine gw_tup ?_ | refine gw_lst ?_ | refine gw_lenS ?_ | refine gw_slTo ?_ | refine gw_slFrom ?_ | refine gw_slFT ?_ | refine gw_slS ?_ | refine gw_pow ?_ | refine gw_upper ?_ | refine gw_lower ?_ | refine gw_str ?_ | refine gw_mulS ?_)
    | (refine ⟨rfl, ?_⟩))
  | `(tactic| sizeOf_list_dec) => `(tactic| (refine wp_def ?_; simp only [startD, List.map_cons, List.map_nil, List.length_cons, List.length_nil, Nat.reduceAdd, Nat.reduceSub, List.replicate_succ, List.replicate_zero, List.cons_append, List.nil_append, Nat.zero_add]))
section
variable {A : Ad} {U S : Store} {Q : SL.D → Store → Prop} {X : Ex → Store → Prop}
theorem same_eq (A : Ad) : ∀ n, grp_law_same A n = sameN n
  | 0 => rfl
  | n + 1 => by
    show defM 3 (m_law_same A (grp_law_same A n)) = defM 3 (sameM (sameN n))
    rw [same_eq A n]
    rfl
theorem lsame_ok {x : SL.D} (h : pl 40 x) : φlaw_same A [x, x] S = .ok (.bl true) S := by
  show grp_law_same A 40 [x, x] S = _
  rw [same_eq]
  exact same_ok 40 x h S
theorem law_text_wd {t : T} (ho : t.ok) (hw : t.wt ≤ 400000) (hd : t.dp < 40) (k : Q (.str (txt t)) S) : wp (φlaw_text A [tD t] S) Q X := wp_ok (law_text_ok 40 t hd ho hw S) k
theorem is_row_wd {t : T} (ho : t.ok) (hw : t.wt ≤ 400000) (hd : t.dp ≤ 18) (k : Q (.bl (isRow t)) S) : wp (φis_row A [tD t] S) Q X := wp_ok (row_is ho hw hd) k
theorem row_text_wd {t : T} (ho : t.ok) (hw : t.wt ≤ 400000) (hr : isRow t = true) (k : Q (.str (txt t)) S) : wp (φrow_text A [tD t] S) Q X := wp_ok (row_text_ok ho hw hr) k
theorem same_wd {x : SL.D} (h : pl 40 x) (k : Q (.bl true) S) : wp (φlaw_same A [x, x] S) Q X := wp_ok (lsame_ok h) k
theorem read_wd {t : T} (ho : t.ok) (hw : t.wt ≤ 400000) (hr : isRow t = true) (k : Q (tD t) S) : wp (φread_row A [.str (txt t)] S) Q X := by
  have hl := txt_len t
  have h := read_ok (A := A) (S := S) (l := txt t) (by omega)
  have hr' : t.cnt ≤ 60 ∧ t.dp ≤ 12 := by simpa [isRow] using hr
  have hc := cnt_sub t
  have e := row_back (txt t) 13 t 0 0 0 [] ho (.inl rfl) (by simp) (by omega) (by omega) (by omega) (by omega) (by omega)
  rw [e] at h
  have hz : ch (txt t) (0 + (txt t).length) = [] := by simp [ch]
  exact wp_ok ((if_pos hz).mp h) k
theorem pl_two {n : Nat} {a b : List Nat} : pl (n + 2) (.tup [.str a, .str b]) := ⟨by simp, fun d hd => by
  simp only [List.mem_cons, List.not_mem_nil, or_false] at hd
  rcases hd with rfl | rfl <;> trivial⟩
theorem its_pl : ∀ (t : T) (n : Nat), t.cnt ≤ 60 → 3 * t.dp ≤ n → ∀ d ∈ t.its, pl (n + 2) d
  | .nil, n, _, _, d, h => by simp [T.its] at h
  | .call x r, n, hc, hn, d, h => by
    rcases List.mem_cons.mp h with rfl | h
    · exact pl_two
    · exact its_pl r n (by simp only [T.cnt] at hc; omega) hn d h
  | .turn x r, n, hc, hn, d, h => by
    rcases List.mem_cons.mp h with rfl | h
    · exact pl_two
    · exact its_pl r n (by simp only [T.cnt] at hc; omega) hn d h
  | .row x r, n, hc, hn, d, h => by
    rcases List.mem_cons.mp h with rfl | h
    · exact pl_two
    · exact its_pl r n (by simp only [T.cnt] at hc; omega) hn d h
  | .times m t r, n, hc, hn, d, h => by
    simp only [T.cnt, T.dp] at hc hn
    rcases List.mem_cons.mp h with rfl | h
    · have hs := cnt_sub t
      obtain ⟨k, rfl⟩ : ∃ k, n = k + 3 := ⟨n - 3, by omega⟩
      refine ⟨by simp, fun d hd => ?_⟩
      simp only [List.mem_cons, List.not_mem_nil, or_false] at hd
      rcases hd with rfl | rfl | rfl
      · trivial
      · trivial
      · refine ⟨by simp, fun d hd => ?_⟩
        simp only [List.mem_cons, List.not_mem_nil, or_false] at hd
        rcases hd with rfl | rfl
        · trivial
        · exact ⟨by omega, fun d hd => its_pl t k (by omega) (by omega) d hd⟩
    · exact its_pl r n (by omega) (by omega) d h
theorem tree_pl {t : T} (hc : t.cnt ≤ 60) (hd : t.dp ≤ 12) : pl 40 (tD t) := by
  have hs := cnt_sub t
  refine ⟨by simp, fun d hm => ?_⟩
  simp only [List.mem_cons, List.not_mem_nil, or_false] at hm
  rcases hm with rfl | rfl
  · trivial
  · exact ⟨by omega, fun d hm => its_pl t 36 hc (by omega) d hm⟩
theorem law_wf (h : Dw [] S) : wf (mlaw A [none, some (.loc 0), none, none, none, none] S) noB (fun d _ => d = .bl true) noXs noB noB := by
  unfold mlaw m_law
  refine wf_seq ?_
  refine wf_for (fun _ δ S' => ∃ x2 x3 x4 x5, δ = [none, some (.loc 0), x2, x3, x4, x5] ∧ Dw [] S') ?_
  refine wp_src1 ?_
  repeat infer_instance
  refine ⟨4, rfl, by decide, _, fun _ _ _ _ => rfl, ⟨_, _, _, _, rfl, h⟩, ?_, ?_⟩
  · rintro j d hd δ S' ⟨x2, x3, x4, x5, rfl, h'⟩
    refine gw_bind ?_
    repeat infer_instance
    refine wd_of h' rfl fun d' S1 d1 hd' => ?_
    obtain ⟨left, rfl, hl⟩ : ∃ n : Nat, d' = .int n ∧ n ≤ 20 := by
      simp only [List.mem_cons, List.not_mem_nil, or_false] at hd'
      rcases hd' with rfl | rfl | rfl
      · exact ⟨3, rfl, by decide⟩
      · exact ⟨7, rfl, by decide⟩
      · exact ⟨20, rfl, by decide⟩
    repeat infer_instance
    refine tree_wd 20 2 left (by decide) (by decide) hl d1 fun t S2 d2 ho hdp hwt => ?_
    repeat infer_instance
    refine wf_for (fun j δ S' => ∃ (t : T) (x4 : Option SL.D), δ = [none, some (.loc 0), some d, some (tD t), x4, x5] ∧ Dw [] S' ∧ t.ok ∧ t.dp ≤ 2 + j ∧ t.wt ≤ wB 2 + 40 * j) ?_
    refine wp_src1 ?_
    repeat infer_instance
    refine wd_draw d2 (by decide) (by decide) fun r S3 d3 hr => ?_
    refine ⟨r, rfl, by omega, _, fun _ _ _ _ => rfl, ⟨t, x4, rfl, d3, ho, hdp, by omega⟩, ?_, ?_⟩
    · rintro j d4 hd4 δ S' ⟨t, x4, rfl, h4, ho, hdp, hwt⟩
      refine gw_bind ?_
      repeat infer_instance
      refine number_wd h4 fun n S5 d5 hn => ?_
      repeat infer_instance
      have hnl := num_len hn
      refine ⟨.times n t .nil, _, rfl, d5, ⟨hn, ho, trivial⟩, by simp only [T.dp]; omega, by simp only [T.wt]; omega⟩
    · rintro δ S' ⟨t, x4, rfl, h4, ho, hdp, hwt⟩
      have hB : wB 2 ≤ 350000 := by decide
      simp only [List.length_map, List.length_range, Int.toNat_natCast] at hdp hwt
      have hr' : r < 10 := by omega
      repeat infer_instance
      refine law_text_wd ho (by omega) (by omega) ?_
      repeat infer_instance
      refine wf_if ?_
      repeat infer_instance
      refine is_row_wd ho (by omega) (by omega) ?_
      repeat infer_instance
      refine ⟨fun hz => ?_, fun hz => ?_⟩
      · repeat infer_instance
        exact ⟨_, _, _, _, rfl, h4⟩
      · have hrow : isRow t = true := by simpa using hz
        have hr2 : t.cnt ≤ 60 ∧ t.dp ≤ 12 := by simpa [isRow] using hrow
        repeat infer_instance
        refine wf_if ?_
        repeat infer_instance
        refine row_text_wd ho (by omega) hrow ?_
        repeat infer_instance
        refine same_wd trivial ?_
        repeat infer_instance
        refine ⟨fun hz => by simp at hz, fun _ => ?_⟩
        repeat infer_instance
        refine read_wd ho (by omega) hrow ?_
        repeat infer_instance
        refine same_wd (tree_pl hr2.1 hr2.2) ?_
        repeat infer_instance
        refine ⟨fun hz => by simp at hz, fun _ => ?_⟩
        repeat infer_instance
        exact ⟨_, _, _, _, rfl, h4⟩
  · rintro δ S' ⟨x2, x3, x4, x5, rfl, h'⟩
    have e1 : SL.D.str [45] = .str (txt .nil) := rfl
    have e2 : SL.D.tup [.str [115, 116, 101, 112, 115], .tup []] = tD .nil := rfl
    repeat infer_instance
    rw [e1]
    refine read_wd trivial (by decide) rfl ?_
    repeat infer_instance
    rw [e2]
    refine row_text_wd trivial (by decide) rfl ?_
    repeat infer_instance
    refine same_wd ?_ rfl
    refine ⟨by simp, fun d hm => ?_⟩
    simp only [List.mem_cons, List.not_mem_nil, or_false] at hm
    rcases hm with rfl | rfl
    · refine ⟨by simp, fun d hm => ?_⟩
      simp only [List.mem_cons, List.not_mem_nil, or_false] at hm
      rcases hm with rfl | rfl
      · trivial
      · exact ⟨by simp [T.its], fun d hm => by simp [T.its] at hm⟩
    · trivial
theorem law_true (A : Ad) (ns : List Int) (_ : ns.length ≤ 63) : ∃ S', mlaw A (none :: some (.loc 0) :: List.replicate 4 none) [drawS ns 0 0 (seedOf ns) 0] = .rt (.bl true) S' := by
  obtain ⟨d, S', e, rfl⟩ := wf_rt (law_wf (A := A) (S := [drawS ns 0 0 (seedOf ns) 0]) ⟨ns, 0, 0, _, 0, by omega, rfl⟩)
  exact ⟨S', e⟩
end
end K27

open PySem PySem.W PySem.Calls PyProof.Rows
theorem PySem.Challenge.cw_nearcall_k27_rows_written_and_read_holds : PySem.Challenge.rw_nearcall_k27_rows_written_and_read.Holds := by
  w_on; o_law
  refine HandSHeadRun.head_any (r := OpenLaw.row PySem.Challenge.rw_nearcall_k27_rows_written_and_read) (q := view (OpenLaw.row PySem.Challenge.rw_nearcall_k27_rows_written_and_read).prog [39]) (H := K27.hk) (ob := K27.ob) (M := 4000) (loose := K27.loose) (d := HandSHeadRun.topDef (OpenLaw.row PySem.Challenge.rw_nearcall_k27_rows_written_and_read).prog 39) (kwd := []) K27.ob_eq
    (by kernel_rfl) (fun s => by kernel_rfl) K27.run (by kernel_rfl) (by kernel_rfl) (by kernel_rfl) (by rfl) (by first | assumption | decide +kernel) (by decide +kernel) ⟨rfl, rfl, rfl, rfl, rfl, by decide +kernel⟩ ?hw ?hc
  case hw => w_witness2
  case hc =>
    refine L2.walk_ofE (l := PySem.Challenge.rw_nearcall_k27_rows_written_and_read) (n := 63) (k := 70) (x := "_law_script") (CX := L2.CX0) rfl (by decide) (by kernel_rfl) ⟨rfl, by decide, by decide⟩ ?F (fun _ _ _ _ z => z)
    intro w mg fa h Y G hmg0
    obtain ⟨K, KX, c⟩ := Y
    have hmg : mg ("law" : PySem.Str) = some (.ref fa) := by
      have e : (HandSHeadRun.topDef (OpenLaw.row PySem.Challenge.rw_nearcall_k27_rows_written_and_read).prog 39).name = ("law" : PySem.Str) := by kernel_rfl
      rw [← e]
      exact hmg0
    obtain ⟨E, x⟩ := K27.fx_of KX G c
    have e := hmg.symm.trans x.m_law
    cases e
    have b := x.F_law.bindsA (ps := ["_law_script"]) fun _ _ _ _ _ _ us hl => match us, hl with | [_], _ => rfl
    exact ⟨K, _, _, KX, fun s v => b s [v] rfl, fun H a ns hl _ hS => ⟨a, ns, rfl, hS, hl, K27.law_true _ ns hl, fun _ => rfl⟩, fun base _ _ => SL.no_out (K27.p_law x (Nat.le_refl _)) fun _ _ _ _ h => h⟩
