import PyProof.Rows.All
import Wide.All
import OpenK.AllK
import Wide.FinOn
import HandS.ForMost
import HandS.Exc
import HandS.ExcInit
import HandS.WordsExc
import HandS.CallSlots
import HandS.IsInst
import HandS.Flow
import HandS.Conv
import HandS.Wide
import HandS.Style
import HandS.StrMore
import HandS.FStr
import HandS.TupAny
import HandS.Deep
import PyProof.StrOps2
import HandS.TupLe
import PyProof.Rows.StrCase
import PyProof.StrBlockL
import HandS.Defaults
import HandS.ExcField
import HandS.ClsMeth
import HandS.Words
import HandS.Head0
import HandS.Head1
import HandS.Head2
import HandS.HeadEnd
import HandS.HeadHook1
import HandS.HeadHook2
import HandS.HeadHook3
import HandS.HeadHook4
import PySem.Challenge.RW_nearcall_k28_texts_that_are_no_row
set_option Elab.async false
set_option linter.all false
set_option maxRecDepth 100000
set_option maxHeartbeats 4000000
/-! SL: values as trees, mutable objects in a store; rules over HandS. -/
namespace SL
open PySem PySem.Spec L2
open PyProof.Rows hiding St

/-- a Python value, as data -/
inductive D where
  | non | bl (b : Bool) | int (i : Int) | str (l : List Nat)
  | tup (xs : List D) | lst (xs : List D) | dct (ks : List Key) (ds : List D) | obj (C : Addr) (ns : List Str) (ds : List D)
  | loc (n : Nat) | raw (v : V) | exn (a dd : Addr) (ns : List Str) (ds : List D)
/-- a mutable object -/
inductive Cell where
  | lst (xs : List D) | dct (ks : List Key) (ds : List D) | obj (C : Addr) (ns : List Str) (ds : List D)
abbrev Store := List Cell
abbrev DEnv := List (Option D)
/-- an exception: its class, its fields -/
structure Ex where
  C : Addr
  ns : List Str
  ds : List D
inductive Res (α : Type) where
  | ok (a : α) (S : Store)
  | exc (x : Ex) (S : Store)
  | stuck
def Res.bind {α β : Type} (r : Res α) (f : α → Store → Res β) : Res β := match r with
  | .ok a S => f a S
  | .exc x S => .exc x S
  | .stuck => .stuck

mutual
def Rep (H : Hp) (ρ : List Addr) : D → V → Prop
  | .non, v => v = .non
  | .bl b, v => v = .bl b
  | .int i, v => v = .int i
  | .str l, v => v = .str ⟨l.toArray⟩
  | .raw u, v => v = u
  | .loc n, v => ∃ a, ρ[n]? = some a ∧ v = .ref a
  | .tup ds, v => ∃ a vs, v = .ref a ∧ H a = some (.tup vs) ∧ a ∉ ρ ∧ Reps H ρ ds vs
  | .lst ds, v => ∃ a vs, v = .ref a ∧ H a = some (.lst vs) ∧ a ∉ ρ ∧ Reps H ρ ds vs
  | .dct ks ds, v => ∃ a vs, v = .ref a ∧ H a = some (.dK (ks.zip vs)) ∧ a ∉ ρ ∧ ks.length = ds.length ∧ Reps H ρ ds vs
  | .obj C ns ds, v => ∃ a dx vs, v = .ref a ∧ H a = some (.ins C dx (ns.zip vs)) ∧ a ∉ ρ ∧ ns.length = ds.length ∧ Reps H ρ ds vs
  | .exn a dd ns ds, v => ∃ vs, v = .ref a ∧ H dd = some (.xd (ns.zip vs)) ∧ dd ∉ ρ ∧ ns.length = ds.length ∧ Reps H ρ ds vs
def Reps (H : Hp) (ρ : List Addr) : List D → List V → Prop
  | [], vs => vs = []
  | d :: ds, vs => ∃ v r, vs = v :: r ∧ Rep H ρ d v ∧ Reps H ρ ds r
end
def RepC (H : Hp) (ρ : List Addr) (a : Addr) : Cell → Prop
  | .lst ds => ∃ vs, H a = some (.lst vs) ∧ Reps H ρ ds vs
  | .dct ks ds => ∃ vs, H a = some (.dK (ks.zip vs)) ∧ ks.length = ds.length ∧ Reps H ρ ds vs
  | .obj C ns ds => ∃ dx vs, H a = some (.ins C dx (ns.zip vs)) ∧ ns.length = ds.length ∧ Reps H ρ ds vs
/-- an exception's class and own dict -/
def RepX (H : Hp) (ρ : List Addr) (x : Ex) (cls : Value) (dd : Option Addr) : Prop :=
  cls = .ref x.C ∧ ∃ d vs, dd = some d ∧ H d = some (.xd (x.ns.zip vs)) ∧ d ∉ ρ ∧ x.ns.length = x.ds.length ∧ Reps H ρ x.ds vs
/-- the store stands in the heap -/
structure StS (H : Hp) (S : Store) (ρ : List Addr) : Prop where
  len : ρ.length = S.length
  nd : ρ.Nodup
  cells : ∀ (n : Nat) (a : Addr) (c : Cell), ρ[n]? = some a → S[n]? = some c → RepC H ρ a c
/-- the slots -/
def EnvS (H : Hp) (ρ : List Addr) (δ : DEnv) (σ : St) : Prop := δ.length = σ.length ∧ ∀ (i : Nat) (d : D), δ[i]? = some (some d) → ∃ v, σ[i]? = some (some v) ∧ Rep H ρ d v
structure StE (σ : St) (H : Hp) (δ : DEnv) (S : Store) (ρ : List Addr) : Prop where
  st : StS H S ρ
  env : EnvS H ρ δ σ
/-- the heap goes on: the store's objects may change, new ones come, all else stands (tables may grow) -/
structure Nx (H : Hp) (ρ : List Addr) (H' : Hp) (ρ' : List Addr) : Prop where
  pre : ∃ t, ρ' = ρ ++ t
  new : ∀ a, a ∈ ρ' → a ∉ ρ → H a = none
  thr : ∀ a, H' a = none → H a = none
  stay : ∀ a o, H a = some o → a ∉ ρ → (∀ ps, o ≠ .tbl ps) → H' a = some o
  tbl : ∀ a ps, H a = some (.tbl ps) → a ∉ ρ → ∃ more, H' a = some (.tbl (ps ++ more))
section
variable {H H' H1 H2 : Hp} {ρ ρ' ρ1 ρ2 : List Addr} {a p : Addr} {o : HO}
theorem Nx.refl (H : Hp) (ρ : List Addr) : Nx H ρ H ρ := ⟨⟨[], by simp⟩, fun a h n => absurd h n, fun a h => h, fun a o h _ _ => h, fun a ps h _ => ⟨#[], by simpa using h⟩⟩
theorem Nx.mem (n : Nx H ρ H' ρ') (h : a ∈ ρ) : a ∈ ρ' := by
  obtain ⟨t, rfl⟩ := n.pre
  exact List.mem_append_left _ h
theorem Nx.notin (n : Nx H ρ H' ρ') (h : H a = some o) (k : a ∉ ρ) : a ∉ ρ' := fun z => by
  have := n.new a z k
  rw [h] at this
  cases this
theorem Nx.at (n : Nx H ρ H' ρ') {i : Nat} (h : ρ[i]? = some a) : ρ'[i]? = some a := by
  obtain ⟨t, rfl⟩ := n.pre
  have hl := (List.getElem?_eq_some_iff.mp h).1
  rw [List.getElem?_append_left hl]
  exact h
theorem Nx.trans (a : Nx H ρ H1 ρ1) (b : Nx H1 ρ1 H2 ρ2) : Nx H ρ H2 ρ2 where
  pre := by
    obtain ⟨t, rfl⟩ := a.pre
    obtain ⟨u, rfl⟩ := b.pre
    exact ⟨t ++ u, by simp⟩
  new := fun x h n => by
    by_cases h1 : x ∈ ρ1
    · exact a.new x h1 n
    · exact a.thr x (b.new x h h1)
  thr := fun x h => a.thr x (b.thr x h)
  stay := fun x o h n t => b.stay x o (a.stay x o h n t) (a.notin h n) t
  tbl := fun x ps h n => by
    obtain ⟨m, e⟩ := a.tbl x ps h n
    obtain ⟨m2, e2⟩ := b.tbl x _ e (a.notin h n)
    exact ⟨m ++ m2, by rw [e2, Array.append_assoc]⟩
/-- something new that is not the store's -/
theorem Nx.alloc (hp : H p = none) : Nx H ρ (upd H p o) ρ where
  pre := ⟨[], by simp⟩
  new := fun a h n => absurd h n
  thr := fun a h => by
    by_cases e : a = p
    · rw [e]; exact hp
    · rw [upd_ne e] at h; exact h
  stay := fun a u h _ _ => by rw [upd_ne (ne_of_none h hp)]; exact h
  tbl := fun a ps h _ => ⟨#[], by rw [upd_ne (ne_of_none h hp), h]; simp⟩
/-- something new of the store's -/
theorem Nx.push (hp : H p = none) : Nx H ρ (upd H p o) (ρ ++ [p]) where
  pre := ⟨[p], rfl⟩
  new := fun a h n => by
    rcases List.mem_append.mp h with h | h
    · exact absurd h n
    · rw [List.mem_singleton.mp h]; exact hp
  thr := (Nx.alloc (ρ := ρ) hp).thr
  stay := (Nx.alloc (ρ := ρ) hp).stay
  tbl := (Nx.alloc (ρ := ρ) hp).tbl
/-- the store's object at a changes -/
theorem Nx.set (ha : a ∈ ρ) (hn : H a ≠ none) : Nx H ρ (upd H a o) ρ where
  pre := ⟨[], by simp⟩
  new := fun b h n => absurd h n
  thr := fun b h => by
    by_cases e : b = a
    · rw [e, upd_same] at h; cases h
    · rw [upd_ne e] at h; exact h
  stay := fun b u h n _ => by rw [upd_ne (fun e => n (by rw [e]; exact ha))]; exact h
  tbl := fun b ps h n => ⟨#[], by rw [upd_ne (fun e => n (by rw [e]; exact ha)), h]; simp⟩
end
section
variable {H H' : Hp} {ρ ρ' : List Addr} {a p : Addr} {o : HO} {xs : List V}
mutual
theorem Rep.mono (n : Nx H ρ H' ρ') : ∀ (d : D) (v : V), Rep H ρ d v → Rep H' ρ' d v
  | .non, v, h => h
  | .bl b, v, h => h
  | .int i, v, h => h
  | .str x, v, h => h
  | .raw u, v, h => h
  | .loc m, v, h => by
    obtain ⟨a, h1, h2⟩ := h
    exact ⟨a, n.at h1, h2⟩
  | .tup ds, v, h => by
    obtain ⟨a, vs, e, h1, k, h2⟩ := h
    exact ⟨a, vs, e, n.stay a _ h1 k (fun ps z => by cases z), n.notin h1 k, Reps.mono n ds vs h2⟩
  | .lst ds, v, h => by
    obtain ⟨a, vs, e, h1, k, h2⟩ := h
    exact ⟨a, vs, e, n.stay a _ h1 k (fun ps z => by cases z), n.notin h1 k, Reps.mono n ds vs h2⟩
  | .dct ks ds, v, h => by
    obtain ⟨a, vs, e, h1, k, l, h2⟩ := h
    exact ⟨a, vs, e, n.stay a _ h1 k (fun ps z => by cases z), n.notin h1 k, l, Reps.mono n ds vs h2⟩
  | .obj C ns ds, v, h => by
    obtain ⟨a, dx, vs, e, h1, k, l, h2⟩ := h
    exact ⟨a, dx, vs, e, n.stay a _ h1 k (fun ps z => by cases z), n.notin h1 k, l, Reps.mono n ds vs h2⟩
  | .exn a dd ns ds, v, h => by
    obtain ⟨vs, e, h1, k, l, h2⟩ := h
    exact ⟨vs, e, n.stay dd _ h1 k (fun ps z => by cases z), n.notin h1 k, l, Reps.mono n ds vs h2⟩
theorem Reps.mono (n : Nx H ρ H' ρ') : ∀ (ds : List D) (vs : List V), Reps H ρ ds vs → Reps H' ρ' ds vs
  | [], vs, h => h
  | d :: ds, vs, h => by
    obtain ⟨v, r, e, h1, h2⟩ := h
    exact ⟨v, r, e, Rep.mono n d v h1, Reps.mono n ds r h2⟩
end
theorem Reps.len : ∀ {ds : List D} {vs : List V}, Reps H ρ ds vs → ds.length = vs.length
  | [], vs, h => by cases h; rfl
  | d :: ds, vs, h => by
    obtain ⟨v, r, rfl, _, h2⟩ := h
    simp [Reps.len h2]
theorem Reps.get : ∀ {ds : List D} {vs : List V} {i : Nat} {v : V}, Reps H ρ ds vs → vs[i]? = some v → ∃ d, ds[i]? = some d ∧ Rep H ρ d v
  | [], vs, i, v, h, e => by cases h; simp at e
  | d :: ds, vs, 0, v, h, e => by
    obtain ⟨v, r, rfl, h1, h2⟩ := h
    simp at e
    subst e
    exact ⟨d, rfl, h1⟩
  | d :: ds, vs, i + 1, v, h, e => by
    obtain ⟨v, r, rfl, h1, h2⟩ := h
    simp at e
    obtain ⟨d', e1, e2⟩ := Reps.get h2 e
    exact ⟨d', by simpa using e1, e2⟩
theorem Reps.getD : ∀ {ds : List D} {vs : List V} {i : Nat} {d : D}, Reps H ρ ds vs → ds[i]? = some d → ∃ v, vs[i]? = some v ∧ Rep H ρ d v
  | [], vs, i, d, h, e => by simp at e
  | d' :: ds, vs, 0, d, h, e => by
    obtain ⟨v, r, rfl, h1, h2⟩ := h
    simp at e
    subst e
    exact ⟨v, rfl, h1⟩
  | d' :: ds, vs, i + 1, d, h, e => by
    obtain ⟨v, r, rfl, h1, h2⟩ := h
    simp at e
    obtain ⟨v', e1, e2⟩ := Reps.getD h2 e
    exact ⟨v', by simpa using e1, e2⟩
theorem Reps.append : ∀ {ds es : List D} {vs us : List V}, Reps H ρ ds vs → Reps H ρ es us → Reps H ρ (ds ++ es) (vs ++ us)
  | [], es, vs, us, h, k => by cases h; exact k
  | d :: ds, es, vs, us, h, k => by
    obtain ⟨v, r, rfl, h1, h2⟩ := h
    exact ⟨v, r ++ us, rfl, h1, Reps.append h2 k⟩
theorem Reps.nil : Reps H ρ [] [] := rfl
theorem Reps.cons {d : D} {v : V} {ds : List D} {vs : List V} (h : Rep H ρ d v) (k : Reps H ρ ds vs) : Reps H ρ (d :: ds) (v :: vs) := ⟨v, vs, rfl, h, k⟩
theorem Reps.one {d : D} {v : V} (h : Rep H ρ d v) : Reps H ρ [d] [v] := ⟨v, [], rfl, h, rfl⟩
theorem Reps.take : ∀ {ds : List D} {vs : List V} (n : Nat), Reps H ρ ds vs → Reps H ρ (ds.take n) (vs.take n)
  | ds, vs, 0, h => rfl
  | [], vs, n + 1, h => by cases h; rfl
  | d :: ds, vs, n + 1, h => by
    obtain ⟨v, r, rfl, h1, h2⟩ := h
    exact ⟨v, _, rfl, h1, Reps.take n h2⟩
theorem Reps.drop : ∀ {ds : List D} {vs : List V} (n : Nat), Reps H ρ ds vs → Reps H ρ (ds.drop n) (vs.drop n)
  | ds, vs, 0, h => h
  | [], vs, n + 1, h => by cases h; rfl
  | d :: ds, vs, n + 1, h => by
    obtain ⟨v, r, rfl, h1, h2⟩ := h
    exact Reps.drop n h2
theorem Reps.set : ∀ {ds : List D} {vs : List V} (n : Nat) {d : D} {v : V}, Reps H ρ ds vs → Rep H ρ d v → Reps H ρ (ds.set n d) (vs.set n v)
  | [], vs, n, d, v, h, k => by cases h; rfl
  | d' :: ds, vs, 0, d, v, h, k => by
    obtain ⟨v', r, rfl, h1, h2⟩ := h
    exact ⟨v, r, rfl, k, h2⟩
  | d' :: ds, vs, n + 1, d, v, h, k => by
    obtain ⟨v', r, rfl, h1, h2⟩ := h
    exact ⟨v', _, rfl, h1, Reps.set n h2 k⟩
theorem Reps.eraseIdx : ∀ {ds : List D} {vs : List V} (n : Nat), Reps H ρ ds vs → Reps H ρ (ds.eraseIdx n) (vs.eraseIdx n)
  | [], vs, n, h => by cases h; rfl
  | d' :: ds, vs, 0, h => by
    obtain ⟨v', r, rfl, h1, h2⟩ := h
    exact h2
  | d' :: ds, vs, n + 1, h => by
    obtain ⟨v', r, rfl, h1, h2⟩ := h
    exact ⟨v', _, rfl, h1, Reps.eraseIdx n h2⟩
theorem Reps.reverse : ∀ {ds : List D} {vs : List V}, Reps H ρ ds vs → Reps H ρ ds.reverse vs.reverse
  | [], vs, h => by cases h; rfl
  | d :: ds, vs, h => by
    obtain ⟨v, r, rfl, h1, h2⟩ := h
    rw [List.reverse_cons, List.reverse_cons]
    exact (Reps.reverse h2).append (Reps.one h1)
theorem RepC.mono {c : Cell} (n : Nx H ρ H' ρ') (e : H' a = H a) (h : RepC H ρ a c) : RepC H' ρ' a c := by
  cases c with
  | lst ds =>
    obtain ⟨vs, h1, h2⟩ := h
    exact ⟨vs, e.trans h1, Reps.mono n _ _ h2⟩
  | dct ks ds =>
    obtain ⟨vs, h1, l, h2⟩ := h
    exact ⟨vs, e.trans h1, l, Reps.mono n _ _ h2⟩
  | obj C ns ds =>
    obtain ⟨dx, vs, h1, l, h2⟩ := h
    exact ⟨dx, vs, e.trans h1, l, Reps.mono n _ _ h2⟩
theorem RepC.ne {c : Cell} (h : RepC H ρ a c) : H a ≠ none := by
  cases c with
  | lst ds => obtain ⟨vs, h1, _⟩ := h; rw [h1]; simp
  | dct ks ds => obtain ⟨vs, h1, _⟩ := h; rw [h1]; simp
  | obj C ns ds => obtain ⟨dx, vs, h1, _⟩ := h; rw [h1]; simp
variable {S : Store}
theorem StS.trk (h : StS H S ρ) (ha : a ∈ ρ) : H a ≠ none := by
  obtain ⟨n, hn, e⟩ := List.getElem_of_mem ha
  have e1 : ρ[n]? = some a := by rw [List.getElem?_eq_getElem hn, e]
  have hS : n < S.length := by rw [← h.len]; exact hn
  exact (h.cells n a _ e1 (List.getElem?_eq_getElem hS)).ne
theorem StS.alloc (h : StS H S ρ) (hp : H p = none) : StS (upd H p o) S ρ :=
  ⟨h.len, h.nd, fun n a c e1 e2 => (h.cells n a c e1 e2).mono (Nx.alloc hp) (upd_ne (fun z => by
    have := (h.cells n a c e1 e2).ne
    rw [z] at this
    exact this hp))⟩
theorem StS.push {c : Cell} (h : StS H S ρ) (hp : H p = none) (hc : RepC (upd H p o) (ρ ++ [p]) p c) : StS (upd H p o) (S ++ [c]) (ρ ++ [p]) := by
  have hpn : p ∉ ρ := fun z => h.trk z hp
  refine ⟨by simp [h.len], ?_, fun n a c' e1 e2 => ?_⟩
  · rw [List.nodup_append]
    refine ⟨h.nd, by simp, fun x hx y hy => ?_⟩
    rw [List.mem_singleton] at hy
    intro z
    subst z
    subst hy
    exact hpn hx
  · by_cases hn : n < ρ.length
    · rw [List.getElem?_append_left hn] at e1
      rw [List.getElem?_append_left (by rw [← h.len]; exact hn)] at e2
      refine (h.cells n a c' e1 e2).mono (Nx.push hp) (upd_ne (fun z => ?_))
      subst z
      exact hpn (List.mem_of_getElem? e1)
    · have hn' : ρ.length ≤ n := Nat.le_of_not_lt hn
      rw [List.getElem?_append_right hn'] at e1
      rw [List.getElem?_append_right (by rw [← h.len]; exact hn')] at e2
      have hz : n - ρ.length = 0 := by
        rcases Nat.eq_zero_or_pos (n - ρ.length) with z | z
        · exact z
        · rw [List.getElem?_eq_none (by simp only [List.length_singleton]; omega)] at e1
          cases e1
      rw [hz] at e1
      rw [← h.len, hz] at e2
      simp at e1 e2
      subst e1
      subst e2
      exact hc
theorem StS.set {c : Cell} {n : Nat} (h : StS H S ρ) (ha : ρ[n]? = some a) (hc : RepC (upd H a o) ρ a c) : StS (upd H a o) (S.set n c) ρ := by
  have hm : a ∈ ρ := List.mem_of_getElem? ha
  have nx : Nx H ρ (upd H a o) ρ := Nx.set hm (h.trk hm)
  refine ⟨by simp [h.len], h.nd, fun m b c' e1 e2 => ?_⟩
  by_cases hmn : m = n
  · subst hmn
    rw [ha] at e1
    cases e1
    have hl : m < S.length := by rw [← h.len]; exact (List.getElem?_eq_some_iff.mp ha).1
    rw [List.getElem?_set_self hl] at e2
    cases e2
    exact hc
  · rw [List.getElem?_set_ne (fun z => hmn z.symm)] at e2
    refine (h.cells m b c' e1 e2).mono nx (upd_ne (fun z => hmn ?_))
    subst z
    exact (List.getElem?_inj (List.getElem?_eq_some_iff.mp e1).1 h.nd).mp (e1.trans ha.symm)
theorem EnvS.mono {δ : DEnv} {σ : St} (n : Nx H ρ H' ρ') (h : EnvS H ρ δ σ) : EnvS H' ρ' δ σ := ⟨h.1, fun i d e => by
  obtain ⟨v, e1, r⟩ := h.2 i d e
  exact ⟨v, e1, Rep.mono n _ _ r⟩⟩
theorem EnvS.set {δ : DEnv} {σ : St} {d : D} {v : V} (i : Nat) (h : EnvS H ρ δ σ) (r : Rep H ρ d v) : EnvS H ρ (δ.set i (some d)) (σ.set i (some v)) := by
  refine ⟨by simp [h.1], fun j d' e => ?_⟩
  by_cases hj : j = i
  · subst hj
    by_cases hl : j < δ.length
    · rw [List.getElem?_set_self hl] at e
      cases e
      exact ⟨v, by rw [List.getElem?_set_self (by rw [← h.1]; exact hl)], r⟩
    · rw [List.getElem?_eq_none (by simpa using hl)] at e
      cases e
  · rw [List.getElem?_set_ne (fun z => hj z.symm)] at e ⊢
    exact h.2 j d' e
theorem EnvS.unset {δ : DEnv} {σ : St} {w : Option V} (i : Nat) (h : EnvS H ρ δ σ) : EnvS H ρ (δ.set i none) (σ.set i w) := by
  refine ⟨by simp [h.1], fun j d' e => ?_⟩
  by_cases hj : j = i
  · subst hj
    by_cases hl : j < δ.length
    · rw [List.getElem?_set_self hl] at e
      cases e
    · rw [List.getElem?_eq_none (by simpa using hl)] at e
      cases e
  · rw [List.getElem?_set_ne (fun z => hj z.symm)] at e ⊢
    exact h.2 j d' e
theorem StE.next {σ : St} {δ : DEnv} {S' : Store} (I : StE σ H δ S ρ) (n : Nx H ρ H' ρ') (h : StS H' S' ρ') : StE σ H' δ S' ρ' := ⟨h, I.env.mono n⟩
end

/-! ### readings that follow the trees -/
section
variable (W : WX) {α β : Type} (R : Hp → List Addr → α → β → Prop)
def RunG (σ : St) (H : Hp) (ρ : List Addr) (r : Res α) (Q : β → Hp → Prop) : Prop := match r with
  | .ok a S' => ∀ b H' ρ', Nx H ρ H' ρ' → StS H' S' ρ' → R H' ρ' a b → Q b H'
  | .exc x S' => ∀ c dd H' ρ', Nx H ρ H' ρ' → StS H' S' ρ' → RepX H' ρ' x c dd → W c dd σ H'
  | .stuck => False
def tG (m : DEnv → Store → Res α) : St → Hp → (β → Hp → Prop) → Prop := fun σ H Q => ∃ δ S ρ, StE σ H δ S ρ ∧ RunG W R σ H ρ (m δ S) Q
end
abbrev tE (W : WX) (m : DEnv → Store → Res D) : TE := tG W (Rep) m
abbrev tA (W : WX) (m : DEnv → Store → Res (List D)) : TA := tG W (Reps) m
abbrev EqR : Hp → List Addr → Bool → Bool → Prop := fun _ _ a b => a = b
abbrev tT (W : WX) (m : DEnv → Store → Res Bool) : TT := tG W EqR m
section
variable {W : WX} {α β α2 β2 : Type} {R : Hp → List Addr → α → β → Prop} {R2 : Hp → List Addr → α2 → β2 → Prop} {σ : St} {H : Hp} {δ : DEnv} {S : Store} {ρ : List Addr}
/-- one, then another -/
theorem bindG {m1 : DEnv → Store → Res α} {k : α → Store → Res α2} {Q : β2 → Hp → Prop} {P : β → Hp → Prop} (I : StE σ H δ S ρ) (h : RunG W R2 σ H ρ ((m1 δ S).bind k) Q)
    (hk : ∀ a b S1 H1 ρ1, Nx H ρ H1 ρ1 → StE σ H1 δ S1 ρ1 → R H1 ρ1 a b → RunG W R2 σ H1 ρ1 (k a S1) Q → P b H1) : tG W R m1 σ H P := by
  refine ⟨δ, S, ρ, I, ?_⟩
  cases e : m1 δ S with
  | ok a S1 =>
    rw [e] at h
    intro b H1 ρ1 n st r
    refine hk a b S1 H1 ρ1 n (I.next n st) r ?_
    have h' : RunG W R2 σ H ρ (k a S1) Q := h
    cases e2 : k a S1 with
    | ok a2 S2 =>
      rw [e2] at h'
      exact fun b2 H2 ρ2 n2 st2 r2 => h' b2 H2 ρ2 (n.trans n2) st2 r2
    | exc x S2 =>
      rw [e2] at h'
      exact fun c dd H2 ρ2 n2 st2 r2 => h' c dd H2 ρ2 (n.trans n2) st2 r2
    | stuck =>
      rw [e2] at h'
      exact h'
  | exc x S1 =>
    rw [e] at h
    exact h
  | stuck =>
    rw [e] at h
    exact h
theorem RunG.ok {a : α} {b : β} {Q : β → Hp → Prop} (h : RunG W R σ H ρ (.ok a S) Q) (st : StS H S ρ) (r : R H ρ a b) : Q b H := h b H ρ (Nx.refl H ρ) st r
theorem RunG.okN {a : α} {b : β} {Q : β → Hp → Prop} {H' : Hp} {ρ' : List Addr} (h : RunG W R σ H ρ (.ok a S) Q) (n : Nx H ρ H' ρ') (st : StS H' S ρ') (r : R H' ρ' a b) : Q b H' := h b H' ρ' n st r
theorem RunG.imp {r : Res α} {Q Q' : β → Hp → Prop} (h : RunG W R σ H ρ r Q) (hq : ∀ b H', Q b H' → Q' b H') : RunG W R σ H ρ r Q' := by
  cases r with
  | ok a S' => exact fun b H' ρ' n st rr => hq _ _ (h b H' ρ' n st rr)
  | exc x S' => exact h
  | stuck => exact h
end
theorem PE.weak {X : Cx} {e : Expr} {t t' : TE} (h : PE X e t) (hw : ∀ σ H Q, t' σ H Q → t σ H Q) : PE X e t' := ⟨fun pins s σ H Q I q => h.run pins s σ H Q I (hw _ _ _ q)⟩
theorem PT.weak {X : Cx} {e : Expr} {t t' : TT} (h : PT X e t) (hw : ∀ σ H Q, t' σ H Q → t σ H Q) : PT X e t' := ⟨fun pins s σ H Q I q => h.run pins s σ H Q I (hw _ _ _ q)⟩
theorem PW.weak {X : Cx} {e : Expr} {t t' : TT} (h : PW X e t) (hw : ∀ σ H Q, t' σ H Q → t σ H Q) : PW X e t' := ⟨fun w pins s σ H Q I q => h.run w pins s σ H Q I (hw _ _ _ q)⟩
theorem PA.weak {X : Cx} {es : List Expr} {t t' : TA} (h : PA X es t) (hw : ∀ σ H Q, t' σ H Q → t σ H Q) : PA X es t' := ⟨fun p pins s σ H Q I q => h.run p pins s σ H Q I (hw _ _ _ q)⟩
theorem PS.weak {X : Cx} {e : Stmt} {t t' : TS} (h : PS X e t) (hw : ∀ D σ H, t' D σ H → t D σ H) : PS X e t' := ⟨fun pins s σ H D I q => h.run pins s σ H D I (hw _ _ _ q)⟩
theorem PSs.weak {X : Cx} {e : List Stmt} {t t' : TS} (h : PSs X e t) (hw : ∀ D σ H, t' D σ H → t D σ H) : PSs X e t' := ⟨fun pins s σ H D I q => h.run pins s σ H D I (hw _ _ _ q)⟩
end SL

/-! SL: expressions, one. -/
namespace SL
open PySem PySem.Spec L2
open PyProof.Rows hiding St

abbrev ME := DEnv → Store → Res D
abbrev MB := DEnv → Store → Res Bool
abbrev MA := DEnv → Store → Res (List D)
def RO {α : Type} (o : Option α) (S : Store) : Res α := match o with
  | some a => .ok a S
  | none => .stuck
@[simp] theorem RO_some {α : Type} (a : α) (S : Store) : RO (some a) S = .ok a S := rfl
@[simp] theorem RO_none {α : Type} (S : Store) : RO (none : Option α) S = .stuck := rfl
@[simp] theorem bind_ok {α β : Type} (a : α) (S : Store) (f : α → Store → Res β) : (Res.ok a S).bind f = f a S := rfl
@[simp] theorem bind_exc {α β : Type} (x : Ex) (S : Store) (f : α → Store → Res β) : (Res.exc x S : Res α).bind f = .exc x S := rfl
@[simp] theorem bind_stuck {α β : Type} (f : α → Store → Res β) : (Res.stuck : Res α).bind f = .stuck := rfl
def vM (i : Nat) : ME := fun δ S => match δ[i]? with
  | some (some d) => .ok d S
  | _ => .stuck
def cM (d : D) : ME := fun _ S => .ok d S
def op2M (g : Store → D → D → Option D) (ma mb : ME) : ME := fun δ S => (ma δ S).bind fun x S1 => (mb δ S1).bind fun y S2 => RO (g S2 x y) S2
def op1M (g : Store → D → Option D) (ma : ME) : ME := fun δ S => (ma δ S).bind fun x S1 => RO (g S1 x) S1
def nilM : MA := fun _ S => .ok [] S
def consM (ma : ME) (mr : MA) : MA := fun δ S => (ma δ S).bind fun x S1 => (mr δ S1).bind fun r S2 => .ok (x :: r) S2
def callG (g : Store → List D → Option D) (ms : MA) : ME := fun δ S => (ms δ S).bind fun xs S1 => RO (g S1 xs) S1

/-! ### what an operation on values gives -/
section
variable {X : Cx} {W : WX} {a b e : Expr} {es : List Expr} {ma mb me : ME} {ms : MA} {pos : Pos}
/-- a value's fate, for a pure operation -/
abbrev KD (H : Hp) (ρ : List Addr) (S : Store) (z : D) (Q : VK) : Prop := ∀ w H', Nx H ρ H' ρ → StS H' S ρ → Rep H' ρ z w → Q w H'
theorem KD.now {H : Hp} {ρ : List Addr} {S : Store} {z : D} {Q : VK} (k : KD H ρ S z Q) (st : StS H S ρ) {w : V} (r : Rep H ρ z w) : Q w H := k w H (Nx.refl H ρ) st r
theorem KD.lst {H : Hp} {ρ : List Addr} {S : Store} {ds : List D} {vs : List V} {Q : VK} (k : KD H ρ S (.lst ds) Q) (st : StS H S ρ) (r : Reps H ρ ds vs) {p : Addr} (hp : H p = none) : Q (.ref p) (upd H p (.lst vs)) :=
  k (.ref p) _ (Nx.alloc hp) (st.alloc hp) ⟨p, vs, rfl, upd_same, fun z => st.trk z hp, Reps.mono (Nx.alloc hp) _ _ r⟩
theorem KD.tup {H : Hp} {ρ : List Addr} {S : Store} {ds : List D} {vs : List V} {Q : VK} (k : KD H ρ S (.tup ds) Q) (st : StS H S ρ) (r : Reps H ρ ds vs) {p : Addr} (hp : H p = none) : Q (.ref p) (upd H p (.tup vs)) :=
  k (.ref p) _ (Nx.alloc hp) (st.alloc hp) ⟨p, vs, rfl, upd_same, fun z => st.trk z hp, Reps.mono (Nx.alloc hp) _ _ r⟩
def OpSnd (r : R2) (g : Store → D → D → Option D) : Prop := ∀ (H : Hp) (ρ : List Addr) (S : Store) (x y z : D) (v u : V) (Q : VK), StS H S ρ → Rep H ρ x v → Rep H ρ y u → g S x y = some z → KD H ρ S z Q → r v u H Q
def UnSnd (r : V → Hp → VK → Prop) (g : Store → D → Option D) : Prop := ∀ (H : Hp) (ρ : List Addr) (S : Store) (x z : D) (v : V) (Q : VK), StS H S ρ → Rep H ρ x v → g S x = some z → KD H ρ S z Q → r v H Q
def CaSnd (r : List V → Hp → VK → Prop) (g : Store → List D → Option D) : Prop := ∀ (H : Hp) (ρ : List Addr) (S : Store) (xs : List D) (z : D) (vs : List V) (Q : VK), StS H S ρ → Reps H ρ xs vs → g S xs = some z → KD H ρ S z Q → r vs H Q
def MtSnd (r : V → List V → Hp → VK → Prop) (g : Store → D → List D → Option D) : Prop := ∀ (H : Hp) (ρ : List Addr) (S : Store) (x : D) (xs : List D) (z : D) (v : V) (vs : List V) (Q : VK), StS H S ρ → Rep H ρ x v → Reps H ρ xs vs → g S x xs = some z → KD H ρ S z Q → r v vs H Q
theorem RunG.ro {α β : Type} {R : Hp → List Addr → α → β → Prop} {σ : St} {H : Hp} {ρ : List Addr} {o : Option α} {S : Store} {Q : β → Hp → Prop} (h : RunG W R σ H ρ (RO o S) Q) : ∃ a, o = some a ∧ ∀ b H' ρ', Nx H ρ H' ρ' → StS H' S ρ' → R H' ρ' a b → Q b H' := by
  cases o with
  | none => exact False.elim h
  | some a => exact ⟨a, rfl, h⟩
theorem OpSnd.tE {r : R2} {g : Store → D → D → Option D} (s : OpSnd r g) (σ : St) (H : Hp) (Q : VK) (h : tE W (op2M g ma mb) σ H Q) : tOp r (tE W ma) (tE W mb) σ H Q := by
  obtain ⟨δ, S, ρ, I, h⟩ := h
  refine bindG I h fun x v S1 H1 ρ1 n1 I1 r1 h1 => ?_
  refine bindG I1 h1 fun y u S2 H2 ρ2 n2 I2 r2 h2 => ?_
  obtain ⟨z, e, k⟩ := h2.ro
  exact s H2 ρ2 S2 x y z v u Q I2.st (Rep.mono n2 _ _ r1) r2 e fun w H' n st r => k w H' ρ2 n st r
theorem pd_op {op : Operator} {r : R2} {g : Store → D → D → Option D} (ho : OpR X (binaryOp op) r) (s : OpSnd r g) (ha : PE X a (tE W ma)) (hb : PE X b (tE W mb)) : PE X (.BinOp a op b pos) (tE W (op2M g ma mb)) :=
  PE.weak (pe_op ho ha hb) s.tE
theorem pd_cmp {op : CmpOp} {r : R2} {g : Store → D → D → Option D} (ho : OpR X (compareOp op) r) (s : OpSnd r g) (ha : PE X a (tE W ma)) (hb : PE X b (tE W mb)) (hm : behindInMarks op b = false := by first | exact nomark _ | rfl) : PE X (.Compare a [op] [b] pos) (tE W (op2M g ma mb)) :=
  PE.weak (pe_cmpR ho ha hb hm) s.tE
/-- a bool's value -/
def asB (o : Option D) : Option Bool := match o with
  | some (.bl b) => some b
  | _ => none
def cmpB (g : Store → D → D → Option D) (ma mb : ME) : MB := fun δ S => (ma δ S).bind fun x S1 => (mb δ S1).bind fun y S2 => RO (asB (g S2 x y)) S2
theorem pd_cmpT {op : CmpOp} {r : R2} {g : Store → D → D → Option D} (ho : OpR X (compareOp op) r) (s : OpSnd r g) (ha : PE X a (tE W ma)) (hb : PE X b (tE W mb)) (hm : behindInMarks op b = false := by first | exact nomark _ | rfl) : PT X (.Compare a [op] [b] pos) (tT W (cmpB g ma mb)) := by
  refine PT.weak (pt_cmpR ho ha hb hm) fun σ H Q h => ?_
  obtain ⟨δ, S, ρ, I, h⟩ := h
  refine bindG I h fun x v S1 H1 ρ1 n1 I1 r1 h1 => ?_
  refine bindG I1 h1 fun y u S2 H2 ρ2 n2 I2 r2 h2 => ?_
  obtain ⟨z, e, k⟩ := h2.ro
  cases eg : g S2 x y with
  | none => rw [eg] at e; cases e
  | some d =>
    rw [eg] at e
    cases d with
    | bl c =>
      have ez : c = z := Option.some.inj e
      subst ez
      exact s H2 ρ2 S2 x y (.bl c) v u _ I2.st (Rep.mono n2 _ _ r1) r2 eg fun w H' n st r => ⟨c, r, k c H' ρ2 n st rfl⟩
    | _ => cases e
theorem pd_un {op : UnaryOp} {r : V → Hp → VK → Prop} {g : Store → D → Option D} (ho : UnR X (unaryOp op) r) (s : UnSnd r g) (ha : PE X a (tE W ma)) : PE X (.UnaryOp op a pos) (tE W (op1M g ma)) := by
  refine PE.weak (pe_un ho ha) fun σ H Q h => ?_
  obtain ⟨δ, S, ρ, I, h⟩ := h
  refine bindG I h fun x v S1 H1 ρ1 n1 I1 r1 h1 => ?_
  obtain ⟨z, e, k⟩ := h1.ro
  exact s H1 ρ1 S1 x z v Q I1.st r1 e fun w H' n st r => k w H' ρ1 n st r

/-! ### names, constants -/
theorem tE_var {i : Nat} (σ : St) (H : Hp) (Q : VK) (h : tE W (vM i) σ H Q) : tVar i σ H Q := by
  obtain ⟨δ, S, ρ, I, h⟩ := h
  unfold vM at h
  split at h
  · rename_i d e
    obtain ⟨v, e1, r⟩ := I.env.2 i d e
    exact ⟨v, e1, h.ok I.st r⟩
  · exact False.elim h
theorem pd_var (i : Nat) {x : Str} {pos : Pos} (hN : X.N[i]? = some x := by rfl) (hv : Vis X.env.scope x := by first | exact Or.inl rfl | exact Or.inr (Or.inl rfl) | exact Or.inr (Or.inr rfl)) (hd : (x == ("__debug__" : Str)) = false := by decide)
    (hcd : (x == ("__classdict__" : Str)) = false := by decide) : PE X (.Name x pos) (tE W (vM i)) := PE.weak (pe_var hN hv hd hcd) tE_var
theorem tE_c {d : D} {v : V} (hr : ∀ H ρ, Rep H ρ d v) (σ : St) (H : Hp) (Q : VK) (h : tE W (cM d) σ H Q) : tC v σ H Q := by
  obtain ⟨δ, S, ρ, I, h⟩ := h
  exact RunG.ok h I.st (hr _ _)
theorem pd_int {i : Int} {j : Nat} : PE X (.Constant (.int i) j pos) (tE W (cM (.int i))) := PE.weak pe_int (tE_c fun _ _ => rfl)
theorem pd_bl {b : Bool} {j : Nat} : PE X (.Constant (.bool b) j pos) (tE W (cM (.bl b))) := PE.weak pe_bl (tE_c fun _ _ => rfl)
theorem pd_non {j : Nat} : PE X (.Constant .none j pos) (tE W (cM .non)) := PE.weak pe_non (tE_c fun _ _ => rfl)
theorem pd_str {x : Str} {j : Nat} (l : List Nat) (hx : x = ⟨l.toArray⟩ := by decide +kernel) : PE X (.Constant (.str x) j pos) (tE W (cM (.str l))) := PE.weak pe_str (tE_c fun _ _ => by rw [hx]; rfl)
/-- a module's int, text -/
theorem pd_globI {x : Str} {i : Int} {t : Tok} (hm : X.mg x = some (.int i t)) (hg : Gl X x := by rfl) (hd : (x == ("__debug__" : Str)) = false := by decide) : PE X (.Name x pos) (tE W (cM (.int i))) := PE.weak (pe_glob (v := V.int i) hg hm ⟨t, rfl⟩ hd) (tE_c fun _ _ => rfl)
theorem pd_globS {x y : Str} {t : Tok} (l : List Nat) (hm : X.mg x = some (.str y t)) (hy : y = ⟨l.toArray⟩ := by decide +kernel) (hg : Gl X x := by rfl) (hd : (x == ("__debug__" : Str)) = false := by decide) : PE X (.Name x pos) (tE W (cM (.str l))) := PE.weak (pe_glob (v := V.str y) hg hm ⟨t, rfl⟩ hd) (tE_c fun _ _ => by rw [hy]; rfl)
/-- a class, a function of the module -/
theorem pd_globR {x : Str} {f : Addr} (hm : X.mg x = some (.ref f)) (hg : Gl X x := by rfl) (hd : (x == ("__debug__" : Str)) = false := by decide) : PE X (.Name x pos) (tE W (cM (.raw (.ref f)))) := PE.weak (pe_glob (v := V.ref f) hg hm rfl hd) (tE_c fun _ _ => rfl)
/-- a built-in type as a value -/
theorem pd_ty {x : Str} {n : String} (hm : X.mg x = none) (hv : bootBuiltins x = some (.type n) := by decide +kernel) (hg : Gl X x := by rfl) (hn : x ≠ "__name__" := by decide) (hd : (x == ("__debug__" : Str)) = false := by decide) : PE X (.Name x pos) (tE W (cM (.raw (.ty n)))) := PE.weak (pe_bltn (v := V.ty n) hg hm hv rfl hn hd) (tE_c fun _ _ => rfl)

/-! ### arguments, displays -/
theorem pd_nil : PA X [] (tA W nilM) := PA.weak pa_nil fun σ H Q h => by
  obtain ⟨δ, S, ρ, I, h⟩ := h
  exact RunG.ok h I.st Reps.nil
theorem pd_cons (ha : PE X e (tE W me)) (hr : PA X es (tA W ms)) (hs : starEach (e :: es) X.env = (false, eval e X.env) :: starEach es X.env := by rfl) : PA X (e :: es) (tA W (consM me ms)) := by
  refine PA.weak (pa_cons ha hr hs) fun σ H Q h => ?_
  obtain ⟨δ, S, ρ, I, h⟩ := h
  refine bindG I h fun x v S1 H1 ρ1 n1 I1 r1 h1 => ?_
  refine bindG I1 h1 fun xs vs S2 H2 ρ2 n2 I2 r2 h2 => ?_
  exact RunG.ok h2 I2.st (Reps.cons (Rep.mono n2 _ _ r1) r2)
def tupG (_ : Store) (xs : List D) : Option D := if xs.length ≤ 100000 then some (.tup xs) else none
def lstG (_ : Store) (xs : List D) : Option D := if xs.length ≤ 100000 then some (.lst xs) else none
theorem sz5 {n : Nat} (h : n ≤ 100000) : n ≤ sizeLine := Nat.le_trans h (by decide)
theorem pd_tup {x1} (h : PA X es (tA W ms)) : PE X (.Tuple es x1 pos) (tE W (callG tupG ms)) := by
  refine PE.weak (pe_tup h) fun σ H Q h => ?_
  obtain ⟨δ, S, ρ, I, h⟩ := h
  refine bindG I h fun xs vs S1 H1 ρ1 n1 I1 r1 h1 => ?_
  obtain ⟨z, e, k⟩ := h1.ro
  unfold tupG at e
  split at e
  · rename_i hl
    cases e
    refine ⟨by rw [← r1.len]; exact sz5 hl, fun p hp => ?_⟩
    exact KD.tup (Q := Q) (fun w H' n st r => k w H' ρ1 n st r) I1.st r1 hp
  · cases e
theorem pd_lst (h : PA X es (tA W ms)) : PE X (.List es pos) (tE W (callG lstG ms)) := by
  refine PE.weak (pe_lst h) fun σ H Q h => ?_
  obtain ⟨δ, S, ρ, I, h⟩ := h
  refine bindG I h fun xs vs S1 H1 ρ1 n1 I1 r1 h1 => ?_
  obtain ⟨z, e, k⟩ := h1.ro
  unfold lstG at e
  split at e
  · rename_i hl
    cases e
    refine ⟨by rw [← r1.len]; exact sz5 hl, fun p hp => ?_⟩
    exact KD.lst (Q := Q) (fun w H' n st r => k w H' ρ1 n st r) I1.st r1 hp
  · cases e
/-- a display as a new object of the store -/
def lstLM (ms : MA) : ME := fun δ S => (ms δ S).bind fun xs S1 => if xs.length ≤ 100000 then .ok (.loc S1.length) (S1 ++ [.lst xs]) else .stuck
theorem pd_lstL (h : PA X es (tA W ms)) : PE X (.List es pos) (tE W (lstLM ms)) := by
  refine PE.weak (pe_lst h) fun σ H Q h => ?_
  obtain ⟨δ, S, ρ, I, h⟩ := h
  refine bindG I h fun xs vs S1 H1 ρ1 n1 I1 r1 h1 => ?_
  split at h1
  · rename_i hl
    refine ⟨by rw [← r1.len]; exact sz5 hl, fun p hp => ?_⟩
    refine RunG.okN h1 (Nx.push hp) (I1.st.push hp ⟨vs, upd_same, Reps.mono (Nx.push hp) _ _ r1⟩) ⟨p, ?_, rfl⟩
    rw [← I1.st.len]
    simp
  · exact False.elim h1
end

/-! ### what is seen through the store -/
def asL (S : Store) : D → Option (List D)
  | .lst ds => some ds
  | .loc n => match S[n]? with
    | some (.lst ds) => some ds
    | _ => none
  | _ => none
def asT : D → Option (List D)
  | .tup ds => some ds
  | _ => none
/-- a list or a tuple -/
def asQ (S : Store) (d : D) : Option (List D) := match asL S d with
  | some ds => some ds
  | none => asT d
section
variable {H : Hp} {ρ : List Addr} {S : Store} {d : D} {ds : List D} {v : V}
theorem asL_rep (st : StS H S ρ) (r : Rep H ρ d v) (h : asL S d = some ds) : ∃ a vs, v = .ref a ∧ H a = some (.lst vs) ∧ Reps H ρ ds vs := by
  cases d with
  | lst es =>
    cases h
    obtain ⟨a, vs, rfl, h1, _, h2⟩ := r
    exact ⟨a, vs, rfl, h1, h2⟩
  | loc n =>
    obtain ⟨a, ha, rfl⟩ := r
    simp only [asL] at h
    split at h
    · rename_i ds' e
      cases h
      obtain ⟨vs, h1, h2⟩ := st.cells n a _ ha e
      exact ⟨a, vs, rfl, h1, h2⟩
    · cases h
  | _ => cases h
theorem asT_rep (r : Rep H ρ d v) (h : asT d = some ds) : ∃ a vs, v = .ref a ∧ H a = some (.tup vs) ∧ Reps H ρ ds vs := by
  cases d with
  | tup es =>
    cases h
    obtain ⟨a, vs, rfl, h1, _, h2⟩ := r
    exact ⟨a, vs, rfl, h1, h2⟩
  | _ => cases h
theorem asQ_rep {K : PySem.W.Frag} (st : StS H S ρ) (r : Rep H ρ d v) (h : asQ S d = some ds) : ∃ a vs, v = .ref a ∧ (SqL K H a vs ∨ SqT K H a vs) ∧ Reps H ρ ds vs := by
  unfold asQ at h
  split at h
  · rename_i e
    cases h
    obtain ⟨a, vs, h0, h1, h2⟩ := asL_rep st r e
    exact ⟨a, vs, h0, .inl (.inl (.inl h1)), h2⟩
  · obtain ⟨a, vs, h0, h1, h2⟩ := asT_rep r h
    exact ⟨a, vs, h0, .inr (.inl (.inl h1)), h2⟩
end
end SL

/-! SL: operators. -/
namespace SL
open PySem PySem.Spec L2
open PyProof.Rows hiding St
theorem str_app (a b : List Nat) : (⟨a.toArray⟩ : Str) ++ (⟨b.toArray⟩ : Str) = ⟨(a ++ b).toArray⟩ := by
  show (⟨a.toArray ++ b.toArray⟩ : Str) = _
  simp
theorem str_len (a : List Nat) : (⟨a.toArray⟩ : Str).length = a.length := by
  show a.toArray.size = _
  simp
theorem str_inj {a b : List Nat} : ((⟨a.toArray⟩ : Str) = ⟨b.toArray⟩) ↔ a = b := by
  constructor
  · intro h
    have := congrArg (fun s : Str => s.cps.toList) h
    simpa using this
  · rintro rfl
    rfl
section
variable {X : Cx}
/-! ### + - * // % ** -/
def addG (S : Store) (x y : D) : Option D := match x, y with
  | .int i, .int j => some (.int (i + j))
  | .str a, .str b => if a.length + b.length ≤ 1000000 then some (.str (a ++ b)) else none
  | .tup a, .tup b => if a.length + b.length ≤ 1000000 then some (.tup (a ++ b)) else none
  | x, y => match asL S x, asL S y with
    | some a, some b => if a.length + b.length ≤ 1000000 then some (.lst (a ++ b)) else none
    | _, _ => none
theorem sz6 {n : Nat} (h : n ≤ 1000000) : n ≤ sizeLine := Nat.le_trans h (by decide)
def rAddA (K : PySem.W.Frag) : R2 := fun x y H Q => (∃ i j, x = .int i ∧ y = .int j ∧ Q (.int (i + j)) H) ∨ ((∃ i j, x = .str i ∧ y = .str j ∧ i.length + j.length ≤ sizeLine ∧ Q (.str (i ++ j)) H) ∨ (rCatA K x y H Q ∨ rCat x y H Q))
theorem op_addA : OpR X (binaryOp .Add) (rAddA X.K) := OpR.or op_add (OpR.or op_add_str (OpR.or op_catA op_cat))
theorem snd_add {K : PySem.W.Frag} : OpSnd (rAddA K) addG := by
  intro H ρ S x y z v u Q st rx ry e k
  unfold addG at e
  split at e
  · cases e
    cases rx
    cases ry
    exact .inl ⟨_, _, rfl, rfl, k.now st rfl⟩
  · rename_i a b
    split at e
    · rename_i hl
      cases e
      cases rx
      cases ry
      refine .inr (.inl ⟨_, _, rfl, rfl, by rw [str_len, str_len]; exact sz6 hl, ?_⟩)
      rw [str_app]
      exact k.now st rfl
    · cases e
  · rename_i a b
    split at e
    · rename_i hl
      cases e
      obtain ⟨p, vs, rfl, h1, n1, r1⟩ := rx
      obtain ⟨q, us, rfl, h2, n2, r2⟩ := ry
      refine .inr (.inr (.inl ⟨p, q, vs, us, rfl, rfl, .inl (.inl h1), .inl (.inl h2), by rw [← r1.len, ← r2.len]; exact sz6 hl, fun hx => ?_, fun hx hy => ?_, fun hx hy a' ha => ?_⟩))
      · refine k.now st ⟨q, us, rfl, h2, n2, ?_⟩
        subst hx
        have := r1.len
        cases a with
        | nil => exact r2
        | cons _ _ => simp at this
      · refine k.now st ⟨p, vs, rfl, h1, n1, ?_⟩
        subst hy
        have := r2.len
        cases b with
        | nil => rw [List.append_nil]; exact r1
        | cons _ _ => simp at this
      · exact KD.tup k st (r1.append r2) ha
    · cases e
  · split at e
    · rename_i a b ea eb
      split at e
      · rename_i hl
        cases e
        obtain ⟨p, vs, rfl, h1, r1⟩ := asL_rep st rx ea
        obtain ⟨q, us, rfl, h2, r2⟩ := asL_rep st ry eb
        refine .inr (.inr (.inr ⟨p, q, vs, us, rfl, rfl, h1, h2, by rw [← r1.len, ← r2.len]; exact sz6 hl, fun a' ha => ?_⟩))
        exact KD.lst k st (r1.append r2) ha
      · cases e
    · cases e
def subG (_ : Store) (x y : D) : Option D := match x, y with
  | .int i, .int j => some (.int (i - j))
  | _, _ => none
theorem snd_sub : OpSnd (rI0 fun i j => .int (i - j)) subG := by
  intro H ρ S x y z v u Q st rx ry e k
  unfold subG at e
  split at e
  · cases e
    cases rx
    cases ry
    exact ⟨_, _, rfl, rfl, k.now st rfl⟩
  · cases e
/-- text * int -/
theorem foldl_rep (a : Array Nat) : ∀ (k : Nat) (acc : Array Nat), ((List.replicate k a).foldl (· ++ ·) acc).toList = acc.toList ++ (List.replicate k a.toList).flatten
  | 0, acc => by simp
  | k + 1, acc => by
    rw [List.replicate_succ, List.foldl_cons, foldl_rep a k, List.replicate_succ, List.flatten_cons, Array.toList_append, List.append_assoc]
def rMulS : R2 := fun x y H Q => ∃ (l : List Nat) (k : Int), x = .str ⟨l.toArray⟩ ∧ y = .int k ∧ 0 ≤ k ∧ k ≤ 1000000 ∧ l.length * k.toNat ≤ 1000000 ∧ Q (.str ⟨(List.replicate k.toNat l).flatten.toArray⟩) H
theorem op_mulS : OpR X (binaryOp .Mult) rMulS := by
  intro pins s σ H x y v u Q I rx ry h
  obtain ⟨l, k, rfl, rfl, h0, h1, h2, q⟩ := h
  obtain ⟨t, rfl⟩ := rx
  obtain ⟨t', rfl⟩ := ry
  refine PySem.P.mul_str ?_ (fun hn hx => ?_) (fun hn hx => ?_) ?_
  · have a1 : ¬ k < -(2 ^ 63 : Int) := by omega
    have a2 : ¬ k ≥ 2 ^ 63 := by omega
    rw [decide_eq_false a1, decide_eq_false a2]; rfl
  · rw [str_len]
    have hk : 1 ≤ k := by omega
    intro hz
    have : (2 ^ 63 - 1 : Int) / k ≥ l.length := by
      refine (Int.le_ediv_iff_mul_le (by omega)).mpr ?_
      have e : (l.length : Int) * k = ((l.length * k.toNat : Nat) : Int) := by
        rw [Int.natCast_mul, Int.toNat_of_nonneg h0]
      rw [e]
      omega
    omega
  · rw [str_len]
    show decide (_ > _) = false
    refine decide_eq_false ?_
    have := sz6 h2
    omega
  · by_cases hn : k < 1
    · rw [if_pos hn]
      have e0 : k.toNat = 0 := by omega
      rw [e0] at q
      refine ⟨by decide, V.str ⟨#[]⟩, H, I.tok _, ⟨_, rfl⟩, by simpa using q⟩
    · rw [if_neg hn]
      split
      · rename_i hx
        refine ⟨V.str ⟨l.toArray⟩, H, I, ⟨t, rfl⟩, ?_⟩
        have e : (List.replicate k.toNat l).flatten = l := by
          rcases Bool.or_eq_true_iff.mp hx with z | z
          · have : k = 1 := by simpa using z
            subst this
            simp
          · rw [str_len] at z
            have : l = [] := by simpa using z
            subst this
            simp
        rw [e] at q
        exact q
      · have e : (⟨(List.replicate k.toNat (⟨l.toArray⟩ : Str).cps).foldl (· ++ ·) #[]⟩ : Str) = ⟨(List.replicate k.toNat l).flatten.toArray⟩ := by
          have := foldl_rep l.toArray k.toNat #[]
          simp only [List.nil_append] at this
          congr 1
          apply Array.toList_inj.mp
          rw [this]
        rw [e]
        refine ⟨?_, V.str ⟨(List.replicate k.toNat l).flatten.toArray⟩, H, I.tok _, ⟨_, rfl⟩, q⟩
        rw [str_len]
        have : (List.replicate k.toNat l).flatten.length = l.length * k.toNat := by
          rw [List.length_flatten, List.map_replicate, List.sum_replicate_nat, Nat.mul_comm]
        rw [this]
        exact sz6 h2
abbrev mulOk (i j : Int) : Prop := ((-(2 ^ 64) < i ∧ i < 2 ^ 64) ∨ (-(2 ^ 64) < j ∧ j < 2 ^ 64)) ∨ i.natAbs.log2 + j.natAbs.log2 < 1000000
def mulG (S : Store) (x y : D) : Option D := match x, y with
  | .int i, .int j => if mulOk i j then some (.int (i * j)) else none
  | .str l, .int k => if 0 ≤ k ∧ k ≤ 1000000 ∧ l.length * k.toNat ≤ 1000000 then some (.str (List.replicate k.toNat l).flatten) else none
  | x, .int k => match asL S x with
    | some a => if 0 ≤ k ∧ k ≤ 1000000 ∧ a.length * k.toNat ≤ 1000000 then some (.lst (List.replicate k.toNat a).flatten) else none
    | none => none
  | _, _ => none
def rMulA : R2 := fun x y H Q => (rI CMul (fun i j => .int (i * j)) x y H Q ∨ rI CMulW (fun i j => .int (i * j)) x y H Q) ∨ (rMulS x y H Q ∨ rRep x y H Q)
theorem op_mulA : OpR X (binaryOp .Mult) rMulA := OpR.or (OpR.or op_mul op_mulW) (OpR.or op_mulS op_rep)
theorem Reps.rep {H : Hp} {ρ : List Addr} {ds : List D} {vs : List V} (r : Reps H ρ ds vs) : ∀ k : Nat, Reps H ρ (List.replicate k ds).flatten (List.replicate k vs).flatten
  | 0 => by simpa using Reps.nil
  | k + 1 => by
    rw [List.replicate_succ, List.replicate_succ, List.flatten_cons, List.flatten_cons]
    exact r.append (Reps.rep r k)
theorem snd_mul : OpSnd rMulA mulG := by
  intro H ρ S x y z v u Q st rx ry e k
  unfold mulG at e
  split at e
  · split at e
    · rename_i hc
      cases e
      cases rx
      cases ry
      rcases hc with hc | hc
      · exact .inl (.inl ⟨_, _, rfl, rfl, hc, k.now st rfl⟩)
      · exact .inl (.inr ⟨_, _, rfl, rfl, hc, k.now st rfl⟩)
    · cases e
  · split at e
    · rename_i hc
      cases e
      cases rx
      cases ry
      exact .inr (.inl ⟨_, _, rfl, rfl, hc.1, hc.2.1, hc.2.2, k.now st rfl⟩)
    · cases e
  · split at e
    · rename_i a ea
      split at e
      · rename_i hc
        cases e
        obtain ⟨p, vs, rfl, h1, r1⟩ := asL_rep st rx ea
        cases ry
        refine .inr (.inr ⟨p, _, vs, rfl, rfl, h1, by omega, by omega, ?_, fun a' ha => ?_⟩)
        · rw [← r1.len]; exact sz6 hc.2.2
        · exact KD.lst k st (r1.rep _) ha
      · cases e
    · cases e
  · cases e
def fdivG (_ : Store) (x y : D) : Option D := match x, y with
  | .int i, .int j => if 0 < j ∧ j.natAbs.log2 < 9000 then some (.int (i / j)) else none
  | _, _ => none
theorem snd_fdiv : OpSnd (rI CDivW fun i j => .int (i / j)) fdivG := by
  intro H ρ S x y z v u Q st rx ry e k
  unfold fdivG at e
  split at e
  · split at e
    · rename_i hc
      cases e
      cases rx
      cases ry
      exact ⟨_, _, rfl, rfl, hc, k.now st rfl⟩
    · cases e
  · cases e
def modG (_ : Store) (x y : D) : Option D := match x, y with
  | .int i, .int j => if 0 < j then some (.int (i % j)) else none
  | _, _ => none
theorem snd_mod : OpSnd (rI (fun _ j => 0 < j) fun i j => .int (i % j)) modG := by
  intro H ρ S x y z v u Q st rx ry e k
  unfold modG at e
  split at e
  · split at e
    · rename_i hc
      cases e
      cases rx
      cases ry
      exact ⟨_, _, rfl, rfl, hc, k.now st rfl⟩
    · cases e
  · cases e
def powG (_ : Store) (x y : D) : Option D := match x, y with
  | .int i, .int j => if 0 ≤ j ∧ j ≤ 1000000 ∧ i.natAbs < 2 ^ 64 then some (.int (i ^ j.toNat)) else none
  | _, _ => none
theorem snd_pow : OpSnd (rI CPow fun i j => .int (i ^ j.toNat)) powG := by
  intro H ρ S x y z v u Q st rx ry e k
  unfold powG at e
  split at e
  · split at e
    · rename_i hc
      cases e
      cases rx
      cases ry
      exact ⟨_, _, rfl, rfl, hc, k.now st rfl⟩
    · cases e
  · cases e
def negG (_ : Store) (x : D) : Option D := match x with
  | .int i => some (.int (-i))
  | _ => none
theorem snd_neg : UnSnd (rU fun i => .int (-i)) negG := by
  intro H ρ S x z v Q st rx e k
  unfold negG at e
  split at e
  · cases e
    cases rx
    exact ⟨_, rfl, k.now st rfl⟩
  · cases e
end
end SL

/-! SL: comparisons, tests. -/
namespace SL
open PySem PySem.Spec L2
open PyProof.Rows hiding St
section
variable {X : Cx} {W : WX} {a b c e : Expr} {es rest : List Expr} {ma mb mc me : ME} {na nb : MB} {ms : MA} {pos : Pos}
/-! ### < <= > >= -/
/-- order of texts -/
abbrev ltT (a b : List Nat) : Bool := decide (a < b)
def ltG (_ : Store) (x y : D) : Option D := match x, y with
  | .int i, .int j => some (.bl (decide (i < j)))
  | .str a, .str b => some (.bl (decide (a < b)))
  | _, _ => none
def leG (_ : Store) (x y : D) : Option D := match x, y with
  | .int i, .int j => some (.bl (decide (i ≤ j)))
  | .str a, .str b => some (.bl (!decide (b < a)))
  | _, _ => none
def gtG (_ : Store) (x y : D) : Option D := match x, y with
  | .int i, .int j => some (.bl (decide (j < i)))
  | .str a, .str b => some (.bl (decide (b < a)))
  | _, _ => none
def geG (_ : Store) (x y : D) : Option D := match x, y with
  | .int i, .int j => some (.bl (decide (j ≤ i)))
  | .str a, .str b => some (.bl (!decide (a < b)))
  | _, _ => none
def rLtA : R2 := fun x y H Q => rI0 (fun i j => .bl (decide (i < j))) x y H Q ∨ ∃ i j, x = .str i ∧ y = .str j ∧ Q (.bl (decide (i.cps.toList < j.cps.toList))) H
def rLeA : R2 := fun x y H Q => rI0 (fun i j => .bl (decide (i ≤ j))) x y H Q ∨ ∃ i j, x = .str i ∧ y = .str j ∧ Q (.bl (!decide (j.cps.toList < i.cps.toList))) H
def rGtA : R2 := fun x y H Q => rI0 (fun i j => .bl (decide (j < i))) x y H Q ∨ ∃ i j, x = .str i ∧ y = .str j ∧ Q (.bl (decide (j.cps.toList < i.cps.toList))) H
def rGeA : R2 := fun x y H Q => rI0 (fun i j => .bl (decide (j ≤ i))) x y H Q ∨ ∃ i j, x = .str i ∧ y = .str j ∧ Q (.bl (!decide (i.cps.toList < j.cps.toList))) H
theorem op_ltA : OpR X (compareOp .Lt) rLtA := OpR.or op_lt op_lt_str
theorem op_leA : OpR X (compareOp .LtE) rLeA := OpR.or op_le op_le_str
theorem op_gtA : OpR X (compareOp .Gt) rGtA := OpR.or op_gt op_gt_str
theorem op_geA : OpR X (compareOp .GtE) rGeA := OpR.or op_ge op_ge_str
theorem snd_lt : OpSnd rLtA ltG := by
  intro H ρ S x y z v u Q st rx ry e k
  unfold ltG at e
  split at e
  · cases e; cases rx; cases ry
    exact .inl ⟨_, _, rfl, rfl, k.now st rfl⟩
  · cases e; cases rx; cases ry
    exact .inr ⟨_, _, rfl, rfl, k.now st rfl⟩
  · cases e
theorem snd_le : OpSnd rLeA leG := by
  intro H ρ S x y z v u Q st rx ry e k
  unfold leG at e
  split at e
  · cases e; cases rx; cases ry
    exact .inl ⟨_, _, rfl, rfl, k.now st rfl⟩
  · cases e; cases rx; cases ry
    exact .inr ⟨_, _, rfl, rfl, k.now st rfl⟩
  · cases e
theorem snd_gt : OpSnd rGtA gtG := by
  intro H ρ S x y z v u Q st rx ry e k
  unfold gtG at e
  split at e
  · cases e; cases rx; cases ry
    exact .inl ⟨_, _, rfl, rfl, k.now st rfl⟩
  · cases e; cases rx; cases ry
    exact .inr ⟨_, _, rfl, rfl, k.now st rfl⟩
  · cases e
theorem snd_ge : OpSnd rGeA geG := by
  intro H ρ S x y z v u Q st rx ry e k
  unfold geG at e
  split at e
  · cases e; cases rx; cases ry
    exact .inl ⟨_, _, rfl, rfl, k.now st rfl⟩
  · cases e; cases rx; cases ry
    exact .inr ⟨_, _, rfl, rfl, k.now st rfl⟩
  · cases e
/-! ### == != : data -/
theorem dec_str {a b : List Nat} : decide (V.str ⟨a.toArray⟩ = V.str ⟨b.toArray⟩) = decide (a = b) := decide_eq_decide.mpr ⟨fun h => str_inj.mp (V.str.inj h), fun h => congrArg V.str (str_inj.mpr h)⟩
theorem dec_int {a b : Int} : decide (V.int a = V.int b) = decide (a = b) := decide_eq_decide.mpr ⟨fun h => V.int.inj h, fun h => congrArg V.int h⟩
mutual
def toPy : D → Option PyData
  | .non => some .none
  | .bl b => some (.bool b)
  | .int i => some (.int i)
  | .str l => some (.str ⟨l.toArray⟩)
  | .tup ds => match toPys ds with
    | some ps => some (.tuple ps)
    | none => none
  | .lst ds => match toPys ds with
    | some ps => some (.list ps)
    | none => none
  | _ => none
def toPys : List D → Option (List PyData)
  | [] => some []
  | d :: ds => match toPy d, toPys ds with
    | some p, some ps => some (p :: ps)
    | _, _ => none
end
def toPyS (S : Store) (d : D) : Option PyData := match d with
  | .loc _ => match asL S d with
    | some ds => match toPys ds with
      | some ps => some (.list ps)
      | none => none
    | none => none
  | d => toPy d
mutual
theorem toPy_dp {K : PySem.W.Frag} {H : Hp} {ρ : List Addr} : ∀ (d : D) (v : V) (p : PyData), toPy d = some p → Rep H ρ d v → Dp K H v p
  | .non, v, p, e, r => by cases e; cases r; exact .non
  | .bl b, v, p, e, r => by cases e; cases r; exact .bl b
  | .int i, v, p, e, r => by cases e; cases r; exact .int i
  | .str l, v, p, e, r => by cases e; cases r; exact .str _
  | .tup ds, v, p, e, r => by
    obtain ⟨a, vs, rfl, h1, _, r1⟩ := r
    simp only [toPy] at e
    split at e
    · rename_i ps ep
      cases e
      exact .tup (.inl (.inl h1)) (toPys_dp ds vs ps ep r1)
    · cases e
  | .lst ds, v, p, e, r => by
    obtain ⟨a, vs, rfl, h1, _, r1⟩ := r
    simp only [toPy] at e
    split at e
    · rename_i ps ep
      cases e
      exact .lst (.inl (.inl h1)) (toPys_dp ds vs ps ep r1)
    · cases e
  | .dct _ _, v, p, e, r => by cases e
  | .obj _ _ _, v, p, e, r => by cases e
  | .loc _, v, p, e, r => by cases e
  | .raw _, v, p, e, r => by cases e
  | .exn _ _ _ _, v, p, e, r => by cases e
theorem toPys_dp {K : PySem.W.Frag} {H : Hp} {ρ : List Addr} : ∀ (ds : List D) (vs : List V) (ps : List PyData), toPys ds = some ps → Reps H ρ ds vs → DpAll K H vs ps
  | [], vs, ps, e, r => by cases e; cases r; exact .nil
  | d :: ds, vs, ps, e, r => by
    obtain ⟨v, us, rfl, h1, h2⟩ := r
    simp only [toPys] at e
    split at e
    · rename_i p ps' e1 e2
      cases e
      exact .cons (toPy_dp d v p e1 h1) (toPys_dp ds us ps' e2 h2)
    · cases e
end
theorem toPyS_dp {K : PySem.W.Frag} {H : Hp} {ρ : List Addr} {S : Store} {d : D} {v : V} {p : PyData} (st : StS H S ρ) (e : toPyS S d = some p) (r : Rep H ρ d v) : Dp K H v p := by
  cases d with
  | loc n =>
    simp only [toPyS] at e
    split at e
    · rename_i ds ea
      split at e
      · rename_i ps ep
        cases e
        obtain ⟨a, vs, rfl, h1, r1⟩ := asL_rep st r ea
        exact .lst (.inl (.inl h1)) (toPys_dp ds vs ps ep r1)
      · cases e
    · cases e
  | _ => exact toPy_dp _ v p e r
def eqB (S : Store) (x y : D) : Option Bool := match x, y with
  | .str a, .str b => some (decide (a = b))
  | .int i, .int j => some (decide (i = j))
  | x, y => match toPyS S x, toPyS S y with
    | some p, some q => if SeqAt.shaped p = true ∧ SeqAt.shaped q = true then some (PyData.eqv p q) else none
    | _, _ => none
def eqG (S : Store) (x y : D) : Option D := match eqB S x y with
  | some b => some (.bl b)
  | none => none
def neG (S : Store) (x y : D) : Option D := match eqB S x y with
  | some b => some (.bl (!b))
  | none => none
def rEqA (K : PySem.W.Frag) : R2 := fun x y H Q => rEq x y H Q ∨ rEqD K x y H Q
def rNeA (K : PySem.W.Frag) : R2 := fun x y H Q => rNe x y H Q ∨ rNeD K x y H Q
theorem op_eqA (hu : X.A.units + 64 < cLine) : OpR X (compareOp .Eq) (rEqA X.K) := OpR.or op_eq (op_eqD hu)
theorem op_neA (hu : X.A.units + 64 < cLine) : OpR X (compareOp .NotEq) (rNeA X.K) := OpR.or op_ne (op_neD hu)
theorem snd_eq {K : PySem.W.Frag} : OpSnd (rEqA K) eqG := by
  intro H ρ S x y z v u Q st rx ry e k
  unfold eqG at e
  split at e
  · rename_i b eb
    cases e
    unfold eqB at eb
    split at eb
    · cases eb; cases rx; cases ry
      refine .inl ⟨rfl, ?_⟩
      rw [dec_str]
      exact k.now st rfl
    · cases eb; cases rx; cases ry
      refine .inl ⟨rfl, ?_⟩
      rw [dec_int]
      exact k.now st rfl
    · split at eb
      · rename_i p q ep eq
        split at eb
        · rename_i hs
          cases eb
          exact .inr ⟨p, q, toPyS_dp st ep rx, toPyS_dp st eq ry, hs.1, hs.2, k.now st rfl⟩
        · cases eb
      · cases eb
  · cases e
theorem snd_ne {K : PySem.W.Frag} : OpSnd (rNeA K) neG := by
  intro H ρ S x y z v u Q st rx ry e k
  unfold neG at e
  split at e
  · rename_i b eb
    cases e
    unfold eqB at eb
    split at eb
    · cases eb; cases rx; cases ry
      refine .inl ⟨rfl, ?_⟩
      rw [dec_str]
      exact k.now st rfl
    · cases eb; cases rx; cases ry
      refine .inl ⟨rfl, ?_⟩
      rw [dec_int]
      exact k.now st rfl
    · split at eb
      · rename_i p q ep eq
        split at eb
        · rename_i hs
          cases eb
          exact .inr ⟨p, q, toPyS_dp st ep rx, toPyS_dp st eq ry, hs.1, hs.2, k.now st rfl⟩
        · cases eb
      · cases eb
  · cases e
/-! ### is None, is True -/
def isN : D → Bool
  | .non => true
  | _ => false
def isB (S : Store) (x y : D) : Option Bool := match y with
  | .non => match x with
    | .raw _ => none
    | x => some (isN x)
  | .bl b => match x with
    | .bl a => some (decide (a = b))
    | _ => none
  | _ => none
def isG (S : Store) (x y : D) : Option D := match isB S x y with
  | some b => some (.bl b)
  | none => none
def isntG (S : Store) (x y : D) : Option D := match isB S x y with
  | some b => some (.bl (!b))
  | none => none
def rIsA : R2 := fun x y H Q => (y = .non ∧ Q (.bl (decide (x = .non))) H) ∨ ∃ a b, x = .bl a ∧ y = .bl b ∧ Q (.bl (decide (a = b))) H
def rNotA : R2 := fun x y H Q => (y = .non ∧ Q (.bl (!decide (x = .non))) H) ∨ ∃ a b, x = .bl a ∧ y = .bl b ∧ Q (.bl (!decide (a = b))) H
theorem op_isA : OpR X (compareOp .Is) rIsA := OpR.or op_isN op_is_bl
theorem op_isntA : OpR X (compareOp .IsNot) rNotA := OpR.or op_notN op_isnot_bl
theorem isN_rep {H : Hp} {ρ : List Addr} {x : D} {v : V} (r : Rep H ρ x v) (h : ∀ u, x ≠ .raw u) : decide (v = .non) = isN x := by
  cases x with
  | non => cases r; rfl
  | bl _ => cases r; rfl
  | int _ => cases r; rfl
  | str _ => cases r; rfl
  | tup _ => obtain ⟨a, vs, rfl, _⟩ := r; rfl
  | lst _ => obtain ⟨a, vs, rfl, _⟩ := r; rfl
  | dct _ _ => obtain ⟨a, vs, rfl, _⟩ := r; rfl
  | obj _ _ _ => obtain ⟨a, d, vs, rfl, _⟩ := r; rfl
  | loc _ => obtain ⟨a, _, rfl⟩ := r; rfl
  | raw u => exact absurd rfl (h u)
  | exn _ _ _ _ => obtain ⟨vs, rfl, _⟩ := r; rfl
theorem snd_is : OpSnd rIsA isG := by
  intro H ρ S x y z v u Q st rx ry e k
  unfold isG at e
  split at e
  · rename_i b eb
    cases e
    unfold isB at eb
    split at eb
    · split at eb
      · cases eb
      · rename_i x' hx
        cases eb
        cases ry
        refine .inl ⟨rfl, ?_⟩
        rw [isN_rep rx hx]
        exact k.now st rfl
    · split at eb
      · cases eb
        cases rx
        cases ry
        exact .inr ⟨_, _, rfl, rfl, k.now st rfl⟩
      · cases eb
    · cases eb
  · cases e
theorem snd_isnt : OpSnd rNotA isntG := by
  intro H ρ S x y z v u Q st rx ry e k
  unfold isntG at e
  split at e
  · rename_i b eb
    cases e
    unfold isB at eb
    split at eb
    · split at eb
      · cases eb
      · rename_i x' hx
        cases eb
        cases ry
        refine .inl ⟨rfl, ?_⟩
        rw [isN_rep rx hx]
        exact k.now st rfl
    · split at eb
      · cases eb
        cases rx
        cases ry
        exact .inr ⟨_, _, rfl, rfl, k.now st rfl⟩
      · cases eb
    · cases eb
  · cases e
/-! ### in, not in -/
/-- a flat thing as V -/
def flV : D → Option V
  | .non => some .non
  | .bl b => some (.bl b)
  | .int i => some (.int i)
  | .str l => some (.str ⟨l.toArray⟩)
  | _ => none
theorem flV_rep {H : Hp} {ρ : List Addr} {x : D} {v w : V} (r : Rep H ρ x v) (h : flV x = some w) : v = w ∧ flatV v = true := by
  cases x with
  | non => cases h; cases r; exact ⟨rfl, rfl⟩
  | bl _ => cases h; cases r; exact ⟨rfl, rfl⟩
  | int _ => cases h; cases r; exact ⟨rfl, rfl⟩
  | str _ => cases h; cases r; exact ⟨rfl, rfl⟩
  | _ => cases h
def flVs : List D → Option (List V)
  | [] => some []
  | d :: ds => match flV d, flVs ds with
    | some v, some vs => some (v :: vs)
    | _, _ => none
theorem flVs_rep {H : Hp} {ρ : List Addr} : ∀ {ds : List D} {vs ws : List V}, Reps H ρ ds vs → flVs ds = some ws → vs = ws ∧ vs.all flatV = true
  | [], vs, ws, r, h => by cases r; cases h; exact ⟨rfl, rfl⟩
  | d :: ds, vs, ws, r, h => by
    obtain ⟨v, us, rfl, h1, h2⟩ := r
    simp only [flVs] at h
    split at h
    · rename_i w ws' e1 e2
      cases h
      obtain ⟨rfl, f1⟩ := flV_rep h1 e1
      obtain ⟨rfl, f2⟩ := flVs_rep h2 e2
      exact ⟨rfl, by rw [List.all_cons, f1, f2]; rfl⟩
    · cases h
/-- a key is there -/
def memK (ks : List Key) (k : Key) : Bool := ks.any fun q => decide (q = k)
/-- a dict -/
def asDct (S : Store) : D → Option (List Key × List D)
  | .dct ks ds => some (ks, ds)
  | .loc n => match S[n]? with
    | some (.dct ks ds) => some (ks, ds)
    | _ => none
  | _ => none
def keyD : D → Option Key
  | .int i => some (.inl i)
  | .str l => some (.inr ⟨l.toArray⟩)
  | _ => none
theorem asDct_rep {H : Hp} {ρ : List Addr} {S : Store} {d : D} {v : V} {ks : List Key} {ds : List D} (st : StS H S ρ) (r : Rep H ρ d v) (h : asDct S d = some (ks, ds)) : ∃ a vs, v = .ref a ∧ H a = some (.dK (ks.zip vs)) ∧ ks.length = ds.length ∧ Reps H ρ ds vs := by
  cases d with
  | dct ks' es =>
    cases h
    obtain ⟨a, vs, rfl, h1, _, l, h2⟩ := r
    exact ⟨a, vs, rfl, h1, l, h2⟩
  | loc n =>
    obtain ⟨a, ha, rfl⟩ := r
    simp only [asDct] at h
    split at h
    · rename_i ks' ds' e
      cases h
      obtain ⟨vs, h1, l, h2⟩ := st.cells n a _ ha e
      exact ⟨a, vs, rfl, h1, l, h2⟩
    · cases h
  | _ => cases h
theorem keyD_rep {H : Hp} {ρ : List Addr} {x : D} {v : V} {k : Key} (r : Rep H ρ x v) (h : keyD x = some k) : v = kV k := by
  cases x with
  | int _ => cases h; cases r; rfl
  | str _ => cases h; cases r; rfl
  | _ => cases h
theorem valV_zip_isSome : ∀ {ks : List Key} {vs : List V} {k : Key}, ks.length = vs.length → (valV (ks.zip vs) k).isSome = memK ks k
  | [], [], k, _ => rfl
  | [], _ :: _, _, h => by cases h
  | _ :: _, [], _, h => by cases h
  | q :: ks, v :: vs, k, h => by
    have ih := valV_zip_isSome (ks := ks) (vs := vs) (k := k) (by simpa using h)
    rw [List.zip_cons_cons]
    by_cases e : q = k
    · rw [valV_pos (show ((q, v) : Key × V).1 = k from e)]
      simp [memK, e]
    · have : valV ((q, v) :: ks.zip vs) k = valV (ks.zip vs) k := by simp [valV, List.find?_cons, e]
      rw [this, ih]
      simp [memK, e]
def inB (S : Store) (x y : D) : Option Bool := match y with
  | .str z => match x with
    | .str [c] => some (decide (c ∈ z))
    | .str l => some (!(Builtin.Str.occurrences (⟨z.toArray⟩ : Str) (⟨l.toArray⟩ : Str) 0 (⟨z.toArray⟩ : Str).length 1).isEmpty)
    | _ => none
  | y => match asQ S y with
    | some ds => match flV x, flVs ds with
      | some v, some vs => some (inV v vs)
      | _, _ => none
    | none => match asDct S y, keyD x with
      | some (ks, _), some k => some (memK ks k)
      | _, _ => none
def inG (S : Store) (x y : D) : Option D := match inB S x y with
  | some b => some (.bl b)
  | none => none
def ninG (S : Store) (x y : D) : Option D := match inB S x y with
  | some b => some (.bl (!b))
  | none => none
def rInA (K : PySem.W.Frag) : R2 := fun x y H Q => (∃ (c : Nat) (z : Str), x = .str ⟨#[c]⟩ ∧ y = .str z ∧ Q (.bl (decide (c ∈ z.cps.toList))) H) ∨
  ((∃ i j, x = .str i ∧ y = .str j ∧ Q (.bl (!(Builtin.Str.occurrences j i 0 j.length 1).isEmpty)) H) ∨ (rIn K false x y H Q ∨ ∃ a o, y = .ref a ∧ DGet H a x o ∧ Q (.bl o.isSome) H))
def rNinA (K : PySem.W.Frag) : R2 := fun x y H Q => (∃ (c : Nat) (z : Str), x = .str ⟨#[c]⟩ ∧ y = .str z ∧ Q (.bl (!decide (c ∈ z.cps.toList))) H) ∨
  ((∃ i j, x = .str i ∧ y = .str j ∧ Q (.bl (!(!(Builtin.Str.occurrences j i 0 j.length 1).isEmpty))) H) ∨ (rIn K true x y H Q ∨ ∃ a o, y = .ref a ∧ DGet H a x o ∧ Q (.bl (!o.isSome)) H))
theorem op_inD1 (hu : X.A.units + 1 < cLine) : OpR X (compareOp .In) (fun x y H Q => ∃ a o, y = .ref a ∧ DGet H a x o ∧ Q (.bl o.isSome) H) := by
  intro pins s σ H x y v u Q I rx ry h
  obtain ⟨a, o, rfl, g, q⟩ := h
  cases ry
  exact d_in hu I g rx fun s' I' => ⟨.bl o.isSome, H, I', rfl, q⟩
theorem op_ninD1 (hu : X.A.units + 1 < cLine) : OpR X (compareOp .NotIn) (fun x y H Q => ∃ a o, y = .ref a ∧ DGet H a x o ∧ Q (.bl (!o.isSome)) H) := by
  intro pins s σ H x y v u Q I rx ry h
  obtain ⟨a, o, rfl, g, q⟩ := h
  cases ry
  exact d_notIn hu I g rx fun s' I' => ⟨.bl (!o.isSome), H, I', rfl, q⟩
theorem op_inA (hu : X.A.units + 64 < cLine) : OpR X (compareOp .In) (rInA X.K) := OpR.or op_in_sign (OpR.or op_in_str (OpR.or op_in_seq (op_inD1 (by omega))))
theorem op_ninA (hu : X.A.units + 64 < cLine) : OpR X (compareOp .NotIn) (rNinA X.K) := OpR.or op_notIn_sign (OpR.or op_notin_str (OpR.or op_notIn_seq (op_ninD1 (by omega))))
theorem snd_in {K : PySem.W.Frag} : OpSnd (rInA K) inG := by
  intro H ρ S x y z v u Q st rx ry e k
  unfold inG at e
  split at e
  · rename_i b eb
    cases e
    unfold inB at eb
    split at eb
    · split at eb
      · cases eb; cases rx; cases ry
        exact .inl ⟨_, _, rfl, rfl, by simpa using k.now st rfl⟩
      · cases eb; cases rx; cases ry
        exact .inr (.inl ⟨_, _, rfl, rfl, k.now st rfl⟩)
      · cases eb
    · split at eb
      · rename_i ds ed
        split at eb
        · rename_i v' vs' e1 e2
          cases eb
          obtain ⟨a, vs, rfl, hq, rs⟩ := asQ_rep (K := K) st ry ed
          obtain ⟨rfl, f1⟩ := flV_rep rx e1
          obtain ⟨rfl, f2⟩ := flVs_rep rs e2
          exact .inr (.inr (.inl ⟨a, vs, rfl, hq, f1, f2, k.now st rfl⟩))
        · cases eb
      · split at eb
        · rename_i ks ds' k' e1 e2
          cases eb
          obtain ⟨a, vs, rfl, h1, l, r1⟩ := asDct_rep st ry e1
          have ek := keyD_rep rx e2
          subst ek
          refine .inr (.inr (.inr ⟨a, _, rfl, DGet.k h1, ?_⟩))
          rw [valV_zip_isSome (by rw [l, r1.len])]
          exact k.now st rfl
        · cases eb
  · cases e
theorem snd_nin {K : PySem.W.Frag} : OpSnd (rNinA K) ninG := by
  intro H ρ S x y z v u Q st rx ry e k
  unfold ninG at e
  split at e
  · rename_i b eb
    cases e
    unfold inB at eb
    split at eb
    · split at eb
      · cases eb; cases rx; cases ry
        exact .inl ⟨_, _, rfl, rfl, by simpa using k.now st rfl⟩
      · cases eb; cases rx; cases ry
        exact .inr (.inl ⟨_, _, rfl, rfl, k.now st rfl⟩)
      · cases eb
    · split at eb
      · rename_i ds ed
        split at eb
        · rename_i v' vs' e1 e2
          cases eb
          obtain ⟨a, vs, rfl, hq, rs⟩ := asQ_rep (K := K) st ry ed
          obtain ⟨rfl, f1⟩ := flV_rep rx e1
          obtain ⟨rfl, f2⟩ := flVs_rep rs e2
          exact .inr (.inr (.inl ⟨a, vs, rfl, hq, f1, f2, k.now st rfl⟩))
        · cases eb
      · split at eb
        · rename_i ks ds' k' e1 e2
          cases eb
          obtain ⟨a, vs, rfl, h1, l, r1⟩ := asDct_rep st ry e1
          have ek := keyD_rep rx e2
          subst ek
          refine .inr (.inr (.inr ⟨a, _, rfl, DGet.k h1, ?_⟩))
          rw [valV_zip_isSome (by rw [l, r1.len])]
          exact k.now st rfl
        · cases eb
  · cases e
end
end SL

/-! SL: truth, and/or, subscripts, slices. -/
namespace SL
open PySem PySem.Spec L2
open PyProof.Rows hiding St
section
variable {X : Cx} {W : WX} {a b c e : Expr} {es rest : List Expr} {ma mb mc me : ME} {na nb : MB} {ms : MA} {pos : Pos}
/-! ### truth -/
def truthB (S : Store) (x : D) : Option Bool := match x with
  | .non => some false
  | .bl b => some b
  | .int i => some (i != 0)
  | .str l => if l.length ≤ 1000000 then some (l.length != 0) else none
  | .lst ds => some (!ds.isEmpty)
  | .tup ds => some (!ds.isEmpty)
  | .dct ks _ => some (!ks.isEmpty)
  | .loc n => match S[n]? with
    | some (.lst ds) => some (!ds.isEmpty)
    | some (.dct ks _) => some (!ks.isEmpty)
    | _ => none
  | _ => none
theorem Reps.emp {H : Hp} {ρ : List Addr} {ds : List D} {vs : List V} (r : Reps H ρ ds vs) : ds.isEmpty = vs.isEmpty := by
  cases ds with
  | nil => cases r; rfl
  | cons d ds => obtain ⟨v, us, rfl, _⟩ := r; rfl
theorem zip_emp {α β : Type} : ∀ {ks : List α} {vs : List β}, ks.length = vs.length → (ks.zip vs).isEmpty = ks.isEmpty
  | [], _, _ => rfl
  | _ :: _, [], h => by cases h
  | _ :: _, _ :: _, _ => rfl
theorem truth_rep {K : PySem.W.Frag} {H : Hp} {ρ : List Addr} {S : Store} {x : D} {v : V} {c : Bool} (st : StS H S ρ) (r : Rep H ρ x v) (h : truthB S x = some c) : TruV K v H c := by
  cases x with
  | non => cases h; cases r; rfl
  | bl _ => cases h; cases r; rfl
  | int _ => cases h; cases r; rfl
  | str l =>
    cases r
    simp only [truthB] at h
    split at h
    · rename_i hl
      cases h
      refine ⟨by rw [str_len]; exact sz6 hl, ?_⟩
      rw [str_len]
      cases hz : l.length with
      | zero => rfl
      | succ n => simp; omega
    · cases h
  | tup ds =>
    cases h
    obtain ⟨a, vs, rfl, h1, _, r1⟩ := r
    exact .inr (.inl ⟨vs, .inl (.inl h1), by rw [r1.emp]⟩)
  | lst ds =>
    cases h
    obtain ⟨a, vs, rfl, h1, _, r1⟩ := r
    exact .inl ⟨vs, .inl (.inl h1), by rw [r1.emp]⟩
  | dct ks ds =>
    cases h
    obtain ⟨a, vs, rfl, h1, _, l, r1⟩ := r
    exact .inr (.inr ⟨_, h1, by rw [zip_emp (by rw [l, r1.len])]⟩)
  | loc n =>
    obtain ⟨a, ha, rfl⟩ := r
    simp only [truthB] at h
    split at h
    · rename_i ds e
      cases h
      obtain ⟨vs, h1, r1⟩ := st.cells n a _ ha e
      exact .inl ⟨vs, .inl (.inl h1), by rw [r1.emp]⟩
    · rename_i ks ds e
      cases h
      obtain ⟨vs, h1, l, r1⟩ := st.cells n a _ ha e
      exact .inr (.inr ⟨_, h1, by rw [zip_emp (by rw [l, r1.len])]⟩)
    · cases h
  | _ => cases h
def trM (ma : ME) : MB := fun δ S => (ma δ S).bind fun x S1 => RO (truthB S1 x) S1
theorem pd_truth (ha : PE X a (tE W ma)) (he : ∀ whole, isTrue a X.env whole = (do let v ← whole; standAt a.pos; holding [v] (truthy v)) := by intro _; rfl) : PT X a (tT W (trM ma)) := by
  refine PT.weak (pt_truth ha he) fun σ H Q h => ?_
  obtain ⟨δ, S, ρ, I, h⟩ := h
  refine bindG I h fun x v S1 H1 ρ1 n1 I1 r1 h1 => ?_
  obtain ⟨c, ec, k⟩ := h1.ro
  exact ⟨c, truth_rep I1.st r1 ec, k c H1 ρ1 (Nx.refl _ _) I1.st rfl⟩
def andB (na nb : MB) : MB := fun δ S => (na δ S).bind fun c S1 => if c = true then nb δ S1 else .ok false S1
def orB (na nb : MB) : MB := fun δ S => (na δ S).bind fun c S1 => if c = true then .ok true S1 else nb δ S1
def notB (na : MB) : MB := fun δ S => (na δ S).bind fun c S1 => .ok (!c) S1
theorem tT_and {na nb : MB} (σ : St) (H : Hp) (Q : Bool → Hp → Prop) (h : tT W (andB na nb) σ H Q) : tAnd (tT W na) (tT W nb) σ H Q := by
  obtain ⟨δ, S, ρ, I, h⟩ := h
  refine bindG I h fun c c' S1 H1 ρ1 n1 I1 r1 h1 => ?_
  cases r1
  show if c = true then _ else _
  cases c with
  | true => rw [if_pos rfl] at h1 ⊢; exact ⟨δ, S1, ρ1, I1, h1⟩
  | false => rw [if_neg Bool.false_ne_true] at h1 ⊢; exact RunG.ok h1 I1.st rfl
theorem tT_or {na nb : MB} (σ : St) (H : Hp) (Q : Bool → Hp → Prop) (h : tT W (orB na nb) σ H Q) : tOr (tT W na) (tT W nb) σ H Q := by
  obtain ⟨δ, S, ρ, I, h⟩ := h
  refine bindG I h fun c c' S1 H1 ρ1 n1 I1 r1 h1 => ?_
  cases r1
  show if c = true then _ else _
  cases c with
  | true => rw [if_pos rfl] at h1 ⊢; exact RunG.ok h1 I1.st rfl
  | false => rw [if_neg Bool.false_ne_true] at h1 ⊢; exact ⟨δ, S1, ρ1, I1, h1⟩
theorem pw_dand (ha : PT X a (tT W na)) (hb : PW X (.BoolOp .And (b :: rest) pos) (tT W nb)) : PW X (.BoolOp .And (a :: b :: rest) pos) (tT W (andB na nb)) := PW.weak (pw_and ha hb) tT_and
theorem pw_dand1 (ha : PT X a (tT W na)) : PW X (.BoolOp .And [a] pos) (tT W na) := pw_and1 ha
theorem pw_dor (ha : PT X a (tT W na)) (hb : PW X (.BoolOp .Or (b :: rest) pos) (tT W nb)) : PW X (.BoolOp .Or (a :: b :: rest) pos) (tT W (orB na nb)) := PW.weak (pw_or ha hb) tT_or
theorem pw_dor1 (ha : PT X a (tT W na)) : PW X (.BoolOp .Or [a] pos) (tT W na) := pw_or1 ha
theorem pd_bopT {op : BoolOp} (h : PW X (.BoolOp op es pos) (tT W na)) : PT X (.BoolOp op es pos) (tT W na) := h.pt
theorem pd_notT (ha : PT X a (tT W na)) : PT X (.UnaryOp .Not a pos) (tT W (notB na)) := by
  refine PT.weak (pt_not ha) fun σ H Q h => ?_
  obtain ⟨δ, S, ρ, I, h⟩ := h
  refine bindG I h fun c c' S1 H1 ρ1 n1 I1 r1 h1 => ?_
  cases r1
  exact RunG.ok h1 I1.st rfl
/-- as values -/
def andM (ma mb : ME) : ME := fun δ S => (ma δ S).bind fun x S1 => match truthB S1 x with
  | some true => mb δ S1
  | some false => .ok x S1
  | none => .stuck
def orM (ma mb : ME) : ME := fun δ S => (ma δ S).bind fun x S1 => match truthB S1 x with
  | some false => mb δ S1
  | some true => .ok x S1
  | none => .stuck
def notM (ma : ME) : ME := fun δ S => (ma δ S).bind fun x S1 => match truthB S1 x with
  | some c => .ok (.bl (!c)) S1
  | none => .stuck
theorem pd_and (ha : PE X a (tE W ma)) (hb : PE X (.BoolOp .And (b :: rest) pos) (tE W mb)) : PE X (.BoolOp .And (a :: b :: rest) pos) (tE W (andM ma mb)) := by
  refine PE.weak (pe_andT ha hb) fun σ H Q h => ?_
  obtain ⟨δ, S, ρ, I, h⟩ := h
  refine bindG I h fun x v S1 H1 ρ1 n1 I1 r1 h1 => ?_
  split at h1
  · rename_i e
    refine ⟨true, truth_rep I1.st r1 e, ?_⟩
    rw [if_pos rfl]
    exact ⟨δ, S1, ρ1, I1, h1⟩
  · rename_i e
    refine ⟨false, truth_rep I1.st r1 e, ?_⟩
    rw [if_neg Bool.false_ne_true]
    exact RunG.ok h1 I1.st r1
  · exact False.elim h1
theorem pd_or (ha : PE X a (tE W ma)) (hb : PE X (.BoolOp .Or (b :: rest) pos) (tE W mb)) : PE X (.BoolOp .Or (a :: b :: rest) pos) (tE W (orM ma mb)) := by
  refine PE.weak (pe_orT ha hb) fun σ H Q h => ?_
  obtain ⟨δ, S, ρ, I, h⟩ := h
  refine bindG I h fun x v S1 H1 ρ1 n1 I1 r1 h1 => ?_
  split at h1
  · rename_i e
    refine ⟨false, truth_rep I1.st r1 e, ?_⟩
    rw [if_neg Bool.false_ne_true]
    exact ⟨δ, S1, ρ1, I1, h1⟩
  · rename_i e
    refine ⟨true, truth_rep I1.st r1 e, ?_⟩
    rw [if_pos rfl]
    exact RunG.ok h1 I1.st r1
  · exact False.elim h1
theorem pd_one {op : BoolOp} (h : PE X a (tE W ma)) : PE X (.BoolOp op [a] pos) (tE W ma) := pe_one h
theorem pd_not (ha : PE X a (tE W ma)) : PE X (.UnaryOp .Not a pos) (tE W (notM ma)) := by
  refine PE.weak (pe_notT ha) fun σ H Q h => ?_
  obtain ⟨δ, S, ρ, I, h⟩ := h
  refine bindG I h fun x v S1 H1 ρ1 n1 I1 r1 h1 => ?_
  split at h1
  · rename_i c e
    exact ⟨c, truth_rep I1.st r1 e, RunG.ok h1 I1.st rfl⟩
  · exact False.elim h1
def ifM (nc : MB) (ma mb : ME) : ME := fun δ S => (nc δ S).bind fun c S1 => if c = true then ma δ S1 else mb δ S1
theorem pd_ifExp {nc : MB} (hc : PT X c (tT W nc)) (ha : PE X a (tE W ma)) (hb : PE X b (tE W mb)) : PE X (.IfExp c a b pos) (tE W (ifM nc ma mb)) := by
  refine PE.weak (pe_ifExp hc ha hb) fun σ H Q h => ?_
  obtain ⟨δ, S, ρ, I, h⟩ := h
  refine bindG I h fun c c' S1 H1 ρ1 n1 I1 r1 h1 => ?_
  cases r1
  show if c = true then _ else _
  cases c with
  | true => rw [if_pos rfl] at h1 ⊢; exact ⟨δ, S1, ρ1, I1, h1⟩
  | false => rw [if_neg Bool.false_ne_true] at h1 ⊢; exact ⟨δ, S1, ρ1, I1, h1⟩
/-! ### a < b < c -/
def chM (g g' : Store → D → D → Option D) (ma mb mc : ME) : ME := fun δ S => (ma δ S).bind fun x S1 => (mb δ S1).bind fun y S2 => match asB (g S2 x y) with
  | some true => (mc δ S2).bind fun z S3 => RO (g' S3 y z) S3
  | some false => .ok (.bl false) S2
  | none => .stuck
theorem asB_some {o : Option D} {c : Bool} (h : asB o = some c) : o = some (.bl c) := by
  unfold asB at h
  split at h
  · cases h; rfl
  · cases h
theorem tE_chain {r r' : R2} {g g' : Store → D → D → Option D} (s : OpSnd r g) (s' : OpSnd r' g') (σ : St) (H : Hp) (Q : VK) (h : tE W (chM g g' ma mb mc) σ H Q) : tChain r r' (tE W ma) (tE W mb) (tE W mc) σ H Q := by
  obtain ⟨δ, S, ρ, I, h⟩ := h
  refine bindG I h fun x v S1 H1 ρ1 n1 I1 r1 h1 => ?_
  refine bindG I1 h1 fun y u S2 H2 ρ2 n2 I2 r2 h2 => ?_
  split at h2
  · rename_i e
    refine s H2 ρ2 S2 x y (.bl true) v u _ I2.st (Rep.mono n2 _ _ r1) r2 (asB_some e) fun w H3 n3 st3 r3 => ?_
    cases r3
    refine ⟨true, rfl, ?_⟩
    rw [if_pos rfl]
    have h2' := h2
    have I3 := I2.next n3 st3
    refine bindG (W := W) I3 (R2 := Rep) (k := fun z S3 => RO (g' S3 y z) S3) (Q := Q) ?_ fun z t S4 H4 ρ4 n4 I4 r4 h4 => ?_
    · revert h2'
      cases (mc δ S2).bind fun z S3 => RO (g' S3 y z) S3 with
      | ok a S' => exact fun hh b H' ρ' n st r => hh b H' ρ' (n3.trans n) st r
      | exc x S' => exact fun hh b d H' ρ' n st r => hh b d H' ρ' (n3.trans n) st r
      | stuck => exact fun hh => hh
    · obtain ⟨z', e', k⟩ := h4.ro
      exact s' H4 ρ4 S4 y z z' u t Q I4.st (Rep.mono (n3.trans n4) _ _ r2) r4 e' fun w H' n st r => k w H' ρ4 n st r
  · rename_i e
    refine s H2 ρ2 S2 x y (.bl false) v u _ I2.st (Rep.mono n2 _ _ r1) r2 (asB_some e) fun w H3 n3 st3 r3 => ?_
    cases r3
    refine ⟨false, rfl, ?_⟩
    rw [if_neg Bool.false_ne_true]
    exact RunG.okN h2 n3 st3 rfl
  · exact False.elim h2
theorem pd_chain {op op' : CmpOp} {r r' : R2} {g g' : Store → D → D → Option D} (ho : OpR X (compareOp op) r) (ho' : OpR X (compareOp op') r') (s : OpSnd r g) (s' : OpSnd r' g') (ha : PE X a (tE W ma)) (hb : PE X b (tE W mb)) (hc : PE X c (tE W mc))
    (hm : lastMarks [op, op'] [b, c] = false := by with_unfolding_all rfl) : PE X (.Compare a [op, op'] [b, c] pos) (tE W (chM g g' ma mb mc)) := PE.weak (pe_chain ho ho' ha hb hc hm) (tE_chain s s')
def bM (ma : ME) : MB := fun δ S => (ma δ S).bind fun x S1 => RO (asB (some x)) S1
theorem pd_chainT {op op' : CmpOp} {r r' : R2} {g g' : Store → D → D → Option D} (ho : OpR X (compareOp op) r) (ho' : OpR X (compareOp op') r') (s : OpSnd r g) (s' : OpSnd r' g') (ha : PE X a (tE W ma)) (hb : PE X b (tE W mb)) (hc : PE X c (tE W mc))
    (hm : lastMarks [op, op'] [b, c] = false := by with_unfolding_all rfl) : PT X (.Compare a [op, op'] [b, c] pos) (tT W (bM (chM g g' ma mb mc))) := by
  refine PT.weak (pt_chain ho ho' ha hb hc hm) fun σ H Q h => ?_
  refine tE_chain (W := W) s s' σ H _ ?_
  obtain ⟨δ, S, ρ, I, h⟩ := h
  refine bindG I h fun x v S1 H1 ρ1 n1 I1 r1 h1 => ?_
  obtain ⟨c, ec, k⟩ := h1.ro
  have := asB_some ec
  cases this
  cases r1
  exact ⟨c, rfl, k c H1 ρ1 (Nx.refl _ _) I1.st rfl⟩
/-! ### subscripts -/
def lookK {α : Type} : List Key → List α → Key → Option α
  | k :: ks, d :: ds, q => if k = q then some d else lookK ks ds q
  | _, _, _ => none
theorem lookK_rep {H : Hp} {ρ : List Addr} : ∀ {ks : List Key} {ds : List D} {vs : List V} {q : Key} {d : D}, Reps H ρ ds vs → lookK ks ds q = some d → ∃ v, valV (ks.zip vs) q = some v ∧ Rep H ρ d v
  | [], _, _, _, _, _, h => by cases h
  | _ :: _, [], _, _, _, _, h => by cases h
  | k :: ks, d' :: ds, vs, q, d, r, h => by
    obtain ⟨v, us, rfl, h1, h2⟩ := r
    rw [List.zip_cons_cons]
    unfold lookK at h
    split at h
    · rename_i e
      cases h
      exact ⟨v, by rw [valV_pos (show ((k, v) : Key × V).1 = q from e)], h1⟩
    · rename_i e
      obtain ⟨w, e1, r1⟩ := lookK_rep h2 h
      refine ⟨w, ?_, r1⟩
      rw [← e1]
      simp [valV, List.find?_cons, e]
def ixG (S : Store) (x y : D) : Option D := match x, y with
  | .str l, .int i => if l.length ≤ 1000000 then (match atI l i with
      | some c => some (.str [c])
      | none => none) else none
  | x, y => match asDct S x, keyD y with
    | some (ks, ds), some k => lookK ks ds k
    | _, _ => match asQ S x, y with
      | some ds, .int i => atI ds i
      | _, _ => none
def rIxA (K : PySem.W.Frag) : R2 := fun x y H Q => rIxS x y H Q ∨ ((∃ a v, x = .ref a ∧ DGet H a y (some v) ∧ Q v H) ∨ (rIxL K x y H Q ∨ rIxT K x y H Q))
theorem ix_dict (hu : X.A.units + 1 < cLine) : IxR X (fun x y H Q => ∃ a v, x = .ref a ∧ DGet H a y (some v) ∧ Q v H) := by
  intro value slice pins s σ H x y v u Q I rx ry h hs
  obtain ⟨a, w, rfl, g, q⟩ := h
  cases rx
  exact tail_any (dict_typeIs I g) PySem.F.slot_dict_getitem.lookup (d_getItem hu I g ry fun w' s' I' rw' => ⟨w, H, I', rw', q⟩) hs
theorem ix_A (hu : X.A.units + 64 < cLine) : IxR X (rIxA X.K) := IxR.or ix_str (IxR.or (ix_dict (by omega)) (IxR.or ix_list ix_tup))
theorem atI_reps {H : Hp} {ρ : List Addr} {ds : List D} {vs : List V} {i : Int} {d : D} (r : Reps H ρ ds vs) (h : atI ds i = some d) : ∃ v, atI vs i = some v ∧ Rep H ρ d v := by
  unfold atI at h ⊢
  rw [r.len] at h
  cases e : ixN vs.length i with
  | none => rw [e] at h; cases h
  | some j =>
    rw [e] at h
    exact Reps.getD r h
theorem snd_ix {K : PySem.W.Frag} : OpSnd (rIxA K) ixG := by
  intro H ρ S x y z v u Q st rx ry e k
  unfold ixG at e
  split at e
  · rename_i l i
    split at e
    · rename_i hl
      split at e
      · rename_i c ec
        cases e; cases rx; cases ry
        exact .inl ⟨_, _, c, rfl, rfl, by rw [str_len]; exact sz6 hl, by simpa using ec, k.now st rfl⟩
      · cases e
    · cases e
  · split at e
    · rename_i ks ds q e1 e2
      obtain ⟨a, vs, rfl, h1, l, r1⟩ := asDct_rep st rx e1
      have ek := keyD_rep ry e2
      subst ek
      obtain ⟨w, e3, r3⟩ := lookK_rep r1 e
      exact .inr (.inl ⟨a, w, rfl, by have := DGet.k (k := q) h1; rw [e3] at this; exact this, k.now st r3⟩)
    · split at e
      · rename_i ds i ed o1 o2
        obtain ⟨a, vs, rfl, hq, rs⟩ := asQ_rep (K := K) st rx ed
        cases ry
        obtain ⟨w, e1, r1⟩ := atI_reps rs e
        rcases hq with hq | hq
        · exact .inr (.inr (.inl ⟨a, vs, i, w, rfl, rfl, hq, e1, k.now st r1⟩))
        · exact .inr (.inr (.inr ⟨a, vs, i, w, rfl, rfl, hq, e1, k.now st r1⟩))
      · cases e
theorem pd_ix (hu : X.A.units + 64 < cLine) (ha : PE X a (tE W ma)) (hb : PE X b (tE W mb)) (hs : PlainIx b := by exact fun _ _ => rfl) : PE X (.Subscript a b pos) (tE W (op2M ixG ma mb)) := PE.weak (pe_ix (ix_A hu) ha hb hs) snd_ix.tE
/-! ### slices -/
abbrev MO := DEnv → Store → Res (Option Int)
abbrev tO (W : WX) (m : MO) : TO := tG W (fun _ _ a b => a = b) m
theorem PO.weak {X : Cx} {e : Option Expr} {t t' : TO} (h : PO X e t) (hw : ∀ σ H Q, t' σ H Q → t σ H Q) : PO X e t' := ⟨fun pins s σ H Q I q => h.run pins s σ H Q I (hw _ _ _ q)⟩
def noO : MO := fun _ S => .ok none S
def asI : D → Option Int
  | .int i => some i
  | _ => none
def soO (ma : ME) : MO := fun δ S => (ma δ S).bind fun x S1 => match asI x with
  | some i => .ok (some i) S1
  | none => .stuck
theorem po_dno : PO X none (tO W noO) := PO.weak po_none fun σ H Q h => by
  obtain ⟨δ, S, ρ, I, h⟩ := h
  exact RunG.ok h I.st rfl
theorem po_dso (ha : PE X a (tE W ma)) : PO X (some a) (tO W (soO ma)) := PO.weak (po_some ha) fun σ H Q h => by
  obtain ⟨δ, S, ρ, I, h⟩ := h
  refine bindG I h fun x v S1 H1 ρ1 n1 I1 r1 h1 => ?_
  split at h1
  · rename_i i e
    cases x with
    | int j => cases e; cases r1; exact ⟨i, rfl, RunG.ok h1 I1.st rfl⟩
    | _ => cases e
  · exact False.elim h1
def cutL {α : Type} (xs : List α) (lo hi : Option Int) : List α := (xs.drop (HT.sIx xs.length 0 lo)).take (HT.sIx xs.length xs.length hi - HT.sIx xs.length 0 lo)
def slG (S : Store) (x : D) (lo hi : Option Int) : Option D := match x with
  | .str l => if l.length ≤ 1000000 then some (.str (cutL l lo hi)) else none
  | .tup ds => some (.tup (cutL ds lo hi))
  | x => match asL S x with
    | some ds => some (.lst (cutL ds lo hi))
    | none => none
def slM (ma : ME) (ml mh : MO) : ME := fun δ S => (ma δ S).bind fun x S1 => (ml δ S1).bind fun lo S2 => (mh δ S2).bind fun hi S3 => RO (slG S3 x lo hi) S3
def rSlD (K : PySem.W.Frag) : V → Option Int → Option Int → Hp → VK → Prop := fun x lo hi H Q => rSlS x lo hi H Q ∨ (rSlL K x lo hi H Q ∨ L2.rSlA K x lo hi H Q)
theorem sl_D : SlR X (rSlD X.K) := SlR.or sl_str (SlR.or sl_list sl_tupA)
theorem cutL_reps {H : Hp} {ρ : List Addr} {ds : List D} {vs : List V} (r : Reps H ρ ds vs) (lo hi : Option Int) : Reps H ρ (cutL ds lo hi) (cutV vs lo hi) := by
  unfold cutL cutV
  rw [r.len]
  exact (r.drop _).take _
theorem cut_str (l : List Nat) (lo hi : Option Int) : cutS ⟨l.toArray⟩ lo hi = ⟨(cutL l lo hi).toArray⟩ := by
  unfold cutS cutL
  rw [str_len]
theorem cutV_whole {vs : List V} {lo hi : Option Int} (h : HT.sIx vs.length 0 lo = 0 ∧ HT.sIx vs.length vs.length hi = vs.length) : cutV vs lo hi = vs := by
  unfold cutV
  rw [h.1, h.2]
  simp
theorem pd_sl {p2 : Pos} {lo hi : Option Expr} {ml mh : MO} (ha : PE X a (tE W ma)) (hl : PO X lo (tO W ml)) (hh : PO X hi (tO W mh)) : PE X (.Subscript a (.Slice lo hi none p2) pos) (tE W (slM ma ml mh)) := by
  refine PE.weak (pe_slice sl_D ha hl hh) fun σ H Q h => ?_
  obtain ⟨δ, S, ρ, I, h⟩ := h
  refine bindG I h fun x v S1 H1 ρ1 n1 I1 r1 h1 => ?_
  refine bindG I1 h1 fun lo' lo S2 H2 ρ2 n2 I2 e1 h2 => ?_
  refine bindG I2 h2 fun hi' hi S3 H3 ρ3 n3 I3 e2 h3 => ?_
  subst e1 e2
  obtain ⟨z, e, k⟩ := h3.ro
  have rx := Rep.mono (n2.trans n3) _ _ r1
  have kd : KD H3 ρ3 S3 z Q := fun w H' n st r => k w H' ρ3 n st r
  unfold slG at e
  split at e
  · rename_i l
    split at e
    · rename_i hl
      cases e
      cases rx
      refine .inl ⟨_, rfl, by rw [str_len]; exact sz6 hl, ?_⟩
      rw [cut_str]
      exact kd.now I3.st rfl
    · cases e
  · rename_i ds
    cases e
    obtain ⟨a', vs, rfl, h1', na, rs⟩ := rx
    refine .inr (.inr ⟨a', vs, rfl, .inl (.inl h1'), fun hw => ?_, fun hw p hp => ?_⟩)
    · have := cutL_reps rs lo' hi'
      rw [cutV_whole hw] at this
      exact kd.now I3.st ⟨a', vs, rfl, h1', na, this⟩
    · exact KD.tup kd I3.st (cutL_reps rs lo' hi') hp
  · split at e
    · rename_i ds ed
      cases e
      obtain ⟨a', vs, rfl, h1', rs⟩ := asL_rep I3.st rx ed
      exact .inr (.inl ⟨a', vs, rfl, .inl (.inl h1'), fun p hp => KD.lst kd I3.st (cutL_reps rs lo' hi') hp⟩)
    · cases e
end
end SL

/-! SL: calls of built-ins, of methods of texts, of own defs. -/
namespace SL
open PySem PySem.Spec L2
open PyProof.Rows hiding St
section
variable {X : Cx} {W : WX} {a b c e o : Expr} {es rest : List Expr} {ma mb mc me mo : ME} {ms : MA} {p pos apos cpos : Pos} {x : Str}
theorem CaSnd.tE {r : List V → Hp → VK → Prop} {g : Store → List D → Option D} (s : CaSnd r g) (σ : St) (H : Hp) (Q : VK) (h : tE W (callG g ms) σ H Q) : tCB r (tA W ms) σ H Q := by
  obtain ⟨δ, S, ρ, I, h⟩ := h
  refine bindG I h fun xs vs S1 H1 ρ1 n1 I1 r1 h1 => ?_
  obtain ⟨z, e, k⟩ := h1.ro
  exact s H1 ρ1 S1 xs z vs Q I1.st r1 e fun w H' n st r => k w H' ρ1 n st r
theorem pd_callB {id : String} {r : List V → Hp → VK → Prop} {g : Store → List D → Option D} (hc : CallR X (.builtin id) r) (s : CaSnd r g) (hm : X.mg x = none) (ha : PA X (e :: es) (tA W ms)) (hg : Gl X x := by rfl) (hv : bootBuiltins x = some (.builtin id) := by decide +kernel)
    (hn : x ≠ "__name__" := by decide) (hdb : (x == ("__debug__" : Str)) = false := by decide)
    (he : starEach (e :: es) X.env = (false, eval e X.env) :: starEach es X.env := by rfl) (hpl : (backTo pos (starEach es X.env)).any (·.1) = false := by rfl) : PE X (.Call (.Name x p) (e :: es) [] pos) (tE W (callG g ms)) :=
  PE.weak (pe_callB hc hg hm hv ha hn hdb he hpl) s.tE
theorem pd_callTy {T : String} {r : List V → Hp → VK → Prop} {g : Store → List D → Option D} (hc : CallR X (.type T) r) (s : CaSnd r g) (hm : X.mg x = none) (ha : PA X (e :: es) (tA W ms)) (hg : Gl X x := by rfl) (hv : bootBuiltins x = some (.type T) := by decide +kernel)
    (hn : x ≠ "__name__" := by decide) (hdb : (x == ("__debug__" : Str)) = false := by decide)
    (he : starEach (e :: es) X.env = (false, eval e X.env) :: starEach es X.env := by rfl) (hpl : (backTo pos (starEach es X.env)).any (·.1) = false := by rfl) : PE X (.Call (.Name x p) (e :: es) [] pos) (tE W (callG g ms)) :=
  PE.weak (pe_callTy hc hg hm hv ha hn hdb he hpl) s.tE
/-! ### len -/
def lenN (S : Store) (x : D) : Option Nat := match x with
  | .str l => if l.length ≤ 1000000 then some l.length else none
  | .tup ds => some ds.length
  | x => match asL S x with
    | some ds => some ds.length
    | none => match asDct S x with
      | some (ks, _) => some ks.length
      | none => none
def lenG (S : Store) (xs : List D) : Option D := match xs with
  | [x] => match lenN S x with
    | some n => some (.int n)
    | none => none
  | _ => none
def rLenA (K : PySem.W.Frag) : List V → Hp → VK → Prop := fun xs H Q => (∃ x n, xs = [x] ∧ LenV K x H n ∧ Q (.int n) H) ∨ (∃ a kvs, xs = [.ref a] ∧ H a = some (.dK kvs) ∧ Q (.int (kvs.length : Nat)) H)
theorem call_lenA : CallR X (.builtin "len") (rLenA X.K) := CallR.or call_len (fun pins s σ H xs us Q I r h => by
  obtain ⟨a, kvs, e1, e2, q⟩ := h
  exact call_lenD pins s σ H xs us Q I r ⟨a, kvs, e1, e2, q⟩)
theorem zip_len {ks : List Key} {vs : List V} (h : ks.length = vs.length) : (ks.zip vs).length = ks.length := by
  rw [List.length_zip, h, Nat.min_self]
theorem snd_len {K : PySem.W.Frag} : CaSnd (rLenA K) lenG := by
  intro H ρ S xs z vs Q st rs e k
  unfold lenG at e
  split at e
  · rename_i x
    obtain ⟨v, us, rfl, rx, ru⟩ := rs
    cases ru
    split at e
    · rename_i n en
      cases e
      unfold lenN at en
      split at en
      · split at en
        · rename_i hl
          cases en; cases rx
          exact .inl ⟨_, _, rfl, ⟨by rw [str_len]; exact sz6 hl, by rw [str_len]⟩, k.now st rfl⟩
        · cases en
      · cases en
        obtain ⟨a, vs, rfl, h1, _, r1⟩ := rx
        exact .inl ⟨_, _, rfl, .inr ⟨vs, .inl (.inl h1), r1.len⟩, k.now st rfl⟩
      · split at en
        · rename_i ds ed
          cases en
          obtain ⟨a, vs, rfl, h1, r1⟩ := asL_rep st rx ed
          exact .inl ⟨_, _, rfl, .inl ⟨vs, .inl (.inl h1), r1.len⟩, k.now st rfl⟩
        · split at en
          · rename_i ks ds ed
            cases en
            obtain ⟨a, vs, rfl, h1, l, r1⟩ := asDct_rep st rx ed
            refine .inr ⟨a, _, rfl, h1, ?_⟩
            rw [zip_len (by rw [l, r1.len])]
            exact k.now st rfl
          · cases en
    · cases e
  · cases e
/-! ### int(..), str(..), list(..), tuple(..), all, any, sum, min, max -/
def intG (_ : Store) (xs : List D) : Option D := match xs with
  | [.int i] => some (.int i)
  | [.bl b] => some (.int (if b then 1 else 0))
  | [.str l] => if l.length ≤ 640 then (match PySem.intText? ⟨l.toArray⟩ with
      | some n => some (.int n)
      | none => none) else none
  | _ => none
def rIntA : List V → Hp → VK → Prop := fun xs H Q => ((∃ i, xs = [.int i] ∧ Q (.int i) H) ∨ ∃ k, xs = [.bl k] ∧ Q (.int (if k then 1 else 0)) H) ∨ (∃ a n, xs = [.str a] ∧ PySem.intText? a = some n ∧ a.length ≤ 640 ∧ Q (.int n) H)
theorem call_intA : CallR X (.type "int") rIntA := CallR.or call_int1 call_int_str
theorem snd_int : CaSnd rIntA intG := by
  intro H ρ S xs z vs Q st rs e k
  unfold intG at e
  split at e
  · obtain ⟨v, us, rfl, rx, ru⟩ := rs
    cases ru; cases e; cases rx
    exact .inl (.inl ⟨_, rfl, k.now st rfl⟩)
  · obtain ⟨v, us, rfl, rx, ru⟩ := rs
    cases ru; cases e; cases rx
    exact .inl (.inr ⟨_, rfl, k.now st rfl⟩)
  · obtain ⟨v, us, rfl, rx, ru⟩ := rs
    split at e
    · rename_i hl
      split at e
      · rename_i n en
        cases ru; cases e; cases rx
        exact .inr ⟨_, n, rfl, en, by rw [str_len]; exact hl, k.now st rfl⟩
      · cases e
    · cases e
  · cases e
/-- an int's text -/
def strI (i : Int) : List Nat := (Str.ofString (toString i)).cps.toList
def strG (_ : Store) (xs : List D) : Option D := match xs with
  | [.int i] => if i.natAbs.log2 < 1920 then some (.str (strI i)) else none
  | _ => none
theorem snd_str : CaSnd (fun xs H Q => ∃ i, xs = [.int i] ∧ i.natAbs.log2 < 1920 ∧ Q (.str (toString i)) H) strG := by
  intro H ρ S xs z vs Q st rs e k
  unfold strG at e
  split at e
  · obtain ⟨v, us, rfl, rx, ru⟩ := rs
    split at e
    · rename_i hl
      cases ru; cases e; cases rx
      exact ⟨_, rfl, hl, k.now st rfl⟩
    · cases e
  · cases e
def listG (S : Store) (xs : List D) : Option D := match xs with
  | [x] => match asQ S x with
    | some ds => some (.lst ds)
    | none => none
  | _ => none
def tupleG (S : Store) (xs : List D) : Option D := match xs with
  | [.tup ds] => some (.tup ds)
  | [x] => match asL S x with
    | some ds => some (.tup ds)
    | none => none
  | _ => none
theorem snd_list {K : PySem.W.Frag} : CaSnd (fun xs H Q => ∃ p ys, xs = [.ref p] ∧ (SqL K H p ys ∨ SqT K H p ys) ∧ ∀ l, H l = none → Q (.ref l) (upd H l (.lst ys))) listG := by
  intro H ρ S xs z vs Q st rs e k
  unfold listG at e
  split at e
  · obtain ⟨v, us, rfl, rx, ru⟩ := rs
    split at e
    · rename_i ds ed
      cases ru; cases e
      obtain ⟨a, vs, rfl, hq, r1⟩ := asQ_rep (K := K) st rx ed
      exact ⟨a, vs, rfl, hq, fun l hl => KD.lst k st r1 hl⟩
    · cases e
  · cases e
theorem snd_tuple {K : PySem.W.Frag} : CaSnd (fun xs H Q => ∃ p ys, xs = [.ref p] ∧ ((SqL K H p ys ∧ ∀ l, H l = none → Q (.ref l) (upd H l (.tup ys))) ∨ (SqT K H p ys ∧ Q (.ref p) H))) tupleG := by
  intro H ρ S xs z vs Q st rs e k
  unfold tupleG at e
  split at e
  · obtain ⟨v, us, rfl, rx, ru⟩ := rs
    cases ru; cases e
    obtain ⟨a, vs, rfl, h1, na, r1⟩ := rx
    exact ⟨a, vs, rfl, .inr ⟨.inl (.inl h1), k.now st ⟨a, vs, rfl, h1, na, r1⟩⟩⟩
  · obtain ⟨v, us, rfl, rx, ru⟩ := rs
    split at e
    · rename_i ds ed
      cases ru; cases e
      obtain ⟨a, vs, rfl, h1, r1⟩ := asL_rep st rx ed
      exact ⟨a, vs, rfl, .inl ⟨.inl (.inl h1), fun l hl => KD.tup k st r1 hl⟩⟩
    · cases e
  · cases e
/-- a list as a new object of the store -/
def listLM (ms : MA) : ME := fun δ S => (ms δ S).bind fun xs S1 => match listG S1 xs with
  | some (.lst ds) => .ok (.loc S1.length) (S1 ++ [.lst ds])
  | _ => .stuck
theorem pd_listL (hm : X.mg x = none) (ha : PA X (e :: es) (tA W ms)) (hg : Gl X x := by rfl) (hv : bootBuiltins x = some (.type "list") := by decide +kernel)
    (hn : x ≠ "__name__" := by decide) (hdb : (x == ("__debug__" : Str)) = false := by decide)
    (he : starEach (e :: es) X.env = (false, eval e X.env) :: starEach es X.env := by rfl) (hpl : (backTo pos (starEach es X.env)).any (·.1) = false := by rfl) : PE X (.Call (.Name x p) (e :: es) [] pos) (tE W (listLM ms)) :=
  PE.weak (pe_callTy call_list_of hg hm hv ha hn hdb he hpl) fun σ H Q h => by
    obtain ⟨δ, S, ρ, I, h⟩ := h
    refine bindG I h fun xs vs S1 H1 ρ1 n1 I1 r1 h1 => ?_
    split at h1
    · rename_i ds el
      unfold listG at el
      split at el
      · obtain ⟨v, us, rfl, rx, ru⟩ := r1
        split at el
        · rename_i ds' ed
          cases ru; cases el
          obtain ⟨a, vs, rfl, hq, r1⟩ := asQ_rep (K := X.K) I1.st rx ed
          refine ⟨a, vs, rfl, hq, fun l hl => ?_⟩
          refine RunG.okN h1 (Nx.push hl) (I1.st.push hl ⟨vs, upd_same, Reps.mono (Nx.push hl) _ _ r1⟩) ⟨l, ?_, rfl⟩
          rw [← I1.st.len]
          simp
        · cases el
      · cases el
    · exact False.elim h1
def asBs : List D → Option (List Bool)
  | [] => some []
  | .bl b :: ds => match asBs ds with
    | some bs => some (b :: bs)
    | none => none
  | _ => none
def asIs : List D → Option (List Int)
  | [] => some []
  | .int b :: ds => match asIs ds with
    | some bs => some (b :: bs)
    | none => none
  | _ => none
def asSs : List D → Option (List (List Nat))
  | [] => some []
  | .str b :: ds => match asSs ds with
    | some bs => some (b :: bs)
    | none => none
  | _ => none
@[simp] theorem asBs_map (bs : List Bool) : asBs (bs.map D.bl) = some bs := by
  induction bs with
  | nil => rfl
  | cons b bs ih => simp [asBs, ih]
@[simp] theorem asIs_map (bs : List Int) : asIs (bs.map D.int) = some bs := by
  induction bs with
  | nil => rfl
  | cons b bs ih => simp [asIs, ih]
@[simp] theorem asSs_map (bs : List (List Nat)) : asSs (bs.map D.str) = some bs := by
  induction bs with
  | nil => rfl
  | cons b bs ih => simp [asSs, ih]
theorem asBs_rep {H : Hp} {ρ : List Addr} : ∀ {ds : List D} {vs : List V} {bs : List Bool}, Reps H ρ ds vs → asBs ds = some bs → vs = bs.map V.bl
  | [], vs, bs, r, h => by cases r; cases h; rfl
  | .bl b :: ds, vs, bs, r, h => by
    obtain ⟨v, us, rfl, rx, ru⟩ := r
    simp only [asBs] at h
    split at h
    · rename_i bs' e
      cases h; cases rx
      rw [asBs_rep ru e]; rfl
    · cases h
  | .non :: _, _, _, _, h => by cases h
  | .int _ :: _, _, _, _, h => by cases h
  | .str _ :: _, _, _, _, h => by cases h
  | .tup _ :: _, _, _, _, h => by cases h
  | .lst _ :: _, _, _, _, h => by cases h
  | .dct _ _ :: _, _, _, _, h => by cases h
  | .obj _ _ _ :: _, _, _, _, h => by cases h
  | .exn _ _ _ _ :: _, _, _, _, h => by cases h
  | .loc _ :: _, _, _, _, h => by cases h
  | .raw _ :: _, _, _, _, h => by cases h
theorem asIs_rep {H : Hp} {ρ : List Addr} : ∀ {ds : List D} {vs : List V} {bs : List Int}, Reps H ρ ds vs → asIs ds = some bs → vs = bs.map V.int
  | [], vs, bs, r, h => by cases r; cases h; rfl
  | .int b :: ds, vs, bs, r, h => by
    obtain ⟨v, us, rfl, rx, ru⟩ := r
    simp only [asIs] at h
    split at h
    · rename_i bs' e
      cases h; cases rx
      rw [asIs_rep ru e]; rfl
    · cases h
  | .non :: _, _, _, _, h => by cases h
  | .bl _ :: _, _, _, _, h => by cases h
  | .str _ :: _, _, _, _, h => by cases h
  | .tup _ :: _, _, _, _, h => by cases h
  | .lst _ :: _, _, _, _, h => by cases h
  | .dct _ _ :: _, _, _, _, h => by cases h
  | .obj _ _ _ :: _, _, _, _, h => by cases h
  | .exn _ _ _ _ :: _, _, _, _, h => by cases h
  | .loc _ :: _, _, _, _, h => by cases h
  | .raw _ :: _, _, _, _, h => by cases h
abbrev sOf (l : List Nat) : Str := ⟨l.toArray⟩
theorem asSs_rep {H : Hp} {ρ : List Addr} : ∀ {ds : List D} {vs : List V} {bs : List (List Nat)}, Reps H ρ ds vs → asSs ds = some bs → vs = (bs.map sOf).map V.str
  | [], vs, bs, r, h => by cases r; cases h; rfl
  | .str b :: ds, vs, bs, r, h => by
    obtain ⟨v, us, rfl, rx, ru⟩ := r
    simp only [asSs] at h
    split at h
    · rename_i bs' e
      cases h; cases rx
      rw [asSs_rep ru e]; rfl
    · cases h
  | .non :: _, _, _, _, h => by cases h
  | .bl _ :: _, _, _, _, h => by cases h
  | .int _ :: _, _, _, _, h => by cases h
  | .tup _ :: _, _, _, _, h => by cases h
  | .lst _ :: _, _, _, _, h => by cases h
  | .dct _ _ :: _, _, _, _, h => by cases h
  | .obj _ _ _ :: _, _, _, _, h => by cases h
  | .exn _ _ _ _ :: _, _, _, _, h => by cases h
  | .loc _ :: _, _, _, _, h => by cases h
  | .raw _ :: _, _, _, _, h => by cases h
def allG (S : Store) (xs : List D) : Option D := match xs with
  | [x] => match asL S x with
    | some ds => match asBs ds with
      | some bs => some (.bl (bs.all id))
      | none => none
    | none => none
  | _ => none
def anyG (S : Store) (xs : List D) : Option D := match xs with
  | [x] => match asL S x with
    | some ds => match asBs ds with
      | some bs => some (.bl (bs.any id))
      | none => none
    | none => none
  | _ => none
def sumG (S : Store) (xs : List D) : Option D := match xs with
  | [x] => match asL S x with
    | some ds => match asIs ds with
      | some bs => some (.int bs.sum)
      | none => none
    | none => none
  | _ => none
theorem snd_all {K : PySem.W.Frag} : CaSnd (rAll K) allG := by
  intro H ρ S xs z vs Q st rs e k
  unfold allG at e
  split at e
  · obtain ⟨v, us, rfl, rx, ru⟩ := rs
    split at e
    · rename_i ds ed
      split at e
      · rename_i bs eb
        cases ru; cases e
        obtain ⟨a, vs, rfl, h1, r1⟩ := asL_rep st rx ed
        have := asBs_rep r1 eb
        subst this
        exact ⟨a, bs, rfl, .inl (.inl h1), k.now st rfl⟩
      · cases e
    · cases e
  · cases e
theorem snd_any {K : PySem.W.Frag} : CaSnd (rAny K) anyG := by
  intro H ρ S xs z vs Q st rs e k
  unfold anyG at e
  split at e
  · obtain ⟨v, us, rfl, rx, ru⟩ := rs
    split at e
    · rename_i ds ed
      split at e
      · rename_i bs eb
        cases ru; cases e
        obtain ⟨a, vs, rfl, h1, r1⟩ := asL_rep st rx ed
        have := asBs_rep r1 eb
        subst this
        exact ⟨a, bs, rfl, .inl (.inl h1), k.now st rfl⟩
      · cases e
    · cases e
  · cases e
theorem snd_sum {K : PySem.W.Frag} : CaSnd (rSum K) sumG := by
  intro H ρ S xs z vs Q st rs e k
  unfold sumG at e
  split at e
  · obtain ⟨v, us, rfl, rx, ru⟩ := rs
    split at e
    · rename_i ds ed
      split at e
      · rename_i bs eb
        cases ru; cases e
        obtain ⟨a, vs, rfl, h1, r1⟩ := asL_rep st rx ed
        have := asIs_rep r1 eb
        subst this
        exact ⟨a, bs, rfl, .inl (.inl h1), k.now st rfl⟩
      · cases e
    · cases e
  · cases e
/-! ### isinstance with built-in classes -/
def tyN (S : Store) : D → Option String
  | .non => some "NoneType"
  | .bl _ => some "bool"
  | .int _ => some "int"
  | .str _ => some "str"
  | .tup _ => some "tuple"
  | .lst _ => some "list"
  | .dct _ _ => some "dict"
  | .loc n => match S[n]? with
    | some (.lst _) => some "list"
    | some (.dct _ _) => some "dict"
    | _ => none
  | _ => none
theorem tyN_rep {K : PySem.W.Frag} {H : Hp} {ρ : List Addr} {S : Store} {x : D} {v : V} {t : String} (st : StS H S ρ) (r : Rep H ρ x v) (h : tyN S x = some t) : TyX K H v (.type t) := by
  cases x with
  | non => cases h; cases r; exact .base .non
  | bl _ => cases h; cases r; exact .base (.bl _)
  | int _ => cases h; cases r; exact .base (.int _)
  | str _ => cases h; cases r; exact .base (.str _)
  | tup _ => cases h; obtain ⟨a, vs, rfl, h1, _⟩ := r; exact .base (.tup h1)
  | lst _ => cases h; obtain ⟨a, vs, rfl, h1, _⟩ := r; exact .base (.lst h1)
  | dct _ _ => cases h; obtain ⟨a, vs, rfl, h1, _⟩ := r; exact .base (.dK h1)
  | loc n =>
    obtain ⟨a, ha, rfl⟩ := r
    simp only [tyN] at h
    split at h
    · rename_i ds e
      cases h
      obtain ⟨vs, h1, _⟩ := st.cells n a _ ha e
      exact .base (.lst h1)
    · rename_i ks ds e
      cases h
      obtain ⟨vs, h1, _⟩ := st.cells n a _ ha e
      exact .base (.dK h1)
    · cases h
  | _ => cases h
/-- isinstance(x, T) -/
def isiG (f : String → Option Bool) (S : Store) (xs : List D) : Option D := match xs with
  | [x, _] => match tyN S x with
    | some t => match f t with
      | some b => some (.bl b)
      | none => none
    | none => none
  | _ => none
def f_str (t : String) : Option Bool := if t = "str" then some true else if t = "NoneType" ∨ t = "bool" ∨ t = "int" ∨ t = "tuple" ∨ t = "list" ∨ t = "dict" then some false else none
def f_int (t : String) : Option Bool := if t = "int" ∨ t = "bool" then some true else if t = "NoneType" ∨ t = "str" ∨ t = "tuple" ∨ t = "list" ∨ t = "dict" then some false else none
def f_bool (t : String) : Option Bool := if t = "bool" then some true else if t = "NoneType" ∨ t = "int" ∨ t = "str" ∨ t = "tuple" ∨ t = "list" ∨ t = "dict" then some false else none
def f_tuple (t : String) : Option Bool := if t = "tuple" then some true else if t = "NoneType" ∨ t = "bool" ∨ t = "int" ∨ t = "str" ∨ t = "list" ∨ t = "dict" then some false else none
def f_list (t : String) : Option Bool := if t = "list" then some true else if t = "NoneType" ∨ t = "bool" ∨ t = "int" ∨ t = "str" ∨ t = "tuple" ∨ t = "dict" then some false else none
def f_lt (t : String) : Option Bool := if t = "list" ∨ t = "tuple" then some true else if t = "NoneType" ∨ t = "bool" ∨ t = "int" ∨ t = "str" ∨ t = "dict" then some false else none
end
end SL

/-! SL: isinstance, methods of texts and lists. -/
namespace SL
open PySem PySem.Spec L2
open PyProof.Rows hiding St
section
variable {X : Cx} {W : WX} {a b c e o : Expr} {es rest : List Expr} {ma mb mc me mo : ME} {ms : MA} {p pos apos cpos : Pos} {x : Str}
def isTy (n t : String) : Option Bool :=
  if n = "str" then f_str t else if n = "int" then f_int t else if n = "bool" then f_bool t else if n = "tuple" then f_tuple t else if n = "list" then f_list t else none
theorem isTy_kit {n t : String} {b : Bool} (h : isTy n t = some b) : kitB t n = some b := by
  unfold isTy at h
  split at h
  · rename_i e; subst e; unfold f_str at h
    split at h
    · rename_i e; subst e; cases h; decide +kernel
    · split at h
      · rename_i e; cases h; rcases e with e | e | e | e | e | e <;> subst e <;> decide +kernel
      · cases h
  · split at h
    · rename_i e; subst e; unfold f_int at h
      split at h
      · rename_i e; cases h; rcases e with e | e <;> subst e <;> decide +kernel
      · split at h
        · rename_i e; cases h; rcases e with e | e | e | e | e <;> subst e <;> decide +kernel
        · cases h
    · split at h
      · rename_i e; subst e; unfold f_bool at h
        split at h
        · rename_i e; subst e; cases h; decide +kernel
        · split at h
          · rename_i e; cases h; rcases e with e | e | e | e | e | e <;> subst e <;> decide +kernel
          · cases h
      · split at h
        · rename_i e; subst e; unfold f_tuple at h
          split at h
          · rename_i e; subst e; cases h; decide +kernel
          · split at h
            · rename_i e; cases h; rcases e with e | e | e | e | e | e <;> subst e <;> decide +kernel
            · cases h
        · split at h
          · rename_i e; subst e; unfold f_list at h
            split at h
            · rename_i e; subst e; cases h; decide +kernel
            · split at h
              · rename_i e; cases h; rcases e with e | e | e | e | e | e <;> subst e <;> decide +kernel
              · cases h
          · cases h
def isiA (S : Store) (xs : List D) : Option D := match xs with
  | [x, .raw (.ty n)] => match tyN S x with
    | some t => match isTy n t with
      | some b => some (.bl b)
      | none => none
    | none => none
  | [x, .tup [.raw (.ty n), .raw (.ty m)]] => match tyN S x with
    | some t => match isTy n t, isTy m t with
      | some b, some c => some (.bl (b || c))
      | _, _ => none
    | none => none
  | _ => none
def rIsiA (K : PySem.W.Frag) : List V → Hp → VK → Prop := fun xs H Q => rIsi K xs H Q ∨ rIsiT K xs H Q
theorem call_isiA : CallR X (.builtin "isinstance") (rIsiA X.K) := CallR.or call_isi call_isiT
theorem snd_isi {K : PySem.W.Frag} : CaSnd (rIsiA K) isiA := by
  intro H ρ S xs z vs Q st rs e k
  unfold isiA at e
  split at e
  · obtain ⟨v, us, rfl, rx, ru⟩ := rs
    obtain ⟨u, ws, rfl, ry, rw'⟩ := ru
    cases rw'
    cases ry
    split at e
    · rename_i t et
      split at e
      · rename_i b eb
        cases e
        exact .inl ⟨v, _, _, _, b, rfl, .ty _, tyN_rep st rx et, kit_ty (isTy_kit eb), k.now st rfl⟩
      · cases e
    · cases e
  · obtain ⟨v, us, rfl, rx, ru⟩ := rs
    obtain ⟨u, ws, rfl, ry, rw'⟩ := ru
    cases rw'
    obtain ⟨tp, cs, rfl, h1, _, rc⟩ := ry
    obtain ⟨c1, cs1, rfl, rc1, rc2⟩ := rc
    obtain ⟨c2, cs2, rfl, rc3, rc4⟩ := rc2
    cases rc4; cases rc1; cases rc3
    split at e
    · rename_i t et
      split at e
      · rename_i b c eb ec
        cases e
        refine .inr ⟨v, tp, _, _, _, b || c, rfl, h1, .cons (.ty _) (.cons (.ty _) .nil), tyN_rep st rx et, ?_, k.now st rfl⟩
        refine kitAny_cons (kit_ty (isTy_kit eb)) (fun hb => kitAny_cons (kit_ty (isTy_kit ec)) (fun hc => ?_) (fun hc => ?_)) (fun hb => ?_)
        · rw [hb, hc]; rfl
        · rw [hb, hc]; rfl
        · rw [hb]; rfl
      · cases e
    · cases e
  · cases e
/-! ### methods of texts -/
def mtM (g : Store → D → List D → Option D) (mo : ME) (ms : MA) : ME := fun δ S => (mo δ S).bind fun x S1 => (ms δ S1).bind fun xs S2 => RO (g S2 x xs) S2
def isS : D → Bool
  | .str _ => true
  | _ => false
def mtS (g : Store → D → List D → Option D) (mo : ME) (ms : MA) : ME := fun δ S => (mo δ S).bind fun x S1 => if isS x = true then (ms δ S1).bind fun xs S2 => RO (g S2 x xs) S2 else .stuck
theorem isS_rep {K : PySem.W.Frag} {H : Hp} {ρ : List Addr} {d : D} {v : V} (r : Rep H ρ d v) (h : isS d = true) : tyV K "str" v H := by
  cases d with
  | str _ => cases r; rfl
  | _ => cases h
theorem pd_strm {name : Str} {id : String} {r : V → List V → Hp → VK → Prop} {g : Store → D → List D → Option D} (slot : Slot "str" name id) (hty : typeOf (.builtin id) = pure (.type "method_descriptor")) (hm : MtR X id r) (s : MtSnd r g) (ho : PE X o (tE W mo)) (ha : PA X (e :: es) (tA W ms))
    (hbase : attributeBase o name X.env (eval o X.env) = eval o X.env := by rfl)
    (hfew : ((backTo cpos (starEach (e :: es) X.env)).all (fun x => !x.1) && (backToKw cpos (keywordEach [] X.env)).all (fun x => x.1.isSome)
      && decide ((e :: es).length + ([] : List Keyword).length + (if ([] : List Keyword).isEmpty then 0 else 1) < 30)) = true := by rfl)
    (hline : (apos.endLine == cpos.line) = true := by rfl) (hs : starEach (e :: es) X.env = (false, eval e X.env) :: starEach es X.env := by rfl) (hplain : (backTo cpos (starEach es X.env)).any (·.1) = false := by rfl) :
    PE X (.Call (.Attribute o name apos) (e :: es) [] cpos) (tE W (mtS g mo ms)) := by
  refine PE.weak (pe_bm PySem.F.plainAttrs_str slot hty hm ho ha hbase hfew hline hs hplain) fun σ H Q h => ?_
  obtain ⟨δ, S, ρ, I, h⟩ := h
  refine bindG I h fun x v S1 H1 ρ1 n1 I1 r1 h1 => ?_
  split at h1
  · rename_i hx
    refine ⟨isS_rep r1 hx, ?_⟩
    refine bindG I1 h1 fun xs vs S2 H2 ρ2 n2 I2 r2 h2 => ?_
    obtain ⟨z, e, k⟩ := h2.ro
    exact s H2 ρ2 S2 x xs z v vs Q I2.st (Rep.mono n2 _ _ r1) r2 e fun w H' n st r => k w H' ρ2 n st r
  · exact False.elim h1
theorem pd_strm0 {name : Str} {id : String} {r : V → List V → Hp → VK → Prop} {g : Store → D → List D → Option D} (slot : Slot "str" name id) (hty : typeOf (.builtin id) = pure (.type "method_descriptor")) (hm : MtR X id r) (s : MtSnd r g) (ho : PE X o (tE W mo))
    (hbase : attributeBase o name X.env (eval o X.env) = eval o X.env := by rfl) (hline : (apos.endLine == cpos.line) = true := by rfl) :
    PE X (.Call (.Attribute o name apos) [] [] cpos) (tE W (mtS g mo nilM)) := by
  refine PE.weak (pe_bm0 PySem.F.plainAttrs_str slot hty hm ho hbase hline) fun σ H Q h => ?_
  obtain ⟨δ, S, ρ, I, h⟩ := h
  refine bindG I h fun x v S1 H1 ρ1 n1 I1 r1 h1 => ?_
  split at h1
  · rename_i hx
    refine ⟨isS_rep r1 hx, ?_⟩
    obtain ⟨z, e, k⟩ := h1.ro
    exact s H1 ρ1 S1 x [] z v [] Q I1.st r1 Reps.nil e fun w H' n st r => k w H' ρ1 n st r
  · exact False.elim h1
def upL (c : Nat) : Nat := if 97 ≤ c ∧ c ≤ 122 then c - 32 else c
def loL (c : Nat) : Nat := if 65 ≤ c ∧ c ≤ 90 then c + 32 else c
def asc (l : List Nat) : Bool := l.all fun c => decide (c < 128)
theorem asc_lt {l : List Nat} (h : asc l = true) : ∀ c ∈ l, c < 128 := fun c hc => of_decide_eq_true (List.all_eq_true.mp h c hc)
def upperG (_ : Store) (x : D) (xs : List D) : Option D := match x, xs with
  | .str l, [] => if asc l = true ∧ l.length ≤ 1000000 then some (.str (l.map upL)) else none
  | _, _ => none
def lowerG (_ : Store) (x : D) (xs : List D) : Option D := match x, xs with
  | .str l, [] => if asc l = true ∧ l.length ≤ 1000000 then some (.str (l.map loL)) else none
  | _, _ => none
theorem snd_upper : MtSnd (fun x xs H Q => ∃ a, x = .str a ∧ xs = [] ∧ a.length ≤ 5592405 ∧ Q (.str (Txt.upper a)) H) upperG := by
  intro H ρ S x xs z v vs Q st rx rs e k
  unfold upperG at e
  split at e
  · rename_i l
    split at e
    · rename_i h
      cases e; cases rx; cases rs
      refine ⟨_, rfl, rfl, by rw [str_len]; omega, ?_⟩
      have : Txt.upper (⟨l.toArray⟩ : Str) = ⟨(l.map upL).toArray⟩ := by
        rw [PyProof.Rows.upper_ascii (by simpa using asc_lt h.1)]
        simp
        exact fun _ _ => rfl
      rw [this]
      exact k.now st rfl
    · cases e
  · cases e
theorem snd_lower : MtSnd (fun x xs H Q => ∃ a, x = .str a ∧ xs = [] ∧ a.length ≤ 5592405 ∧ Q (.str (Txt.lower a)) H) lowerG := by
  intro H ρ S x xs z v vs Q st rx rs e k
  unfold lowerG at e
  split at e
  · rename_i l
    split at e
    · rename_i h
      cases e; cases rx; cases rs
      refine ⟨_, rfl, rfl, by rw [str_len]; omega, ?_⟩
      have : Txt.lower (⟨l.toArray⟩ : Str) = ⟨(l.map loL).toArray⟩ := by
        rw [PyProof.Rows.lower_ascii (by simpa using asc_lt h.1)]
        simp
        exact fun _ _ => rfl
      rw [this]
      exact k.now st rfl
    · cases e
  · cases e
/-- texts glued -/
def joinL (s : List Nat) : List (List Nat) → List Nat
  | [] => []
  | [x] => x
  | x :: y :: r => x ++ s ++ joinL s (y :: r)
theorem glue_fold (s : List Nat) : ∀ (r : List (List Nat)) (acc : List Nat), (((r.map sOf).foldl (fun acc p => acc ++ (sOf s).cps ++ p.cps) acc.toArray).toList) = acc ++ (r.map (fun x => s ++ x)).flatten
  | [], acc => by simp
  | x :: r, acc => by
    rw [List.map_cons, List.foldl_cons]
    have : acc.toArray ++ (sOf s).cps ++ (sOf x).cps = (acc ++ s ++ x).toArray := by simp [sOf]
    rw [this, glue_fold s r]
    simp
theorem joinL_eq (s : List Nat) : ∀ (r : List (List Nat)) (x : List Nat), joinL s (x :: r) = x ++ (r.map (fun x => s ++ x)).flatten
  | [], x => by simp [joinL]
  | y :: r, x => by
    rw [joinL, joinL_eq s r y]
    simp
theorem join_eq (s : List Nat) (ls : List (List Nat)) : Txt.join (sOf s) (ls.map sOf) = sOf (joinL s ls) := by
  show (⟨((ls.map sOf).drop 1).foldl (fun acc p => acc ++ (sOf s).cps ++ p.cps) ((ls.map sOf).headD Str.empty).cps⟩ : Str) = _
  cases ls with
  | nil => rfl
  | cons x r =>
    have := glue_fold s r x
    congr 1
    apply Array.toList_inj.mp
    rw [List.map_cons, List.drop_succ_cons, List.drop_zero, List.headD_cons]
    show (List.foldl _ (x.toArray) _).toList = _
    rw [this, joinL_eq]
def joinG (S : Store) (x : D) (xs : List D) : Option D := match x, xs with
  | .str s, [y] => match asQ S y with
    | some ds => match asSs ds with
      | some ls => if (ls.map List.length).sum + ls.length * s.length ≤ 1000000 then some (.str (joinL s ls)) else none
      | none => none
    | none => none
  | _, _ => none
theorem snd_join {K : PySem.W.Frag} : MtSnd (fun x xs H Q => ∃ a p, ∃ ys : List Str, x = .str a ∧ xs = [.ref p] ∧ (SqL K H p (ys.map V.str) ∨ SqT K H p (ys.map V.str)) ∧
    (ys.map (·.length)).sum + ys.length * a.length ≤ 16777216 ∧ Q (.str (Txt.join a ys)) H) joinG := by
  intro H ρ S x xs z v vs Q st rx rs e k
  unfold joinG at e
  split at e
  · rename_i s y
    split at e
    · rename_i ds ed
      split at e
      · rename_i ls el
        split at e
        · rename_i hl
          cases e; cases rx
          obtain ⟨u, us, rfl, ry, ru⟩ := rs
          cases ru
          obtain ⟨a, ws, rfl, hq, r1⟩ := asQ_rep (K := K) st ry ed
          have := asSs_rep r1 el
          subst this
          refine ⟨_, a, ls.map sOf, rfl, rfl, hq, ?_, ?_⟩
          · have e1 : (ls.map sOf).map (·.length) = ls.map List.length := by
              rw [List.map_map]
              apply List.map_congr_left
              intro l _
              exact str_len l
            rw [e1, List.length_map, str_len]
            omega
          · rw [show (⟨s.toArray⟩ : Str) = sOf s from rfl, join_eq]
            exact k.now st rfl
        · cases e
      · cases e
    · cases e
  · cases e
end
end SL

/-! SL: statements, loops. -/
namespace SL
open PySem PySem.Spec L2
open PyProof.Rows hiding St
inductive Flw where
  | nx (δ : DEnv) (S : Store) | rt (d : D) (S : Store) | bk (δ : DEnv) (S : Store) | ct (δ : DEnv) (S : Store) | exc (x : Ex) (δ : DEnv) (S : Store) | stuck
abbrev MS := DEnv → Store → Flw
def bindS {α : Type} (r : Res α) (δ : DEnv) (k : α → Store → Flw) : Flw := match r with
  | .ok a S => k a S
  | .exc x S => .exc x δ S
  | .stuck => .stuck
@[simp] theorem bindS_ok {α : Type} (a : α) (S : Store) (δ : DEnv) (k : α → Store → Flw) : bindS (.ok a S) δ k = k a S := rfl
@[simp] theorem bindS_exc {α : Type} (x : Ex) (S : Store) (δ : DEnv) (k : α → Store → Flw) : bindS (.exc x S) δ k = .exc x δ S := rfl
@[simp] theorem bindS_stuck {α : Type} (δ : DEnv) (k : α → Store → Flw) : bindS .stuck δ k = .stuck := rfl
section
variable (W : WX) (G : Ends)
def RunF (H : Hp) (ρ : List Addr) (r : Flw) : Prop := match r with
  | .nx δ' S' => ∀ σ' H' ρ', Nx H ρ H' ρ' → StE σ' H' δ' S' ρ' → G.nx σ' H'
  | .bk δ' S' => ∀ σ' H' ρ', Nx H ρ H' ρ' → StE σ' H' δ' S' ρ' → G.bk σ' H'
  | .ct δ' S' => ∀ σ' H' ρ', Nx H ρ H' ρ' → StE σ' H' δ' S' ρ' → G.ct σ' H'
  | .rt d S' => ∀ v H' ρ', Nx H ρ H' ρ' → StS H' S' ρ' → Rep H' ρ' d v → G.rt v H'
  | .exc x δ' S' => ∀ c dd σ' H' ρ', Nx H ρ H' ρ' → StE σ' H' δ' S' ρ' → RepX H' ρ' x c dd → W c dd σ' H'
  | .stuck => False
end
def tS (W : WX) (m : MS) : TS := fun G σ H => ∃ δ S ρ, StE σ H δ S ρ ∧ RunF W G H ρ (m δ S)
section
variable {X : Cx} {W : WX} {G : Ends} {H H1 : Hp} {ρ ρ1 : List Addr} {σ : St} {δ : DEnv} {S : Store} {α β : Type} {R : Hp → List Addr → α → β → Prop}
theorem RunF.mono {r : Flw} (n : Nx H ρ H1 ρ1) (h : RunF W G H ρ r) : RunF W G H1 ρ1 r := by
  cases r with
  | nx δ S => exact fun σ' H' ρ' n' st => h σ' H' ρ' (n.trans n') st
  | bk δ S => exact fun σ' H' ρ' n' st => h σ' H' ρ' (n.trans n') st
  | ct δ S => exact fun σ' H' ρ' n' st => h σ' H' ρ' (n.trans n') st
  | rt d S => exact fun v H' ρ' n' st r => h v H' ρ' (n.trans n') st r
  | exc x δ S => exact fun c dd σ' H' ρ' n' st r => h c dd σ' H' ρ' (n.trans n') st r
  | stuck => exact h
theorem bindGF {m1 : DEnv → Store → Res α} {k : α → Store → Flw} {P : β → Hp → Prop} (I : StE σ H δ S ρ) (h : RunF W G H ρ (bindS (m1 δ S) δ k))
    (hk : ∀ a b S1 H1 ρ1, Nx H ρ H1 ρ1 → StE σ H1 δ S1 ρ1 → R H1 ρ1 a b → RunF W G H1 ρ1 (k a S1) → P b H1) : tG W R m1 σ H P := by
  refine ⟨δ, S, ρ, I, ?_⟩
  cases e : m1 δ S with
  | ok a S1 =>
    rw [e] at h
    intro b H1 ρ1 n st r
    exact hk a b S1 H1 ρ1 n (I.next n st) r (h.mono n)
  | exc x S1 =>
    rw [e] at h
    exact fun c dd H' ρ' n st r => h c dd σ H' ρ' n (I.next n st) r
  | stuck =>
    rw [e] at h
    exact h
/-! ### simple statements -/
def asgM (i : Nat) (me : ME) : MS := fun δ S => bindS (me δ S) δ fun d S1 => .nx (δ.set i (some d)) S1
def retM (me : ME) : MS := fun δ S => bindS (me δ S) δ fun d S1 => .rt d S1
def retN : MS := fun _ S => .rt .non S
def exprM (me : ME) : MS := fun δ S => bindS (me δ S) δ fun _ S1 => .nx δ S1
def ifSM (nc : MB) (m1 m2 : MS) : MS := fun δ S => bindS (nc δ S) δ fun c S1 => if c = true then m1 δ S1 else m2 δ S1
def seqM (m1 m2 : MS) : MS := fun δ S => match m1 δ S with
  | .nx δ1 S1 => m2 δ1 S1
  | r => r
def nxM : MS := fun δ S => .nx δ S
def bkM : MS := fun δ S => .bk δ S
def ctM : MS := fun δ S => .ct δ S
variable {st : Stmt} {rest sa sb : List Stmt} {e c : Expr} {es : List Expr} {me mb : ME} {nc : MB} {m1 m2 : MS} {pos pos' : Pos}
theorem pss_dnil : PSs X [] (tS W nxM) := PSs.weak pss_nil fun G σ H h => by
  obtain ⟨δ, S, ρ, I, h⟩ := h
  exact h σ H ρ (Nx.refl _ _) I
theorem pss_dcons (h1 : PS X st (tS W m1)) (h2 : PSs X rest (tS W m2)) : PSs X (st :: rest) (tS W (seqM m1 m2)) := PSs.weak (pss_cons h1 h2) fun G σ H h => by
  obtain ⟨δ, S, ρ, I, h⟩ := h
  refine ⟨δ, S, ρ, I, ?_⟩
  unfold seqM at h
  cases e : m1 δ S with
  | nx δ1 S1 =>
    rw [e] at h
    exact fun σ' H' ρ' n st => ⟨δ1, S1, ρ', st, h.mono n⟩
  | bk δ S => rw [e] at h; exact h
  | ct δ S => rw [e] at h; exact h
  | rt d S => rw [e] at h; exact h
  | exc x δ S => rw [e] at h; exact h
  | stuck => rw [e] at h; exact h
theorem pss_done (h1 : PS X st (tS W m1)) : PSs X [st] (tS W m1) := pss_one h1
theorem ps_dset {i : Nat} {x : Str} (hN : X.N.Nodup) (hi : X.N[i]? = some x) (hx : Loc X.env.scope x) (he : PE X e (tE W me)) (hs : swapsWith e (some (.Name x pos')) pos.line X.env = pure false := by rfl)
    (hf : X.fn x = true ∨ X.env.scope.names.lookup x = some .local := by first | exact .inl rfl | exact .inr rfl | assumption) : PS X (.Assign [.Name x pos'] e pos) (tS W (asgM i me)) :=
  PS.weak (ps_set hN hi hx he hs hf) fun G σ H h => by
    obtain ⟨δ, S, ρ, I, h⟩ := h
    refine bindGF I h fun d v S1 H1 ρ1 n1 I1 r1 h1 => ?_
    exact h1 _ H1 ρ1 (Nx.refl _ _) ⟨I1.st, I1.env.set i r1⟩
theorem ps_dret (he : PE X e (tE W me)) : PS X (.Return (some e) pos) (tS W (retM me)) := PS.weak (ps_ret he) fun G σ H h => by
  obtain ⟨δ, S, ρ, I, h⟩ := h
  refine bindGF I h fun d v S1 H1 ρ1 n1 I1 r1 h1 => ?_
  exact h1 v H1 ρ1 (Nx.refl _ _) I1.st r1
theorem ps_dretN : PS X (.Return none pos) (tS W retN) := PS.weak ps_retN fun G σ H h => by
  obtain ⟨δ, S, ρ, I, h⟩ := h
  exact h .non H ρ (Nx.refl _ _) I.st rfl
theorem ps_dexpr (he : PE X e (tE W me)) (hs : swapsWith e none pos.line X.env = pure false := by rfl) : PS X (.Expr e pos) (tS W (exprM me)) := PS.weak (ps_expr he hs) fun G σ H h => by
  obtain ⟨δ, S, ρ, I, h⟩ := h
  refine bindGF I h fun d v S1 H1 ρ1 n1 I1 r1 h1 => ?_
  exact h1 σ H1 ρ1 (Nx.refl _ _) I1
theorem ps_dif (hc : PT X c (tT W nc)) (ha : PSs X sa (tS W m1)) (hb : PSs X sb (tS W m2)) : PS X (.If c sa sb pos) (tS W (ifSM nc m1 m2)) := PS.weak (ps_if hc ha hb) fun G σ H h => by
  obtain ⟨δ, S, ρ, I, h⟩ := h
  refine bindGF I h fun b b' S1 H1 ρ1 n1 I1 r1 h1 => ?_
  cases r1
  show if b = true then _ else _
  cases b with
  | true => rw [if_pos rfl] at h1 ⊢; exact ⟨δ, S1, ρ1, I1, h1⟩
  | false => rw [if_neg Bool.false_ne_true] at h1 ⊢; exact ⟨δ, S1, ρ1, I1, h1⟩
theorem ps_dpass : PS X (.Pass pos) (tS W nxM) := PS.weak ps_pass fun G σ H h => by
  obtain ⟨δ, S, ρ, I, h⟩ := h
  exact h σ H ρ (Nx.refl _ _) I
theorem ps_dbreak : PS X (.Break pos) (tS W bkM) := PS.weak ps_break fun G σ H h => by
  obtain ⟨δ, S, ρ, I, h⟩ := h
  exact h σ H ρ (Nx.refl _ _) I
theorem ps_dcont : PS X (.Continue pos) (tS W ctM) := PS.weak ps_continue fun G σ H h => by
  obtain ⟨δ, S, ρ, I, h⟩ := h
  exact h σ H ρ (Nx.refl _ _) I
/-! ### targets -/
inductive Tg where
  | nm (i : Nat) | tp (ts : List Tg)
mutual
def bindT : Tg → D → DEnv → Option DEnv
  | .nm i, d, δ => some (δ.set i (some d))
  | .tp ts, .tup ds, δ => bindTs ts ds δ
  | .tp _, _, _ => none
def bindTs : List Tg → List D → DEnv → Option DEnv
  | [], [], δ => some δ
  | t :: ts, d :: ds, δ => match bindT t d δ with
    | some δ1 => bindTs ts ds δ1
    | none => none
  | _, _, _ => none
end
mutual
def Tg.sl : Tg → List Nat
  | .nm i => [i]
  | .tp ts => Tg.sls ts
def Tg.sls : List Tg → List Nat
  | [] => []
  | t :: ts => t.sl ++ Tg.sls ts
end
/-- alike but at some slots -/
def Off (l : List Nat) (σ σ' : St) : Prop := σ'.length = σ.length ∧ ∀ j, j ∉ l → σ'[j]? = σ[j]?
def gD (tg : Tg) : TG := fun v σ H Q => ∃ d δ S ρ δ', StE σ H δ S ρ ∧ Rep H ρ d v ∧ bindT tg d δ = some δ' ∧ ∀ σ', StE σ' H δ' S ρ → Off tg.sl σ σ' → Q σ' H
def gsD (tgs : List Tg) : TGs := fun vs σ H Q => ∃ ds δ S ρ δ', StE σ H δ S ρ ∧ Reps H ρ ds vs ∧ bindTs tgs ds δ = some δ' ∧ ∀ σ', StE σ' H δ' S ρ → Off (Tg.sls tgs) σ σ' → Q σ' H
theorem PG.weak {tg : Expr} {t t' : TG} (h : PG X tg t) (hw : ∀ v σ H Q, t' v σ H Q → t v σ H Q) : PG X tg t' := ⟨fun pins s σ H v u Q I r q => h.run pins s σ H v u Q I r (hw _ _ _ _ q)⟩
theorem PGs.weak {tg : List Expr} {t t' : TGs} (h : PGs X tg t) (hw : ∀ v σ H Q, t' v σ H Q → t v σ H Q) : PGs X tg t' := ⟨fun pins s σ H v u Q I r q => h.run pins s σ H v u Q I r (hw _ _ _ _ q)⟩
theorem pg_dname {i : Nat} {x : Str} (hN : X.N.Nodup) (hi : X.N[i]? = some x) (hx : Loc X.env.scope x) (hf : X.fn x = true ∨ X.env.scope.names.lookup x = some .local := by first | exact .inl rfl | exact .inr rfl | assumption) : PG X (.Name x pos) (gD (.nm i)) :=
  PG.weak (pg_name hN hi hx hf) fun v σ H Q h => by
    obtain ⟨d, δ, S, ρ, δ', I, r, e, q⟩ := h
    cases e
    refine q _ ⟨I.st, I.env.set i r⟩ ⟨by simp, fun j hj => ?_⟩
    rw [List.getElem?_set_ne (fun z => hj (by simp [Tg.sl, z]))]
theorem pgs_dnil : PGs X [] (gsD []) := PGs.weak pgs_nil fun vs σ H Q h => by
  obtain ⟨ds, δ, S, ρ, δ', I, r, e, q⟩ := h
  cases ds with
  | nil =>
    cases r; cases e
    exact ⟨rfl, q σ I ⟨rfl, fun j _ => rfl⟩⟩
  | cons _ _ => cases e
theorem pgs_dcons {t : Expr} {ts : List Expr} {tg : Tg} {tgs : List Tg} (h1 : PG X t (gD tg)) (h2 : PGs X ts (gsD tgs))
    (hs : (assignEach (t :: ts) X.env).map (·.2) = assign t X.env :: (assignEach ts X.env).map (·.2) := by rfl) : PGs X (t :: ts) (gsD (tg :: tgs)) := PGs.weak (pgs_cons h1 h2 hs) fun vs σ H Q h => by
  obtain ⟨ds, δ, S, ρ, δ', I, r, e, q⟩ := h
  cases ds with
  | nil => cases e
  | cons d ds =>
    obtain ⟨v, us, rfl, r1, r2⟩ := r
    simp only [bindTs] at e
    split at e
    · rename_i δ1 e1
      refine ⟨v, us, rfl, d, δ, S, ρ, δ1, I, r1, e1, fun σ' I' o' => ⟨ds, δ1, S, ρ, δ', I', r2, e, fun σ2 I2 o2 => q σ2 I2 ⟨o2.1.trans o'.1, fun j hj => ?_⟩⟩⟩
      simp only [Tg.sls, List.mem_append, not_or] at hj
      exact (o2.2 j hj.2).trans (o'.2 j hj.1)
    · cases e
theorem bindTs_len : ∀ {tgs : List Tg} {ds : List SL.D} {δ δ' : DEnv}, bindTs tgs ds δ = some δ' → tgs.length = ds.length
  | [], [], _, _, _ => rfl
  | [], _ :: _, _, _, h => by cases h
  | _ :: _, [], _, _, h => by cases h
  | t :: ts, d :: ds, δ, δ', h => by
    simp only [bindTs] at h
    split at h
    · simp [bindTs_len h]
    · cases h
theorem pg_dtup {k : Nat} {tgs : List Tg} (hc : X.calm = true) (h : PGs X es (gsD tgs)) (hn : (assignEach es X.env).length = tgs.length := by rfl) (hst : (assignEach es X.env).findIdx? (·.1) = none := by rfl) : PG X (.Tuple es k pos) (gD (.tp tgs)) :=
  PG.weak (pg_tup (n := tgs.length) hc h hn hst) fun v σ H Q h => by
    obtain ⟨d, δ, S, ρ, δ', I, r, e, q⟩ := h
    cases d with
    | tup ds =>
      simp only [bindT] at e
      obtain ⟨a, vs, rfl, h1, n1, r1⟩ := r
      exact ⟨a, vs, rfl, .inl (.inl h1), by rw [← r1.len, bindTs_len e], ds, δ, S, ρ, δ', I, r1, e, q⟩
    | _ => simp only [bindT] at e; cases e
def asgT (tg : Tg) (me : ME) : MS := fun δ S => bindS (me δ S) δ fun d S1 => match bindT tg d δ with
  | some δ1 => .nx δ1 S1
  | none => .stuck
theorem ps_dasg {tg : Expr} {t : Tg} (he : PE X e (tE W me)) (hg : PG X tg (gD t)) (hs : swapsWithSole [tg] e pos.line X.env = pure false := by rfl) (hw : swappedStores [tg] e X.env = pure none := by rfl)
    (h1 : (assignEach [tg] X.env).map (·.2) = [assign tg X.env] := by rfl) : PS X (.Assign [tg] e pos) (tS W (asgT t me)) := PS.weak (ps_asg he hg hs hw h1) fun G σ H h => by
  obtain ⟨δ, S, ρ, I, h⟩ := h
  refine bindGF I h fun d v S1 H1 ρ1 n1 I1 r1 h1 => ?_
  split at h1
  · rename_i δ1 e1
    exact ⟨d, δ, S1, ρ1, δ1, I1, r1, e1, fun σ' I' _ => h1 σ' H1 ρ1 (Nx.refl _ _) I'⟩
  · exact False.elim h1
/-! ### while -/
def whileN (nc : MB) (b : MS) : Nat → MS
  | 0, _, _ => .stuck
  | n + 1, δ, S => bindS (nc δ S) δ fun c S1 => if c = true then (match b δ S1 with
      | .nx δ2 S2 => whileN nc b n δ2 S2
      | .ct δ2 S2 => whileN nc b n δ2 S2
      | .bk δ2 S2 => .nx δ2 S2
      | r => r) else .nx δ S1
open Classical in
noncomputable def whileM (nc : MB) (b : MS) : MS := fun δ S => if h : ∃ n, whileN nc b n δ S ≠ .stuck then whileN nc b (Classical.choose h) δ S else .stuck
theorem whileN_more {nc : MB} {b : MS} : ∀ {n : Nat} {δ : DEnv} {S : Store}, whileN nc b n δ S ≠ .stuck → ∀ m, n ≤ m → whileN nc b m δ S = whileN nc b n δ S
  | 0, _, _, h, _, _ => absurd rfl h
  | n + 1, δ, S, h, 0, hm => absurd hm (by omega)
  | n + 1, δ, S, h, m + 1, hm => by
    unfold whileN at h ⊢
    cases e : nc δ S with
    | ok c S1 =>
      rw [e] at h
      simp only [bindS_ok] at h ⊢
      cases c with
      | false => rfl
      | true =>
        simp only [if_true] at h ⊢
        cases eb : b δ S1 with
        | nx δ2 S2 => rw [eb] at h; exact whileN_more h m (by omega)
        | ct δ2 S2 => rw [eb] at h; exact whileN_more h m (by omega)
        | bk δ2 S2 => rfl
        | rt d S2 => rfl
        | exc x δ2 S2 => rfl
        | stuck => rfl
    | exc x S1 => rfl
    | stuck => rfl
theorem whileM_of {nc : MB} {b : MS} {δ : DEnv} {S : Store} (n : Nat) (h : whileN nc b n δ S ≠ .stuck) : whileM nc b δ S = whileN nc b n δ S := by
  have hx : ∃ n, whileN nc b n δ S ≠ .stuck := ⟨n, h⟩
  unfold whileM
  rw [dif_pos hx]
  have h2 := Classical.choose_spec hx
  rcases Nat.le_total n (Classical.choose hx) with l | l
  · exact whileN_more h _ l
  · exact (whileN_more h2 _ l).symm
theorem whileM_is {nc : MB} {b : MS} {δ : DEnv} {S : Store} {r : Flw} (n : Nat) (e : whileN nc b n δ S = r) (h : r ≠ .stuck) : whileM nc b δ S = r := by
  rw [whileM_of n (by rw [e]; exact h), e]
theorem ps_dwhile (hp : PassesOwn (model X.prog X.w) X.A X.env X.xe) (hc : PT X c (tT W nc)) (hb : PSs X sb (tS W m1)) : PS X (.While c sb [] pos) (tS W (whileM nc m1)) := PS.weak (ps_while hp hc hb) fun G σ H h => by
  obtain ⟨δ, S, ρ, I, h⟩ := h
  unfold whileM at h
  split at h
  · rename_i hx
    generalize Classical.choose hx = n at h
    refine ⟨fun m σ' H' => ∃ δ' S' ρ', StE σ' H' δ' S' ρ' ∧ RunF W G H' ρ' (whileN nc m1 m δ' S'), ⟨n, δ, S, ρ, I, h⟩, ?_⟩
    rintro m σ' H' ⟨δ', S', ρ', I', h'⟩
    cases m with
    | zero => exact False.elim h'
    | succ m =>
      unfold whileN at h'
      refine bindGF I' h' fun b b' S1 H1 ρ1 n1 I1 r1 h1 => ?_
      cases r1
      cases b with
      | false =>
        rw [if_neg Bool.false_ne_true] at h1 ⊢
        exact h1 σ' H1 ρ1 (Nx.refl _ _) I1
      | true =>
        rw [if_pos rfl] at h1 ⊢
        refine ⟨fun σ2 H2 => ∃ δ2 S2 ρ2, StE σ2 H2 δ2 S2 ρ2 ∧ RunF W G H2 ρ2 (whileN nc m1 m δ2 S2), fun σ2 H2 q => ⟨m, Nat.lt_succ_self m, q⟩, δ', S1, ρ1, I1, ?_⟩
        cases e : m1 δ' S1 with
        | nx δ2 S2 => rw [e] at h1; exact fun σ2 H2 ρ2 n2 st => ⟨δ2, S2, ρ2, st, h1.mono n2⟩
        | ct δ2 S2 => rw [e] at h1; exact fun σ2 H2 ρ2 n2 st => ⟨δ2, S2, ρ2, st, h1.mono n2⟩
        | bk δ2 S2 => rw [e] at h1; exact h1
        | rt d S2 => rw [e] at h1; exact h1
        | exc x δ2 S2 => rw [e] at h1; exact h1
        | stuck => rw [e] at h1; exact h1
  · exact False.elim h
end
end SL

/-! SL: for, list comprehensions; letting go of the newest of the store. -/
namespace SL
open PySem PySem.Spec L2
open PyProof.Rows hiding St
/-! ### no place of the store beyond n -/
mutual
def okD (n : Nat) : D → Bool
  | .loc m => decide (m < n)
  | .tup ds => okL n ds
  | .lst ds => okL n ds
  | .dct _ ds => okL n ds
  | .obj _ _ ds => okL n ds
  | .exn _ _ _ ds => okL n ds
  | _ => true
def okL (n : Nat) : List D → Bool
  | [] => true
  | d :: ds => okD n d && okL n ds
end
def okC (n : Nat) : Cell → Bool
  | .lst ds => okL n ds
  | .dct _ ds => okL n ds
  | .obj _ _ ds => okL n ds
section
variable {H H' H1 : Hp} {ρ ρ' t : List Addr} {S S' : Store}
mutual
theorem Rep.ok : ∀ (d : D) (v : V), Rep H ρ d v → okD ρ.length d = true
  | .non, _, _ => rfl
  | .bl _, _, _ => rfl
  | .int _, _, _ => rfl
  | .str _, _, _ => rfl
  | .raw _, _, _ => rfl
  | .loc m, v, h => by
    obtain ⟨a, e, _⟩ := h
    simp only [okD]
    exact decide_eq_true (List.getElem?_eq_some_iff.mp e).1
  | .tup ds, v, h => by
    obtain ⟨a, vs, _, _, _, h2⟩ := h
    simp only [okD]
    exact Reps.ok ds vs h2
  | .lst ds, v, h => by
    obtain ⟨a, vs, _, _, _, h2⟩ := h
    simp only [okD]
    exact Reps.ok ds vs h2
  | .dct ks ds, v, h => by
    obtain ⟨a, vs, _, _, _, _, h2⟩ := h
    simp only [okD]
    exact Reps.ok ds vs h2
  | .obj C ns ds, v, h => by
    obtain ⟨a, dx, vs, _, _, _, _, h2⟩ := h
    simp only [okD]
    exact Reps.ok ds vs h2
  | .exn a dd ns ds, v, h => by
    obtain ⟨vs, _, _, _, _, h2⟩ := h
    simp only [okD]
    exact Reps.ok ds vs h2
theorem Reps.ok : ∀ (ds : List D) (vs : List V), Reps H ρ ds vs → okL ρ.length ds = true
  | [], _, _ => rfl
  | d :: ds, vs, h => by
    obtain ⟨v, us, _, h1, h2⟩ := h
    simp only [okL, Bool.and_eq_true]
    exact ⟨Rep.ok d v h1, Reps.ok ds us h2⟩
end
mutual
theorem Rep.cut : ∀ (d : D) (v : V), Rep H (ρ ++ t) d v → okD ρ.length d = true → Rep H ρ d v
  | .non, _, h, _ => h
  | .bl _, _, h, _ => h
  | .int _, _, h, _ => h
  | .str _, _, h, _ => h
  | .raw _, _, h, _ => h
  | .loc m, v, h, k => by
    obtain ⟨a, e, h2⟩ := h
    simp only [okD] at k
    rw [List.getElem?_append_left (of_decide_eq_true k)] at e
    exact ⟨a, e, h2⟩
  | .tup ds, v, h, k => by
    obtain ⟨a, vs, h0, h1, na, h2⟩ := h
    simp only [okD] at k
    exact ⟨a, vs, h0, h1, fun z => na (List.mem_append_left _ z), Reps.cut ds vs h2 k⟩
  | .lst ds, v, h, k => by
    obtain ⟨a, vs, h0, h1, na, h2⟩ := h
    simp only [okD] at k
    exact ⟨a, vs, h0, h1, fun z => na (List.mem_append_left _ z), Reps.cut ds vs h2 k⟩
  | .dct ks ds, v, h, k => by
    obtain ⟨a, vs, h0, h1, na, l, h2⟩ := h
    simp only [okD] at k
    exact ⟨a, vs, h0, h1, fun z => na (List.mem_append_left _ z), l, Reps.cut ds vs h2 k⟩
  | .obj C ns ds, v, h, k => by
    obtain ⟨a, dx, vs, h0, h1, na, l, h2⟩ := h
    simp only [okD] at k
    exact ⟨a, dx, vs, h0, h1, fun z => na (List.mem_append_left _ z), l, Reps.cut ds vs h2 k⟩
  | .exn a dd ns ds, v, h, k => by
    obtain ⟨vs, h0, h1, na, l, h2⟩ := h
    simp only [okD] at k
    exact ⟨vs, h0, h1, fun z => na (List.mem_append_left _ z), l, Reps.cut ds vs h2 k⟩
theorem Reps.cut : ∀ (ds : List D) (vs : List V), Reps H (ρ ++ t) ds vs → okL ρ.length ds = true → Reps H ρ ds vs
  | [], _, h, _ => h
  | d :: ds, vs, h, k => by
    obtain ⟨v, us, h0, h1, h2⟩ := h
    simp only [okL, Bool.and_eq_true] at k
    exact ⟨v, us, h0, Rep.cut d v h1 k.1, Reps.cut ds us h2 k.2⟩
end
theorem RepC.ok {a : Addr} {c : Cell} (h : RepC H ρ a c) : okC ρ.length c = true := by
  cases c with
  | lst ds => obtain ⟨vs, _, h2⟩ := h; exact Reps.ok _ _ h2
  | dct ks ds => obtain ⟨vs, _, _, h2⟩ := h; exact Reps.ok _ _ h2
  | obj C ns ds => obtain ⟨dx, vs, _, _, h2⟩ := h; exact Reps.ok _ _ h2
theorem RepC.cut {a : Addr} {c : Cell} (h : RepC H (ρ ++ t) a c) (k : okC ρ.length c = true) : RepC H ρ a c := by
  cases c with
  | lst ds => obtain ⟨vs, h1, h2⟩ := h; exact ⟨vs, h1, Reps.cut _ _ h2 k⟩
  | dct ks ds => obtain ⟨vs, h1, l, h2⟩ := h; exact ⟨vs, h1, l, Reps.cut _ _ h2 k⟩
  | obj C ns ds => obtain ⟨dx, vs, h1, l, h2⟩ := h; exact ⟨dx, vs, h1, l, Reps.cut _ _ h2 k⟩
theorem StS.cellOk (st : StS H S ρ) {i : Nat} {c : Cell} (e : S[i]? = some c) : okC S.length c = true := by
  have hi : i < ρ.length := by rw [st.len]; exact (List.getElem?_eq_some_iff.mp e).1
  have := (st.cells i _ c (List.getElem?_eq_getElem hi) e).ok
  rw [st.len] at this
  exact this
/-- the elder part can stand alone -/
def Settles (S S' : Store) : Prop := ∀ i c, i < S.length → S'[i]? = some c → S[i]? = some c ∨ okC S.length c = true
theorem Settles.same : Settles S S := fun i c _ e => .inl e
theorem Settles.app {g : Store} : Settles S (S ++ g) := fun i c hi e => .inl (by rwa [List.getElem?_append_left hi] at e)
theorem StS.settle (st0 : StS H S ρ) (st : StS H' S' (ρ ++ t)) (hs : Settles S S') : StS H' (S'.take S.length) ρ := by
  have hl : S.length ≤ S'.length := by rw [← st.len, ← st0.len]; simp
  refine ⟨by rw [List.length_take, Nat.min_eq_left hl, st0.len], (List.nodup_append.mp st.nd).1, fun n a c e1 e2 => ?_⟩
  have hn : n < ρ.length := (List.getElem?_eq_some_iff.mp e1).1
  have hn' : n < S.length := by rw [← st0.len]; exact hn
  rw [List.getElem?_take_of_lt hn'] at e2
  have e1' : (ρ ++ t)[n]? = some a := by rw [List.getElem?_append_left hn]; exact e1
  refine (st.cells n a c e1' e2).cut ?_
  rw [st0.len]
  rcases hs n c hn' e2 with h | h
  · exact st0.cellOk h
  · exact h
theorem Nx.settle (n : Nx H ρ H' ρ') : Nx H ρ H' ρ := ⟨⟨[], by simp⟩, fun a h k => absurd h k, n.thr, n.stay, n.tbl⟩
end
/-! ### what is walked -/
inductive Src where
  | vals (d : D) | rng (lo c : Int) (n : Nat)
def signs (l : List Nat) : List D := l.map fun c => .str [c]
def iterD (S : Store) (d : D) : Option (List D) := match d with
  | .str l => some (signs l)
  | d => asQ S d
def items (S : Store) : Src → Option (List D)
  | .vals d => iterD S d
  | .rng lo c n => some ((List.range n).map fun (i : Nat) => .int (lo + (i : Int) * c))
def ItR (H : Hp) (ρ : List Addr) (src : Src) (J : It) : Prop := ∀ (i : Nat) (H' : Hp) (ρ' : List Addr) (S : Store) (ds : List D), Nx H ρ H' ρ' → StS H' S ρ' → items S src = some ds →
  (∀ d, ds[i]? = some d → J.go i H' ∧ ∀ x H2, J.yld i H' x H2 → Nx H' ρ' H2 ρ' ∧ StS H2 S ρ' ∧ Rep H2 ρ' d x) ∧ (ds[i]? = none → J.stop i H')
section
variable {X : Cx} {W : WX} {e tg a b c : Expr} {ma mb mc : ME} {pos p : Pos}
def srcV (ma : ME) : DEnv → Store → Res Src := fun δ S => (ma δ S).bind fun d S1 => match iterD S1 d with
  | some _ => .ok (.vals d) S1
  | none => .stuck
theorem PI.weak {iter : Expr} {t t' : TI} (h : PI X tg iter t) (hw : ∀ σ H R, t' σ H R → t σ H R) : PI X tg iter t' := ⟨fun pins s σ H R I q => h.run pins s σ H R I (hw _ _ _ q)⟩
theorem PI.or {iter : Expr} {t t' : TI} (h : PI X tg iter t) (h' : PI X tg iter t') : PI X tg iter (fun σ H R => t σ H R ∨ t' σ H R) := ⟨fun pins s σ H R I q => q.elim (h.run pins s σ H R I) (h'.run pins s σ H R I)⟩
theorem itr_str {H : Hp} {ρ : List Addr} {l : List Nat} : ItR H ρ (.vals (.str l)) (Its (sOf l)) := fun i H' ρ' S ds n st e => by
  cases e
  constructor
  · intro d hd
    simp only [signs, List.getElem?_map] at hd
    cases hc : l[i]? with
    | none => rw [hc] at hd; cases hd
    | some c =>
      rw [hc] at hd
      cases hd
      have hi : i < l.length := (List.getElem?_eq_some_iff.mp hc).1
      refine ⟨by show i < (l.toArray).size; simpa using hi, ?_⟩
      rintro x H2 ⟨rfl, c', e1, rfl⟩
      have : some c' = some c := by rw [← e1, ← hc]; show (l.toArray)[i]? = _; simp
      cases this
      exact ⟨Nx.refl _ _, st, rfl⟩
  · intro hd
    simp only [signs, List.getElem?_map, Option.map_eq_none_iff] at hd
    have := List.getElem?_eq_none_iff.mp hd
    show (l.toArray).size ≤ i
    simpa using this
theorem itr_lst {K : PySem.W.Frag} {H : Hp} {ρ : List Addr} {d : D} {a : Addr} (r : Rep H ρ d (.ref a)) (hl : ∀ S ds, asQ S d = some ds → asL S d = some ds) (hi : ∀ S ds, iterD S d = some ds → asL S d = some ds) : ItR H ρ (.vals d) (Itl K a) := fun i H' ρ' S ds n st e => by
  have ed := hi S ds e
  obtain ⟨a', vs, ea, h1, r1⟩ := asL_rep st (Rep.mono n _ _ r) ed
  cases ea
  have hs : SqL K H' a vs := .inl (.inl h1)
  constructor
  · intro d' hd
    obtain ⟨v, hv, rv⟩ := Reps.getD r1 hd
    refine ⟨⟨vs, v, hs, hv⟩, ?_⟩
    rintro x H2 ⟨rfl, f⟩
    have := (f vs hs).symm.trans hv
    cases this
    exact ⟨Nx.refl _ _, st, rv⟩
  · intro hd
    refine ⟨vs, hs, ?_⟩
    rw [← r1.len]
    exact List.getElem?_eq_none_iff.mp hd
theorem itr_tup {K : PySem.W.Frag} {H : Hp} {ρ : List Addr} {es : List D} {a : Addr} (r : Rep H ρ (.tup es) (.ref a)) : ItR H ρ (.vals (.tup es)) (Itt K a) := fun i H' ρ' S ds n st e => by
  have ed : asT (.tup es) = some ds := e
  obtain ⟨a', vs, ea, h1, r1⟩ := asT_rep (Rep.mono n _ _ r) ed
  cases ea
  have hs : SqT K H' a vs := .inl (.inl h1)
  constructor
  · intro d' hd
    obtain ⟨v, hv, rv⟩ := Reps.getD r1 hd
    refine ⟨⟨vs, v, hs, hv⟩, ?_⟩
    rintro x H2 ⟨rfl, f⟩
    have := (f vs hs).symm.trans hv
    cases this
    exact ⟨Nx.refl _ _, st, rv⟩
  · intro hd
    refine ⟨vs, hs, ?_⟩
    rw [← r1.len]
    exact List.getElem?_eq_none_iff.mp hd
/-- over a list, a tuple, a text -/
theorem pi_dvals (he : PE X e (tE W ma)) : PI X tg e (tG W ItR (srcV ma)) := PI.weak (PI.or (pi_str he) (PI.or (pi_list he) (pi_tup he))) fun σ H R h => by
  obtain ⟨δ, S, ρ, I, h⟩ := h
  unfold srcV at h
  have key : ∀ P : It → Hp → Prop, (∀ d S1, (ma δ S) = .ok d S1 → ∀ v H1 ρ1, Nx H ρ H1 ρ1 → StS H1 S1 ρ1 → Rep H1 ρ1 d v → True) → True := fun _ _ => trivial
  cases em : ma δ S with
  | stuck => rw [em] at h; exact False.elim h
  | exc x S1 =>
    rw [em] at h
    exact .inl ⟨δ, S, ρ, I, by rw [em]; exact h⟩
  | ok d S1 =>
    rw [em] at h
    simp only [bind_ok] at h
    split at h
    · rename_i ds0 e0
      cases d with
      | str l =>
        refine .inl ⟨δ, S, ρ, I, ?_⟩
        rw [em]
        intro v H1 ρ1 n st r
        cases r
        exact ⟨sOf l, rfl, h _ H1 ρ1 n st itr_str⟩
      | tup es =>
        refine .inr (.inr ⟨δ, S, ρ, I, ?_⟩)
        rw [em]
        intro v H1 ρ1 n st r
        obtain ⟨a, vs, rfl, h1, n1, r1⟩ := id r
        exact ⟨a, rfl, ⟨vs, .inl (.inl h1)⟩, h _ H1 ρ1 n st (itr_tup r)⟩
      | lst es =>
        refine .inr (.inl ⟨δ, S, ρ, I, ?_⟩)
        rw [em]
        intro v H1 ρ1 n st r
        obtain ⟨a, vs, rfl, h1, n1, r1⟩ := id r
        exact ⟨a, rfl, ⟨vs, .inl (.inl h1)⟩, h _ H1 ρ1 n st (itr_lst r (fun _ _ z => z) (fun _ _ z => z))⟩
      | loc m =>
        refine .inr (.inl ⟨δ, S, ρ, I, ?_⟩)
        rw [em]
        intro v H1 ρ1 n st r
        have hq : ∀ S ds, asQ S (.loc m) = some ds → asL S (.loc m) = some ds := fun S ds z => by
          unfold asQ at z
          split at z
          · rename_i e; cases z; exact e
          · cases z
        have e0' := hq S1 ds0 e0
        obtain ⟨a, vs, rfl, h1, r1⟩ := asL_rep st r e0'
        exact ⟨a, rfl, ⟨vs, .inl (.inl h1)⟩, h _ H1 ρ1 n st (itr_lst r hq hq)⟩
      | _ => cases e0
    · exact False.elim h
theorem itr_rng {H : Hp} {ρ : List Addr} {lo c : Int} {n : Nat} : ItR H ρ (.rng lo c n) (Itc lo c n) := fun i H' ρ' S ds nx st e => by
  cases e
  constructor
  · intro d hd
    rw [List.getElem?_map] at hd
    by_cases hi : i < n
    · rw [List.getElem?_range hi] at hd
      cases hd
      refine ⟨hi, ?_⟩
      rintro x H2 ⟨rfl, rfl⟩
      exact ⟨Nx.refl _ _, st, rfl⟩
    · rw [List.getElem?_eq_none (by simpa using hi)] at hd
      cases hd
  · intro hd
    have := List.getElem?_eq_none_iff.mp hd
    show n ≤ i
    simpa using this
def rngS (lo c : Int) (n : Nat) : Src := .rng lo c n
def src1 (ma : ME) : DEnv → Store → Res Src := fun δ S => (ma δ S).bind fun d S1 => match d with
  | .int j => if j.natAbs ≤ 1000000000 then .ok (.rng 0 1 j.toNat) S1 else .stuck
  | _ => .stuck
def src2 (ma mb : ME) : DEnv → Store → Res Src := fun δ S => (ma δ S).bind fun d S1 => (mb δ S1).bind fun e S2 => match d, e with
  | .int i, .int j => if i.natAbs ≤ 1000000000 ∧ j.natAbs ≤ 1000000000 then .ok (.rng i 1 (j - i).toNat) S2 else .stuck
  | _, _ => .stuck
theorem itr_rng1 {H : Hp} {ρ : List Addr} {lo : Int} {n : Nat} : ItR H ρ (.rng lo 1 n) (Itr lo n) := fun i H' ρ' S ds nx st e => by
  obtain ⟨h1, h2⟩ := itr_rng (H := H) (ρ := ρ) (lo := lo) (c := 1) (n := n) i H' ρ' S ds nx st e
  refine ⟨fun d hd => ?_, h2⟩
  obtain ⟨g, y⟩ := h1 d hd
  refine ⟨g, ?_⟩
  rintro x H2 ⟨rfl, rfl⟩
  exact y _ _ ⟨rfl, by rw [Int.mul_one]⟩
theorem pi_drange1 (hm : X.mg "range" = none) (ha : PE X a (tE W ma)) (hg : Gl X "range" := by rfl) (hs : starEach [a] X.env = [(false, eval a X.env)] := by rfl) (hs' : starEach (a :: []) X.env = (false, eval a X.env) :: starEach [] X.env := by rfl) : PI X tg (.Call (.Name "range" p) [a] [] pos) (tG W ItR (src1 ma)) :=
  PI.weak (pi_range1 hg hm (pd_cons ha pd_nil hs') hs) fun σ H R h => by
    obtain ⟨δ, S, ρ, I, h⟩ := h
    refine ⟨δ, S, ρ, I, ?_⟩
    unfold src1 at h
    unfold consM nilM
    cases em : ma δ S with
    | stuck => rw [em] at h; exact False.elim h
    | exc x S1 => rw [em] at h; exact h
    | ok d S1 =>
      rw [em] at h
      simp only [bind_ok] at h ⊢
      intro vs H1 ρ1 n st r
      obtain ⟨v, us, rfl, rv, ru⟩ := r
      cases ru
      split at h
      · rename_i j
        split at h
        · rename_i hj
          cases rv
          exact ⟨j, rfl, by omega, by omega, h _ H1 ρ1 n st itr_rng1⟩
        · exact False.elim h
      · exact False.elim h
theorem pi_drange2 (hm : X.mg "range" = none) (ha : PE X a (tE W ma)) (hb : PE X b (tE W mb)) (hg : Gl X "range" := by rfl) (hs : starEach [a, b] X.env = [(false, eval a X.env), (false, eval b X.env)] := by rfl) (hs2 : starEach [b] X.env = [(false, eval b X.env)] := by rfl)
    (hs' : starEach (a :: [b]) X.env = (false, eval a X.env) :: starEach [b] X.env := by rfl) (hs2' : starEach (b :: []) X.env = (false, eval b X.env) :: starEach [] X.env := by rfl) : PI X tg (.Call (.Name "range" p) [a, b] [] pos) (tG W ItR (src2 ma mb)) :=
  PI.weak (pi_range2 hg hm (pd_cons ha (pd_cons hb pd_nil hs2') hs') hs hs2) fun σ H R h => by
    obtain ⟨δ, S, ρ, I, h⟩ := h
    refine ⟨δ, S, ρ, I, ?_⟩
    unfold src2 at h
    unfold consM nilM
    cases em : ma δ S with
    | stuck => rw [em] at h; exact False.elim h
    | exc x S1 => rw [em] at h; exact h
    | ok d S1 =>
      rw [em] at h
      simp only [bind_ok] at h ⊢
      cases em2 : mb δ S1 with
      | stuck => rw [em2] at h; exact False.elim h
      | exc x S2 => rw [em2] at h; exact h
      | ok e S2 =>
        rw [em2] at h
        simp only [bind_ok] at h ⊢
        intro vs H1 ρ1 n st r
        obtain ⟨v, us, rfl, rv, ru⟩ := r
        obtain ⟨u, ws, rfl, r2, rw'⟩ := ru
        cases rw'
        split at h
        · rename_i i j
          split at h
          · rename_i hj
            cases rv
            cases r2
            exact ⟨i, j, rfl, ⟨by omega, by omega, by omega, by omega⟩, h _ H1 ρ1 n st itr_rng1⟩
          · exact False.elim h
        · exact False.elim h
/-! ### for -/
open Classical in
noncomputable def forL (src : Src) (tg : Tg) (b : MS) (ds : List D) : List D → MS
  | [], δ, S => if items S src = some ds then .nx δ S else .stuck
  | d :: r, δ, S => if items S src = some ds then (match bindT tg d δ with
      | some δ1 => match b δ1 S with
        | .nx δ2 S2 => forL src tg b ds r δ2 S2
        | .ct δ2 S2 => forL src tg b ds r δ2 S2
        | .bk δ2 S2 => .nx δ2 S2
        | o => o
      | none => .stuck) else .stuck
noncomputable def forM (mi : DEnv → Store → Res Src) (tg : Tg) (b : MS) : MS := fun δ S => bindS (mi δ S) δ fun src S1 => match items S1 src with
  | some ds => forL src tg b ds ds δ S1
  | none => .stuck
theorem ps_dfor {iter tge : Expr} {body : List Stmt} {mi : DEnv → Store → Res Src} {t : Tg} {m : MS} (hp : PassesOwn (model X.prog X.w) X.A X.env X.xe) (hc : X.calm = true) (hi : PI X tge iter (tG W ItR mi)) (hg : PG X tge (gD t)) (hb : PSs X body (tS W m))
    (hs : ∀ x, foldedSetIterable iter X.env x = pure x := by intro _; rfl) : PS X (.For tge iter body [] pos) (tS W (forM mi t m)) := PS.weak (ps_for hp hc hi hg hb hs) fun G σ H h => by
  obtain ⟨δ, S, ρ, I, h⟩ := h
  refine bindGF I h fun src J S1 H1 ρ1 n1 I1 r1 h1 => ?_
  split at h1
  · rename_i ds eds
    refine ⟨fun i k σ' H' => ∃ δ' S' ρ', StE σ' H' δ' S' ρ' ∧ Nx H1 ρ1 H' ρ' ∧ k = ds.length - i ∧ RunF W G H' ρ' (forL src t m ds (ds.drop i) δ' S'), ⟨_, δ, S1, ρ1, I1, Nx.refl _ _, rfl, by simpa using h1⟩, ?_⟩
    rintro i k σ' H' ⟨δ', S', ρ', I', n', rfl, h'⟩
    cases ed : ds[i]? with
    | none =>
      have hd : ds.drop i = [] := List.drop_eq_nil_of_le (List.getElem?_eq_none_iff.mp ed)
      rw [hd] at h'
      unfold forL at h'
      split at h'
      · rename_i ei
        obtain ⟨_, f⟩ := r1 i H' ρ' S' ds n' I'.st ei
        exact .inl ⟨f ed, h' σ' H' ρ' (Nx.refl _ _) I'⟩
      · exact False.elim h'
    | some d =>
      have hil := (List.getElem?_eq_some_iff.mp ed).1
      have hd : ds.drop i = d :: ds.drop (i + 1) := by
        rw [List.drop_eq_getElem_cons hil, (List.getElem?_eq_some_iff.mp ed).2]
      rw [hd] at h'
      unfold forL at h'
      split at h'
      · rename_i ei
        obtain ⟨f, _⟩ := r1 i H' ρ' S' ds n' I'.st ei
        obtain ⟨go, y⟩ := f d ed
        refine .inr ⟨go, fun σ2 H2 => ∃ δ2 S2 ρ2, StE σ2 H2 δ2 S2 ρ2 ∧ Nx H1 ρ1 H2 ρ2 ∧ RunF W G H2 ρ2 (forL src t m ds (ds.drop (i + 1)) δ2 S2), fun σ2 H2 ⟨δ2, S2, ρ2, q1, q2, q3⟩ => ⟨_, Nat.sub_lt_sub_left hil (Nat.lt_succ_self i), δ2, S2, ρ2, q1, q2, rfl, q3⟩, ?_⟩
        intro x H2 hy
        obtain ⟨n2, st2, rx⟩ := y x H2 hy
        split at h'
        · rename_i δ1 eb
          refine ⟨d, δ', S', ρ', δ1, ⟨st2, I'.env.mono n2⟩, rx, eb, fun σ3 I3 _ => ⟨δ1, S', ρ', I3, ?_⟩⟩
          have h2 := RunF.mono n2 h'
          cases em : m δ1 S' with
          | nx δ2 S2 => rw [em] at h2; exact fun σ4 H4 ρ4 n4 st4 => ⟨δ2, S2, ρ4, st4, (n'.trans n2).trans n4, h2.mono n4⟩
          | ct δ2 S2 => rw [em] at h2; exact fun σ4 H4 ρ4 n4 st4 => ⟨δ2, S2, ρ4, st4, (n'.trans n2).trans n4, h2.mono n4⟩
          | bk δ2 S2 => rw [em] at h2; exact h2
          | rt d S2 => rw [em] at h2; exact h2
          | exc x δ2 S2 => rw [em] at h2; exact h2
          | stuck => rw [em] at h2; exact h2
        · exact False.elim h'
      · exact False.elim h'
  · exact False.elim h1
end
end SL

/-! SL: list comprehensions of one clause. -/
namespace SL
open PySem PySem.Spec L2
open PyProof.Rows hiding St
abbrev W0 : WX := fun _ _ _ _ => False
def wipeD (δ : DEnv) : List Nat → DEnv
  | [] => δ
  | v :: vs => (wipeD δ vs).set v none
section
variable {H H' : Hp} {ρ : List Addr} {δ : DEnv} {σ : St} {S : Store}
theorem EnvS.wipe (h : EnvS H ρ δ σ) : ∀ vs : List Nat, EnvS H ρ (wipeD δ vs) (wipe σ vs)
  | [] => h
  | v :: vs => EnvS.unset v (EnvS.wipe h vs)
theorem wipe_get : ∀ {vs : List Nat} {σ : St} {j : Nat}, (wipe σ vs)[j]? = if j ∈ vs then (if j < σ.length then some none else none) else σ[j]?
  | [], σ, j => by simp [wipe]
  | v :: vs, σ, j => by
    unfold wipe
    by_cases hv : v = j
    · subst hv
      by_cases hl : v < σ.length
      · rw [List.getElem?_set_self (by rw [wipe_length]; exact hl)]
        simp [hl]
      · rw [List.getElem?_eq_none (by rw [List.length_set, wipe_length]; omega)]
        simp [hl]
    · rw [List.getElem?_set_ne hv, wipe_get]
      by_cases hj : j ∈ vs
      · simp [hj]
      · have : ¬ j = v := fun z => hv z.symm
        simp [hj, this]
theorem wipe_off {vs l : List Nat} {σ σ2 : St} (o : Off l (wipe σ vs) σ2) (hl : ∀ j ∈ l, j ∈ vs) : wipe σ2 vs = wipe σ vs := by
  apply List.ext_getElem?
  intro j
  rw [wipe_get, wipe_get]
  have hlen : σ2.length = σ.length := by rw [o.1, wipe_length]
  by_cases hj : j ∈ vs
  · rw [if_pos hj, if_pos hj, hlen]
  · rw [if_neg hj, if_neg hj, o.2 j (fun z => hj (hl j z)), wipe_get, if_neg hj]
end
/-- the items' turns; the list so far stands in the store at n -/
noncomputable def appC (n : Nat) (S : Store) (x : D) : Option Store := match S[n]? with
  | some (.lst acc) => if acc.length < 1000000 then some (S.set n (.lst (acc ++ [x]))) else none
  | _ => none
open Classical in
noncomputable def compL (src : Src) (tg : Tg) (tst : MB) (el : ME) (n : Nat) (ds : List D) (δ : DEnv) : List D → Store → Option Store
  | [], S => if items S src = some ds then some S else none
  | d :: r, S => if items S src = some ds then (match bindT tg d δ with
      | some δ1 => match tst δ1 S with
        | .ok true S1 => match el δ1 S1 with
          | .ok x S2 => match appC n S2 x with
            | some S3 => compL src tg tst el n ds δ r S3
            | none => none
          | _ => none
        | .ok false S1 => compL src tg tst el n ds δ r S1
        | _ => none
      | none => none) else none
open Classical in
noncomputable def endC (S1 Sf : Store) : Res D := match Sf[S1.length]? with
  | some (.lst acc) => if Sf.length = S1.length + 1 ∧ okL S1.length acc = true ∧ Settles S1 Sf then .ok (.lst acc) (Sf.take S1.length) else .ok (.loc S1.length) Sf
  | _ => .stuck
noncomputable def compM (mi : DEnv → Store → Res Src) (tg : Tg) (tst : MB) (el : ME) (vs : List Nat) : ME := fun δ S => (mi δ S).bind fun src S1 => match items S1 src with
  | some ds => match compL src tg tst el S1.length ds (wipeD δ vs) ds (S1 ++ [.lst []]) with
    | some Sf => endC S1 Sf
    | none => .stuck
  | none => .stuck
/-- kept as an object of the store -/
noncomputable def compLM (mi : DEnv → Store → Res Src) (tg : Tg) (tst : MB) (el : ME) (vs : List Nat) : ME := fun δ S => (mi δ S).bind fun src S1 => match items S1 src with
  | some ds => match compL src tg tst el S1.length ds (wipeD δ vs) ds (S1 ++ [.lst []]) with
    | some Sf => .ok (.loc S1.length) Sf
    | none => .stuck
  | none => .stuck
def yesB : MB := fun _ S => .ok true S
section
variable {X : Cx} {W : WX}
abbrev tTs (W : WX) (m : MB) : TT := tT W m
theorem PTs.weak {ifs : List Expr} {t t' : TT} (h : PTs X ifs t) (hw : ∀ σ H Q, t' σ H Q → t σ H Q) : PTs X ifs t' := ⟨fun pins s σ H Q I q => h.run pins s σ H Q I (hw _ _ _ q)⟩
theorem pts_dnil : PTs X [] (tT W yesB) := PTs.weak pts_nil fun σ H Q h => by
  obtain ⟨δ, S, ρ, I, h⟩ := h
  exact RunG.ok h I.st rfl
theorem pts_done {c : Expr} {m : MB} (h : PT X c (tT W m)) : PTs X [c] (tT W m) := pts_one h
/-- the reading of a comprehension, from what its end wants -/
theorem tLc_of {mi : DEnv → Store → Res Src} {tg : Tg} {tst : MB} {el : ME} {vs : List Nat} (hv : ∀ j ∈ tg.sl, j ∈ vs) {σ : St} {H1 : Hp} {δ : DEnv} {S1 Sf : Store} {ρ1 : List Addr} {src : Src} {J : It} {ds : List D} {Q : VK}
    (I1 : StE σ H1 δ S1 ρ1) (r1 : ItR H1 ρ1 src J) (hc : compL src tg tst el S1.length ds (wipeD δ vs) ds (S1 ++ [.lst []]) = some Sf) {p : Addr} (hp : H1 p = none)
    (hq : ∀ H' ρ', Nx H1 (ρ1 ++ [p]) H' ρ' → StS H' Sf ρ' → Q (.ref p) H') :
    ∃ WW : Nat → Nat → Hp → Prop, (∃ m, WW 0 m (upd H1 p (.lst []))) ∧ ∀ i m H, WW i m H →
  (J.stop i H ∧ Q (.ref p) H) ∨ (J.go i H ∧ ∃ Nt : Hp → Prop, (∀ H', Nt H' → ∃ m', m' < m ∧ WW (i + 1) m' H') ∧ ∀ x H', J.yld i H x H' → gD tg x (wipe σ vs) H' fun σ2 H2 => wipe σ2 vs = wipe σ vs ∧ tT W0 tst σ2 H2 fun b H3 =>
    if b = true then tE W0 el σ2 H3 fun y H4 => ∃ acc, H4 p = some (.lst acc) ∧ acc.length < sizeLine ∧ Nt (upd H4 p (.lst (acc ++ [y]))) else Nt H3) := by
  have n0 : Nx H1 ρ1 (upd H1 p (.lst [])) (ρ1 ++ [p]) := Nx.push hp
  have st0 : StS (upd H1 p (.lst [])) (S1 ++ [.lst []]) (ρ1 ++ [p]) := I1.st.push hp ⟨[], upd_same, Reps.nil⟩
  have env0 := (EnvS.wipe I1.env vs).mono n0
  refine ⟨fun i m H => ∃ S ρ, StS H S ρ ∧ Nx (upd H1 p (.lst [])) (ρ1 ++ [p]) H ρ ∧ Nx H1 (ρ1 ++ [p]) H ρ ∧ m = ds.length - i ∧ compL src tg tst el S1.length ds (wipeD δ vs) (ds.drop i) S = some Sf, ⟨_, _, _, st0, Nx.refl _ _, ?_, rfl, by simpa using hc⟩, ?_⟩
  · refine ⟨⟨[], by simp⟩, fun a h k => absurd h k, n0.thr, fun a o h k t => ?_, fun a ps h k => ?_⟩
    · exact n0.stay a o h (fun z => k (List.mem_append_left _ z)) t
    · exact n0.tbl a ps h (fun z => k (List.mem_append_left _ z))
  rintro i m H ⟨S, ρ, st, nx, nx', rfl, hl⟩
  have hpρ : ρ[S1.length]? = some p := by
    have : (ρ1 ++ [p])[S1.length]? = some p := by rw [← I1.st.len]; simp
    exact nx.at this
  cases ed : ds[i]? with
  | none =>
    have hd : ds.drop i = [] := List.drop_eq_nil_of_le (List.getElem?_eq_none_iff.mp ed)
    rw [hd] at hl
    unfold compL at hl
    split at hl
    · rename_i ei
      have eS : S = Sf := Option.some.inj hl
      subst eS
      obtain ⟨_, f⟩ := r1 i H ρ S ds (n0.trans nx) st ei
      exact .inl ⟨f ed, hq H ρ nx' st⟩
    · cases hl
  | some d =>
    have hil := (List.getElem?_eq_some_iff.mp ed).1
    have hd : ds.drop i = d :: ds.drop (i + 1) := by
      rw [List.drop_eq_getElem_cons hil, (List.getElem?_eq_some_iff.mp ed).2]
    rw [hd] at hl
    unfold compL at hl
    split at hl
    · rename_i ei
      obtain ⟨f, _⟩ := r1 i H ρ S ds (n0.trans nx) st ei
      obtain ⟨go, y⟩ := f d ed
      refine .inr ⟨go, fun H2 => ∃ S2 ρ2, StS H2 S2 ρ2 ∧ Nx (upd H1 p (.lst [])) (ρ1 ++ [p]) H2 ρ2 ∧ Nx H1 (ρ1 ++ [p]) H2 ρ2 ∧ compL src tg tst el S1.length ds (wipeD δ vs) (ds.drop (i + 1)) S2 = some Sf, fun H2 ⟨S2, ρ2, q1, q2, q2', q3⟩ => ⟨_, Nat.sub_lt_sub_left hil (Nat.lt_succ_self i), S2, ρ2, q1, q2, q2', rfl, q3⟩, ?_⟩
      intro x H2 hy
      obtain ⟨n2, st2, rx⟩ := y x H2 hy
      split at hl
      · rename_i δ1 eb
        refine ⟨d, wipeD δ vs, S, ρ, δ1, ⟨st2, env0.mono (nx.trans n2)⟩, rx, eb, fun σ3 I3 o3 => ⟨wipe_off o3 hv, δ1, S, ρ, I3, ?_⟩⟩
        split at hl
        · rename_i S4 et
          rw [et]
          intro b H4 ρ4 n4 st4 rb
          cases rb
          rw [if_pos rfl]
          refine ⟨δ1, S4, ρ4, I3.next n4 st4, ?_⟩
          split at hl
          · rename_i xd S5 ee
            rw [ee]
            intro v H5 ρ5 n5 st5 rv
            split at hl
            · rename_i S6 ea
              unfold appC at ea
              split at ea
              · rename_i acc e5
                split at ea
                · rename_i hacc
                  cases ea
                  have n25 := (n2.trans n4).trans n5
                  have hp5 : ρ5[S1.length]? = some p := n25.at hpρ
                  obtain ⟨ws, h5, rs⟩ := st5.cells S1.length p _ hp5 e5
                  have hm : p ∈ ρ5 := List.mem_of_getElem? hp5
                  have n6 : Nx H5 ρ5 (upd H5 p (.lst (ws ++ [v]))) ρ5 := Nx.set hm (by rw [h5]; simp)
                  refine ⟨ws, h5, by rw [← rs.len]; exact Nat.lt_of_lt_of_le hacc (by decide), _, ρ5, st5.set (c := .lst (acc ++ [xd])) hp5 ⟨ws ++ [v], upd_same, (Reps.mono n6 _ _ rs).append (Reps.one (Rep.mono n6 _ _ rv))⟩, (nx.trans n25).trans n6, (nx'.trans n25).trans n6, hl⟩
                · cases ea
              · cases ea
            · cases hl
          · cases hl
        · rename_i S4 et
          rw [et]
          intro b H4 ρ4 n4 st4 rb
          cases rb
          rw [if_neg Bool.false_ne_true]
          exact ⟨S4, ρ4, st4, (nx.trans n2).trans n4, (nx'.trans n2).trans n4, hl⟩
        · cases hl
      · cases hl
    · cases hl
variable {elt tge iter : Expr} {ifs : List Expr} {scope : Scope} {own : List (Str × Nat)} {pos spos : Pos} {mi : DEnv → Store → Res Src} {tg : Tg} {tst : MB} {el : ME}
/-- the end's reading -/
theorem endC_run {σ : St} {H1 H' : Hp} {ρ1 ρ' : List Addr} {δ : DEnv} {S1 Sf : Store} {p : Addr} {Q : VK} (I1 : StE σ H1 δ S1 ρ1) (hp : H1 p = none) (h : RunG W Rep σ H1 ρ1 (endC S1 Sf) Q) (n : Nx H1 (ρ1 ++ [p]) H' ρ') (st : StS H' Sf ρ') : Q (.ref p) H' := by
  have hpρ : ρ'[S1.length]? = some p := n.at (by rw [← I1.st.len]; simp)
  have n1 : Nx H1 ρ1 H' ρ' := by
    obtain ⟨t, ht⟩ := n.pre
    refine ⟨⟨[p] ++ t, by rw [ht]; simp⟩, fun a ha na => ?_, n.thr, fun a o ho na t' => ?_, fun a ps ho na => ?_⟩
    · by_cases hap : a = p
      · rw [hap]; exact hp
      · exact n.new a ha (by simp [na, hap])
    · exact n.stay a o ho (by simp [na, ne_of_none ho hp]) t'
    · exact n.tbl a ps ho (by simp [na, ne_of_none ho hp])
  unfold endC at h
  split at h
  · rename_i acc ea
    split at h
    · rename_i hz
      obtain ⟨t, ht⟩ := n1.pre
      subst ht
      obtain ⟨ws, h5, rs⟩ := st.cells S1.length p _ hpρ ea
      have hpn : p ∉ ρ1 := fun z => I1.st.trk z hp
      have hok : okL ρ1.length acc = true := by rw [I1.st.len]; exact hz.2.1
      exact RunG.okN h n1.settle (I1.st.settle st hz.2.2) ⟨p, ws, rfl, h5, hpn, Reps.cut acc ws rs hok⟩
    · exact RunG.okN h n1 st ⟨p, hpρ, rfl⟩
  · exact False.elim h
theorem tE_comp {vs : List Nat} (hv : ∀ j ∈ tg.sl, j ∈ vs) (σ : St) (H : Hp) (Q : VK) (h : tE W (compM mi tg tst el vs) σ H Q) : tLc (tG W ItR mi) (gD tg) (tT W0 tst) (tE W0 el) vs σ H Q := by
  obtain ⟨δ, S, ρ, I, h⟩ := h
  refine bindG I h fun src J S1 H1 ρ1 n1 I1 r1 h1 => fun p hp => ?_
  split at h1
  · rename_i ds eds
    split at h1
    · rename_i Sf ec
      exact tLc_of (mi := mi) hv I1 r1 ec hp fun H' ρ' n st => endC_run (W := W) I1 hp h1 n st
    · exact False.elim h1
  · exact False.elim h1
theorem tE_compL {vs : List Nat} (hv : ∀ j ∈ tg.sl, j ∈ vs) (σ : St) (H : Hp) (Q : VK) (h : tE W (compLM mi tg tst el vs) σ H Q) : tLc (tG W ItR mi) (gD tg) (tT W0 tst) (tE W0 el) vs σ H Q := by
  obtain ⟨δ, S, ρ, I, h⟩ := h
  refine bindG I h fun src J S1 H1 ρ1 n1 I1 r1 h1 => fun p hp => ?_
  split at h1
  · rename_i ds eds
    split at h1
    · rename_i Sf ec
      refine tLc_of (mi := mi) hv I1 r1 ec hp fun H' ρ' n st => ?_
      have hpρ : ρ'[S1.length]? = some p := n.at (by rw [← I1.st.len]; simp)
      have n1 : Nx H1 ρ1 H' ρ' := by
        obtain ⟨t, ht⟩ := n.pre
        refine ⟨⟨[p] ++ t, by rw [ht]; simp⟩, fun a ha na => ?_, n.thr, fun a o ho na t' => ?_, fun a ps ho na => ?_⟩
        · by_cases hap : a = p
          · rw [hap]; exact hp
          · exact n.new a ha (by simp [na, hap])
        · exact n.stay a o ho (by simp [na, ne_of_none ho hp]) t'
        · exact n.tbl a ps ho (by simp [na, ne_of_none ho hp])
      exact RunG.okN h1 n1 st ⟨p, hpρ, rfl⟩
    · exact False.elim h1
  · exact False.elim h1
theorem pd_lc (own : List (Str × Nat)) (hc : X.calm = true) (hN : X.N.Nodup) (hi : PI X tge iter (tG W ItR mi)) (ok : BlkOk X.N X.env.scope scope own) (hv : ∀ j ∈ tg.sl, j ∈ own.map (·.2))
    (hg : ∀ (s : Shared) (H : Hp) (C : Addr) (cl : List (Str × Addr)) (fp : List Addr), PG (X.blk s H scope (compEnvC scope cl C X.env) fp) tge (gD tg)) (ht : ∀ (s : Shared) (H : Hp) (C : Addr) (cl : List (Str × Addr)) (fp : List Addr), PTs (X.blk s H scope (compEnvC scope cl C X.env) fp) ifs (tT W0 tst))
    (he : ∀ (s : Shared) (H : Hp) (C : Addr) (cl : List (Str × Addr)) (fp : List Addr), PE (X.blk s H scope (compEnvC scope cl C X.env) fp) elt (tE W0 el)) (hs : ∀ x, foldedSetIterable iter X.env x = pure x := by intro _; rfl) :
    PE X (.ListComp elt [⟨tge, iter, ifs, 0⟩] scope pos) (tE W (compM mi tg tst el (own.map (·.2)))) := PE.weak (pe_lc hc hN hi ok hg ht he hs) (tE_comp hv)
theorem ps_dsetLc (own : List (Str × Nat)) {i : Nat} {y : Str} {py : Pos} (hc : X.calm = true) (hN : X.N.Nodup) (hy : X.N[i]? = some y) (hyl : X.env.scope.names.lookup y = some .local)
    (hsw : swapsWith (.ListComp elt [⟨tge, iter, ifs, 0⟩] scope pos) (some (.Name y py)) spos.line X.env = pure true) (hi : PI X tge iter (tG W ItR mi)) (ok : BlkOk X.N X.env.scope scope own) (hv : ∀ j ∈ tg.sl, j ∈ own.map (·.2))
    (hg : ∀ (s : Shared) (H : Hp) (C : Addr) (cl : List (Str × Addr)) (fp : List Addr), PG (X.blk s H scope (compEnvC scope cl C X.env) fp) tge (gD tg)) (ht : ∀ (s : Shared) (H : Hp) (C : Addr) (cl : List (Str × Addr)) (fp : List Addr), PTs (X.blk s H scope (compEnvC scope cl C X.env) fp) ifs (tT W0 tst))
    (he : ∀ (s : Shared) (H : Hp) (C : Addr) (cl : List (Str × Addr)) (fp : List Addr), PE (X.blk s H scope (compEnvC scope cl C X.env) fp) elt (tE W0 el)) (hs : ∀ x, foldedSetIterable iter X.env x = pure x := by intro _; rfl) :
    PS X (.Assign [.Name y py] (.ListComp elt [⟨tge, iter, ifs, 0⟩] scope pos) spos) (tS W (asgM i (compM mi tg tst el (own.map (·.2))))) := PS.weak (ps_setLc hc hN hy hyl hsw hi ok hg ht he hs) fun G σ H h => by
  obtain ⟨δ, S, ρ, I, h⟩ := h
  refine tE_comp (W := W) hv σ H _ ?_
  refine bindGF I h fun d v S1 H1 ρ1 n1 I1 r1 h1 => ?_
  exact h1 _ H1 ρ1 (Nx.refl _ _) ⟨I1.st, I1.env.set i r1⟩
theorem ps_dsetLcL (own : List (Str × Nat)) {i : Nat} {y : Str} {py : Pos} (hc : X.calm = true) (hN : X.N.Nodup) (hy : X.N[i]? = some y) (hyl : X.env.scope.names.lookup y = some .local)
    (hsw : swapsWith (.ListComp elt [⟨tge, iter, ifs, 0⟩] scope pos) (some (.Name y py)) spos.line X.env = pure true) (hi : PI X tge iter (tG W ItR mi)) (ok : BlkOk X.N X.env.scope scope own) (hv : ∀ j ∈ tg.sl, j ∈ own.map (·.2))
    (hg : ∀ (s : Shared) (H : Hp) (C : Addr) (cl : List (Str × Addr)) (fp : List Addr), PG (X.blk s H scope (compEnvC scope cl C X.env) fp) tge (gD tg)) (ht : ∀ (s : Shared) (H : Hp) (C : Addr) (cl : List (Str × Addr)) (fp : List Addr), PTs (X.blk s H scope (compEnvC scope cl C X.env) fp) ifs (tT W0 tst))
    (he : ∀ (s : Shared) (H : Hp) (C : Addr) (cl : List (Str × Addr)) (fp : List Addr), PE (X.blk s H scope (compEnvC scope cl C X.env) fp) elt (tE W0 el)) (hs : ∀ x, foldedSetIterable iter X.env x = pure x := by intro _; rfl) :
    PS X (.Assign [.Name y py] (.ListComp elt [⟨tge, iter, ifs, 0⟩] scope pos) spos) (tS W (asgM i (compLM mi tg tst el (own.map (·.2))))) := PS.weak (ps_setLc hc hN hy hyl hsw hi ok hg ht he hs) fun G σ H h => by
  obtain ⟨δ, S, ρ, I, h⟩ := h
  refine tE_compL (W := W) hv σ H _ ?_
  refine bindGF I h fun d v S1 H1 ρ1 n1 I1 r1 h1 => ?_
  exact h1 _ H1 ρ1 (Nx.refl _ _) ⟨I1.st, I1.env.set i r1⟩
end
end SL

/-! SL: what a def is worth; calls, methods, fields, own objects. -/
namespace SL
open PySem PySem.Spec L2
open PyProof.Rows hiding St
abbrev RX : Hp → List Addr → Ex → Value × Option Addr → Prop := fun H ρ x p => RepX H ρ x p.1 p.2
/-- a def as a function -/
abbrev Fn := List D → Store → Res D
def spD (n : Nat) (φ : Fn) : Sp := fun vs H Q E => ∃ ds S ρ, ds.length = n ∧ StS H S ρ ∧ Reps H ρ ds vs ∧ RunG (fun c dd _ H' => E c dd H') Rep [] H ρ (φ ds S) Q
abbrev FnD (P : Program) (w : World) (K : PySem.W.Frag) (mg : Str → Option Value) (base : Heap) (k : Nat) (f : Addr) (fd : FuncData) (ps : List Str) (φ : Fn) : Prop := FnOk P w K mg base (L2.CX P w) k f fd ps (spD ps.length φ)
/-! ### the end of a def -/
def fz1 (n : Nat) (S : Store) (d : D) : Option D := match d with
  | .loc m => if m < n then some (.loc m) else match S[m]? with
    | some (.lst ds) => if okL n ds = true then some (.lst ds) else none
    | some (.dct ks ds) => if okL n ds = true then some (.dct ks ds) else none
    | some (.obj C ns ds) => if okL n ds = true then some (.obj C ns ds) else none
    | none => none
  | d => if okD n d = true then some d else none
def fzs (n : Nat) (S : Store) : List D → Option (List D)
  | [] => some []
  | d :: ds => match fz1 n S d, fzs n S ds with
    | some e, some es => some (e :: es)
    | _, _ => none
def fz (n : Nat) (S : Store) (d : D) : Option D := match d with
  | .tup ds => match fzs n S ds with
    | some es => some (.tup es)
    | none => none
  | d => fz1 n S d
open Classical in
noncomputable def finV (S : Store) (d : D) (S' : Store) : Res D := match fz S.length S' d with
  | some e => if Settles S S' then .ok e (S'.take S.length) else .ok d S'
  | none => .ok d S'
open Classical in
noncomputable def finX (S : Store) (x : Ex) (S' : Store) : Res D := if okL S.length x.ds = true ∧ Settles S S' then .exc x (S'.take S.length) else .exc x S'
noncomputable def finD (S : Store) (r : Flw) : Res D := match r with
  | .nx _ S' => finV S .non S'
  | .rt d S' => finV S d S'
  | .exc x _ S' => finX S x S'
  | _ => .stuck
/-- what it hands back is kept as an object of the store -/
def finK (r : Flw) : Res D := match r with
  | .nx _ S' => .ok .non S'
  | .rt d S' => .ok d S'
  | .exc x _ S' => .exc x S'
  | _ => .stuck
def startD (n : Nat) (ds : List D) : DEnv := ds.map some ++ List.replicate (n - ds.length) none
noncomputable def defM (n : Nat) (m : MS) : Fn := fun ds S => finD S (m (startD n ds) S)
def defK (n : Nat) (m : MS) : Fn := fun ds S => finK (m (startD n ds) S)
section
variable {H H' : Hp} {ρ t : List Addr} {S S' : Store} {d e : D} {v : V}
theorem fz1_rep (st : StS H S (ρ ++ t)) (r : Rep H (ρ ++ t) d v) (h : fz1 ρ.length S d = some e) : Rep H ρ e v := by
  cases d with
  | loc m =>
    simp only [fz1] at h
    split at h
    · rename_i hm
      cases h
      exact Rep.cut _ _ r (by simp only [okD]; exact decide_eq_true hm)
    · rename_i hm
      obtain ⟨a, ea, rfl⟩ := r
      have hna : a ∉ ρ := fun z => by
        obtain ⟨j, hj, ej⟩ := List.getElem_of_mem z
        have e1 : (ρ ++ t)[j]? = some a := by rw [List.getElem?_append_left hj, List.getElem?_eq_getElem hj, ej]
        have := (List.getElem?_inj (List.getElem?_eq_some_iff.mp e1).1 st.nd).mp (e1.trans ea.symm)
        omega
      split at h
      · rename_i ds es
        split at h
        · rename_i ho
          cases h
          obtain ⟨vs, h1, r1⟩ := st.cells m a _ ea es
          exact ⟨a, vs, rfl, h1, hna, Reps.cut _ _ r1 ho⟩
        · cases h
      · rename_i ks ds es
        split at h
        · rename_i ho
          cases h
          obtain ⟨vs, h1, l, r1⟩ := st.cells m a _ ea es
          exact ⟨a, vs, rfl, h1, hna, l, Reps.cut _ _ r1 ho⟩
        · cases h
      · rename_i C ns ds es
        split at h
        · rename_i ho
          cases h
          obtain ⟨dx, vs, h1, l, r1⟩ := st.cells m a _ ea es
          exact ⟨a, dx, vs, rfl, h1, hna, l, Reps.cut _ _ r1 ho⟩
        · cases h
      · cases h
  | _ =>
    simp only [fz1] at h
    split at h
    · rename_i ho
      cases h
      exact Rep.cut _ _ r ho
    · cases h
theorem fzs_rep (st : StS H S (ρ ++ t)) : ∀ {ds es : List D} {vs : List V}, Reps H (ρ ++ t) ds vs → fzs ρ.length S ds = some es → Reps H ρ es vs
  | [], es, vs, r, h => by cases h; exact r
  | d :: ds, es, vs, r, h => by
    obtain ⟨v, us, rfl, r1, r2⟩ := r
    simp only [fzs] at h
    split at h
    · rename_i e es' e1 e2
      cases h
      exact ⟨v, us, rfl, fz1_rep st r1 e1, fzs_rep st r2 e2⟩
    · cases h
theorem fz_rep (st : StS H S (ρ ++ t)) (r : Rep H (ρ ++ t) d v) (h : fz ρ.length S d = some e) : Rep H ρ e v := by
  cases d with
  | tup ds =>
    simp only [fz] at h
    split at h
    · rename_i es he
      cases h
      obtain ⟨a, vs, rfl, h1, na, r1⟩ := r
      exact ⟨a, vs, rfl, h1, fun z => na (List.mem_append_left _ z), fzs_rep st r1 he⟩
    · cases h
  | _ => exact fz1_rep st r h
theorem finV_run {W : WX} {σ : St} {Q : VK} {H0 : Hp} {ρ' : List Addr} (st0 : StS H0 S ρ) (h : RunG W Rep σ H0 ρ (finV S d S') Q) (n : Nx H0 ρ H' ρ') (st : StS H' S' ρ') (r : Rep H' ρ' d v) : Q v H' := by
  unfold finV at h
  split at h
  · rename_i e he
    split at h
    · rename_i hs
      obtain ⟨t, ht⟩ := n.pre
      subst ht
      rw [← st0.len] at he
      exact RunG.okN h n.settle (st0.settle st hs) (fz_rep st r he)
    · exact RunG.okN h n st r
  · exact RunG.okN h n st r
theorem finX_run {W : WX} {σ : St} {Q : VK} {H0 : Hp} {ρ' : List Addr} {x : Ex} {c : Value} {dd : Option Addr} (st0 : StS H0 S ρ) (h : RunG W Rep σ H0 ρ (finX S x S') Q) (n : Nx H0 ρ H' ρ') (st : StS H' S' ρ') (r : RepX H' ρ' x c dd) : W c dd σ H' := by
  unfold finX at h
  split at h
  · rename_i hs
    obtain ⟨t, ht⟩ := n.pre
    subst ht
    obtain ⟨rc, d, vs, e1, e2, na, l, r1⟩ := r
    exact h c dd H' ρ n.settle (st0.settle st hs.2) ⟨rc, d, vs, e1, e2, fun z => na (List.mem_append_left _ z), l, Reps.cut _ _ r1 (by rw [st0.len]; exact hs.1)⟩
  · exact h c dd H' ρ' n st r
theorem start_env {n : Nat} {N : List Str} {ds : List D} {vs : List V} (hn : N.length = n) (r : Reps H ρ ds vs) : EnvS H ρ (startD n ds) (L2.start N vs) := by
  have hl := r.len
  unfold startD L2.start
  refine ⟨by simp [hn, hl], fun i d e => ?_⟩
  by_cases hi : i < ds.length
  · rw [List.getElem?_append_left (by simpa using hi), List.getElem?_map] at e
    rw [List.getElem?_append_left (by rw [List.length_map, ← hl]; exact hi), List.getElem?_map]
    cases ed : ds[i]? with
    | none => rw [ed] at e; cases e
    | some d' =>
      rw [ed] at e
      cases e
      obtain ⟨v, hv, rv⟩ := Reps.getD r ed
      exact ⟨v, by rw [hv]; rfl, rv⟩
  · rw [List.getElem?_append_right (by simpa using Nat.le_of_not_lt hi), List.getElem?_replicate] at e
    split at e <;> cases e
end
section
variable {P : Program} {w : World} {K : PySem.W.Frag} {mg : Str → Option Value} {base : Heap} {k : Nat} {f : Addr} {fd : FuncData} {x qual : Str} {params : Arguments} {body : List Stmt} {scope : Scope} {dvs : List V} {kws : List (Str × V)} {N ps : List Str} {m : MS}
theorem FnD.mk (F : FunD K x qual params body scope dvs kws f fd) (S : FnScope N ps scope)
    (hb : ∀ (cdv : Value) (A : Around) (outer : List Env) (s : Shared) (H : Hp) (E : XK), Room k (A.deeper (envOfC qual scope s.heap.objs.size f cdv)) →
      PSs (cxOf (L2.CX P w) P w K mg base N qual scope f cdv A outer s H E) body (tS (fun c dd _ H' => E c dd H') m)) : FnD P w K mg base (k + 1) f fd ps (defM N.length m) := by
  refine FunD.ok F S (fun vs H Q E h => ?_) (fun cdv A outer s H vs Q E hr h => ⟨_, hb cdv A outer s H E hr, ?_⟩)
  · obtain ⟨ds, S, ρ, hl, _, r, _⟩ := h
    rw [← r.len, hl]
  · obtain ⟨ds, S0, ρ, hl, st0, r, h⟩ := h
    refine ⟨startD N.length ds, S0, ρ, ⟨st0, start_env rfl r⟩, ?_⟩
    unfold defM at h
    cases e : m (startD N.length ds) S0 with
    | nx δ' S' =>
      rw [e] at h
      exact fun σ' H' ρ' n I => finV_run (v := V.non) (d := D.non) st0 (show RunG _ Rep [] H ρ (finV S0 .non S') Q from h) n I.st rfl
    | rt d S' =>
      rw [e] at h
      exact fun v H' ρ' n st r => finV_run st0 h n st r
    | exc x δ' S' =>
      rw [e] at h
      exact fun c dd σ' H' ρ' n I r => finX_run (W := fun c dd _ H' => E c dd H') st0 h n I.st r
    | bk _ _ => rw [e] at h; exact False.elim h
    | ct _ _ => rw [e] at h; exact False.elim h
    | stuck => rw [e] at h; exact False.elim h
theorem FnD.mkK (F : FunD K x qual params body scope dvs kws f fd) (S : FnScope N ps scope)
    (hb : ∀ (cdv : Value) (A : Around) (outer : List Env) (s : Shared) (H : Hp) (E : XK), Room k (A.deeper (envOfC qual scope s.heap.objs.size f cdv)) →
      PSs (cxOf (L2.CX P w) P w K mg base N qual scope f cdv A outer s H E) body (tS (fun c dd _ H' => E c dd H') m)) : FnD P w K mg base (k + 1) f fd ps (defK N.length m) := by
  refine FunD.ok F S (fun vs H Q E h => ?_) (fun cdv A outer s H vs Q E hr h => ⟨_, hb cdv A outer s H E hr, ?_⟩)
  · obtain ⟨ds, S, ρ, hl, _, r, _⟩ := h
    rw [← r.len, hl]
  · obtain ⟨ds, S0, ρ, hl, st0, r, h⟩ := h
    refine ⟨startD N.length ds, S0, ρ, ⟨st0, start_env rfl r⟩, ?_⟩
    unfold defK at h
    cases e : m (startD N.length ds) S0 with
    | nx δ' S' =>
      rw [e] at h
      exact fun σ' H' ρ' n I => RunG.okN (b := V.non) (R := Rep) (a := D.non) h n I.st rfl
    | rt d S' =>
      rw [e] at h
      exact fun v H' ρ' n st r => RunG.okN h n st r
    | exc x δ' S' =>
      rw [e] at h
      exact fun c dd σ' H' ρ' n I r => h c dd H' ρ' n I.st r
    | bk _ _ => rw [e] at h; exact False.elim h
    | ct _ _ => rw [e] at h; exact False.elim h
    | stuck => rw [e] at h; exact False.elim h
/-- a weaker function -/
theorem FnD.of {φ ψ : Fn} (F : FnD P w K mg base k f fd ps φ) (h : ∀ ds S, ψ ds S = .stuck ∨ φ ds S = ψ ds S) : FnD P w K mg base k f fd ps ψ := F.imp fun vs H Q E ⟨ds, S, ρ, hl, st, r, q⟩ => by
  refine ⟨ds, S, ρ, hl, st, r, ?_⟩
  rcases h ds S with e | e
  · rw [e] at q; exact False.elim q
  · rw [e]; exact q
end
/-! ### calls -/
def appM (n : Nat) (φ : Fn) (ms : MA) (dD : List D) : ME := fun δ S => (ms δ S).bind fun xs S1 => if (xs ++ dD).length = n then φ (xs ++ dD) S1 else .stuck
/-- what is raised by a callee is taken -/
def TkW (X : Cx) (W : WX) : Prop := ∀ σ, PassesAt (L2.CX X.prog X.w) X σ (fun c d H => W c d σ H)
section
variable {X : Cx} {W : WX} {a b c e o : Expr} {es rest : List Expr} {ma mb mc me mo : ME} {ms : MA} {p pos apos : Pos} {x m : Str} {k n : Nat} {f C : Addr} {fd : FuncData} {ps : List Str} {φ : Fn} {dD : List D} {dvs : List V} {ds : List Value}
theorem tk_of (tk : Takes X W) : TkW X W := fun σ pins H s e s' I c => tk e s' (XE.of_call I (fun cls d H' h => h) c)
theorem tk_no : TkW X W0 := fun σ pins H s e s' I c => by
  obtain ⟨a, B, H', cls, d, _, _, _, _, _, _, _, h⟩ := c
  exact False.elim h
theorem RunG.sig {α β : Type} {R : Hp → List Addr → α → β → Prop} {σ : St} {H : Hp} {ρ : List Addr} {r : Res α} {Q : β → Hp → Prop} (h : RunG W R σ H ρ r Q) : RunG (fun c dd _ H' => W c dd σ H') R [] H ρ r Q := by
  cases r with
  | ok a S => exact h
  | exc x S => exact h
  | stuck => exact h
theorem sp_of {σ : St} {H : Hp} {ρ : List Addr} {S : Store} {xs : List D} {vs : List V} {Q : VK} (st : StS H S ρ) (r : Reps H ρ xs vs) (h : RunG W Rep σ H ρ (if xs.length = n then φ xs S else .stuck) Q) : spD n φ vs H Q (fun c dd H' => W c dd σ H') := by
  split at h
  · rename_i hl
    exact ⟨xs, S, ρ, hl, st, r, h.sig⟩
  · exact False.elim h
theorem pd_callD (F : FnOk X.prog X.w X.K X.mg X.base (L2.CX X.prog X.w) k f fd ps (spD n φ)) (hr : Room k X.A) (hm : X.mg x = some (.ref f)) (hk : PySem.W.keepIn X.K (.ref f) = true) (hb : Binds X.K fd ps ds) (hd : Vals dvs ds) (hD : ∀ H ρ, Reps H ρ dD dvs) (tk : TkW X W)
    (ha : PA X (e :: es) (tA W ms)) (hg : Gl X x := by rfl) (hdb : (x == ("__debug__" : Str)) = false := by decide) (he : starEach (e :: es) X.env = (false, eval e X.env) :: starEach es X.env := by rfl) (hpl : (backTo pos (starEach es X.env)).any (·.1) = false := by rfl) :
    PE X (.Call (.Name x p) (e :: es) [] pos) (tE W (appM n φ ms dD)) := PE.weak (pe_callSD F hr hg hm hk hb hd tk ha hdb he hpl) fun σ H Q h => by
  obtain ⟨δ, S, ρ, I, h⟩ := h
  refine bindG I h fun xs vs S1 H1 ρ1 n1 I1 r1 h1 => ?_
  exact sp_of I1.st (r1.append (hD _ _)) h1
theorem pd_call (F : FnOk X.prog X.w X.K X.mg X.base (L2.CX X.prog X.w) k f fd ps (spD n φ)) (hr : Room k X.A) (hm : X.mg x = some (.ref f)) (hk : PySem.W.keepIn X.K (.ref f) = true) (hb : Binds X.K fd ps []) (tk : TkW X W)
    (ha : PA X (e :: es) (tA W ms)) (hg : Gl X x := by rfl) (hdb : (x == ("__debug__" : Str)) = false := by decide) (he : starEach (e :: es) X.env = (false, eval e X.env) :: starEach es X.env := by rfl) (hpl : (backTo pos (starEach es X.env)).any (·.1) = false := by rfl) :
    PE X (.Call (.Name x p) (e :: es) [] pos) (tE W (appM n φ ms [])) := pd_callD F hr hm hk hb .nil (fun _ _ => Reps.nil) tk ha hg hdb he hpl
theorem pd_call0 (F : FnOk X.prog X.w X.K X.mg X.base (L2.CX X.prog X.w) k f fd ps (spD n φ)) (hr : Room k X.A) (hm : X.mg x = some (.ref f)) (hk : PySem.W.keepIn X.K (.ref f) = true) (hb : Binds X.K fd ps []) (tk : TkW X W)
    (hg : Gl X x := by rfl) (hdb : (x == ("__debug__" : Str)) = false := by decide) : PE X (.Call (.Name x p) [] [] pos) (tE W (appM n φ nilM [])) := by
  refine ⟨fun pins s σ H Q I h => ?_⟩
  refine wpAny_Call_Name_kw (ld_glob I hg hm ?_ hdb)
  refine PySem.W.callWith_K0 I.kIn hk (run_fnSD (E := fun σ c d H => W c d σ H) (us := []) (vs := []) (dvs := []) F hr hb .nil (tk σ) I .nil ?_)
  obtain ⟨δ, S, ρ, I', h⟩ := h
  exact sp_of (xs := []) I'.st Reps.nil h
/-! ### objects -/
def asO (S : Store) : D → Option (Addr × List Str × List D)
  | .obj C ns ds => some (C, ns, ds)
  | .loc n => match S[n]? with
    | some (.obj C ns ds) => some (C, ns, ds)
    | _ => none
  | _ => none
theorem asO_rep {H : Hp} {ρ : List Addr} {S : Store} {d : D} {v : V} {C : Addr} {ns : List Str} {ds : List D} (st : StS H S ρ) (r : Rep H ρ d v) (h : asO S d = some (C, ns, ds)) : ∃ a dx vs, v = .ref a ∧ H a = some (.ins C dx (ns.zip vs)) ∧ ns.length = ds.length ∧ Reps H ρ ds vs := by
  cases d with
  | obj C' ns' es =>
    cases h
    obtain ⟨a, dx, vs, rfl, h1, _, l, h2⟩ := r
    exact ⟨a, dx, vs, rfl, h1, l, h2⟩
  | loc n =>
    obtain ⟨a, ha, rfl⟩ := r
    simp only [asO] at h
    split at h
    · rename_i C' ns' ds' e
      cases h
      obtain ⟨dx, vs, h1, l, h2⟩ := st.cells n a _ ha e
      exact ⟨a, dx, vs, rfl, h1, l, h2⟩
    · cases h
  | _ => cases h
def lookS {α : Type} : List Str → List α → Str → Option α
  | k :: ks, d :: ds, q => if q = k then some d else lookS ks ds q
  | _, _, _ => none
theorem lookup_zip {α : Type} : ∀ {ns : List Str} {vs : List α} {q : Str}, (ns.zip vs).lookup q = lookS ns vs q
  | [], _, _ => by simp [lookS]
  | _ :: _, [], _ => by simp [lookS]
  | n :: ns, v :: vs, q => by
    rw [List.zip_cons_cons, List.lookup_cons, lookS]
    by_cases h : q = n
    · rw [if_pos h]
      simp [h]
    · rw [if_neg h]
      have : (q == n) = false := by simpa using h
      rw [this]
      exact lookup_zip
theorem lookS_rep {H : Hp} {ρ : List Addr} : ∀ {ns : List Str} {ds : List D} {vs : List V} {q : Str} {d : D}, Reps H ρ ds vs → lookS ns ds q = some d → ∃ v, lookS ns vs q = some v ∧ Rep H ρ d v
  | [], _, _, _, _, _, h => by cases h
  | _ :: _, [], _, _, _, _, h => by cases h
  | n :: ns, d' :: ds, vs, q, d, r, h => by
    obtain ⟨v, us, rfl, h1, h2⟩ := r
    simp only [lookS] at h ⊢
    split at h
    · rename_i e
      cases h
      exact ⟨v, by rw [if_pos e], h1⟩
    · rename_i e
      rw [if_neg e]
      exact lookS_rep h2 h
theorem lookS_none {α β : Type} : ∀ {ns : List Str} {ds : List α} {vs : List β} {q : Str}, ds.length = vs.length → lookS ns ds q = none → lookS ns vs q = none
  | [], _, _, _, _, _ => rfl
  | _ :: _, [], [], _, _, _ => rfl
  | _ :: _, [], _ :: _, _, h, _ => by cases h
  | _ :: _, _ :: _, [], _, h, _ => by cases h
  | n :: ns, d :: ds, v :: vs, q, hl, h => by
    simp only [lookS] at h ⊢
    split at h
    · cases h
    · rename_i e
      rw [if_neg e]
      exact lookS_none (by simpa using hl) h
/-- a field put -/
def putS {α : Type} : List Str → List α → Str → α → List Str × List α
  | k :: ks, d :: ds, q, x => if k = q then (k :: ks, x :: ds) else let r := putS ks ds q x; (k :: r.1, d :: r.2)
  | ks, ds, q, x => (ks ++ [q], ds ++ [x])
theorem putS_zip : ∀ {ns : List Str} {vs : List V} {q : Str} {x : V}, ns.length = vs.length → putF q x (ns.zip vs) = (putS ns vs q x).1.zip (putS ns vs q x).2 ∧ (putS ns vs q x).1.length = (putS ns vs q x).2.length
  | [], [], q, x, _ => ⟨rfl, rfl⟩
  | [], _ :: _, _, _, h => by cases h
  | _ :: _, [], _, _, h => by cases h
  | n :: ns, v :: vs, q, x, h => by
    have hl : ns.length = vs.length := by simpa using h
    rw [List.zip_cons_cons]
    simp only [putF, putS]
    by_cases e : n = q
    · rw [if_pos e, if_pos e]
      exact ⟨rfl, by simp [hl]⟩
    · rw [if_neg e, if_neg e]
      obtain ⟨i1, i2⟩ := putS_zip (q := q) (x := x) hl
      exact ⟨by rw [i1]; rfl, by simp [i2]⟩
theorem putS_rep {H : Hp} {ρ : List Addr} {q : Str} {d : D} {x : V} (rx : Rep H ρ d x) : ∀ {ns : List Str} {ds : List D} {vs : List V}, ns.length = ds.length → Reps H ρ ds vs → (putS ns ds q d).1 = (putS ns vs q x).1 ∧ Reps H ρ (putS ns ds q d).2 (putS ns vs q x).2
  | [], [], vs, _, r => by cases r; exact ⟨rfl, Reps.one rx⟩
  | [], _ :: _, _, h, _ => by cases h
  | _ :: _, [], _, h, _ => by cases h
  | n :: ns, d' :: ds, vs, h, r => by
    obtain ⟨v, us, rfl, h1, h2⟩ := r
    simp only [putS]
    by_cases e : n = q
    · rw [if_pos e, if_pos e]
      exact ⟨rfl, Reps.cons rx h2⟩
    · rw [if_neg e, if_neg e]
      obtain ⟨i1, i2⟩ := putS_rep rx (by simpa using h) h2
      exact ⟨by simp [i1], Reps.cons h1 i2⟩
theorem putS_len {ns : List Str} {ds : List D} {q : Str} {d : D} (h : ns.length = ds.length) : (putS ns ds q d).1.length = (putS ns ds q d).2.length := by
  induction ns generalizing ds with
  | nil => cases ds with
    | nil => rfl
    | cons _ _ => cases h
  | cons n ns ih => cases ds with
    | nil => cases h
    | cons d' ds =>
      simp only [putS]
      split
      · simpa using h
      · simpa using ih (by simpa using h)
theorem ins_rep_len {H : Hp} {ρ : List Addr} {ns : List Str} {ds : List D} {vs : List V} (l : ns.length = ds.length) (r : Reps H ρ ds vs) : ns.length = vs.length := by rw [l, r.len]
open Classical in
/-- e.f, e of the class at C -/
noncomputable def fldM (C : Addr) (fl : Str) (mo : ME) : ME := fun δ S => (mo δ S).bind fun x S1 => match asO S1 x with
  | some (C', ns, ds) => if C' = C then RO (lookS ns ds fl) S1 else .stuck
  | none => .stuck
theorem pd_fld (cl : Cls X.K C) (nf : NoAttr X.K C m) (ho : PE X o (tE W mo)) (hb : attributeBase o m X.env (eval o X.env) = eval o X.env := by rfl) : PE X (.Attribute o m pos) (tE W (fldM C m mo)) := PE.weak (pe_fld ho hb) fun σ H Q h => by
  obtain ⟨δ, S, ρ, I, h⟩ := h
  refine bindG I h fun x v S1 H1 ρ1 n1 I1 r1 h1 => ?_
  split at h1
  · rename_i C' ns ds eo
    split at h1
    · rename_i hC
      subst hC
      obtain ⟨z, e, kk⟩ := h1.ro
      obtain ⟨a, dx, vs, rfl, hH, l, r⟩ := asO_rep I1.st r1 eo
      obtain ⟨u, eu, ru⟩ := lookS_rep r e
      exact ⟨a, C', dx, _, u, rfl, hH, cl, nf, by rw [lookup_zip]; exact eu, kk u H1 ρ1 (Nx.refl _ _) I1.st ru⟩
    · exact False.elim h1
  · exact False.elim h1
open Classical in
noncomputable def setfM (C : Addr) (fl : Str) (mo mv : ME) : MS := fun δ S => bindS (mv δ S) δ fun d S1 => bindS (mo δ S1) δ fun x S2 => match x with
  | .loc n => match S2[n]? with
    | some (.obj C' ns ds) => if C' = C ∧ ns.length < 1000 then .nx δ (S2.set n (.obj C' (putS ns ds fl d).1 (putS ns ds fl d).2)) else .stuck
    | _ => .stuck
  | _ => .stuck
theorem ps_dfld {value : Expr} {mv : ME} {pos' : Pos} (cl : Cls X.K C) (nf : NoAttr X.K C m) (ho : PE X o (tE W mo)) (hv : PE X value (tE W mv)) (hs : swapsWith value (some (.Attribute o m pos')) pos.line X.env = pure false := by rfl) : PS X (.Assign [.Attribute o m pos'] value pos) (tS W (setfM C m mo mv)) :=
  PS.weak (ps_fld ho hv hs) fun G σ H h => by
    obtain ⟨δ, S, ρ, I, h⟩ := h
    refine bindGF I h fun d v S1 H1 ρ1 n1 I1 r1 h1 => ?_
    refine bindGF I1 h1 fun x u S2 H2 ρ2 n2 I2 r2 h2 => ?_
    split at h2
    · rename_i n
      split at h2
      · rename_i C' ns ds ec
        split at h2
        · rename_i hC
          obtain ⟨rfl, hlen⟩ := hC
          obtain ⟨a, ea, rfl⟩ := r2
          obtain ⟨dx, vs, hH, l, r⟩ := I2.st.cells n a _ ea ec
          have hm : a ∈ ρ2 := List.mem_of_getElem? ea
          have rd := Rep.mono n2 _ _ r1
          refine ⟨a, C', dx, _, rfl, hH, cl, nf, by rw [List.length_zip, ins_rep_len l r, Nat.min_self, ← ins_rep_len l r]; exact hlen, ?_⟩
          obtain ⟨z1, z2⟩ := putS_zip (q := m) (x := v) (ins_rep_len l r)
          obtain ⟨p1, p2⟩ := putS_rep (q := m) rd l r
          rw [z1]
          have nx : Nx H2 ρ2 (upd H2 a (.ins C' dx ((putS ns vs m v).1.zip (putS ns vs m v).2))) ρ2 := Nx.set hm (by rw [hH]; simp)
          have st3 := I2.st.set (o := .ins C' dx ((putS ns vs m v).1.zip (putS ns vs m v).2)) (c := .obj C' (putS ns ds m d).1 (putS ns ds m d).2) ea ⟨dx, _, by rw [upd_same, p1], putS_len l, Reps.mono nx _ _ p2⟩
          exact h2 σ _ ρ2 nx ⟨st3, I2.env.mono nx⟩
        · exact False.elim h2
      · exact False.elim h2
    · exact False.elim h2
end
end SL

/-! SL: methods, making of objects, stores by place, augmented stores. -/
namespace SL
open PySem PySem.Spec L2
open PyProof.Rows hiding St
section
variable {K : PySem.W.Frag} {x qual : Str} {params : Arguments} {body : List Stmt} {scope : Scope} {dvs : List V} {kws : List (Str × V)} {f : Addr} {fd : FuncData} {ps : List Str}
/-- keyword-only parameters, some given, no other defaults -/
theorem kbindsK (F : FunD K x qual params body scope [] kws f fd) (n : Nat) (ks : List Str) (ms : List (Str × V)) (g : {α : Type} → List α → List α → List α → List α) (hk : kws ≠ []) (hms : ∀ q ∈ ms, q ∈ kws)
    (hrel : ∀ {vs mz zs : List V} {us mv ws : List Value}, Vals vs us → Vals mz mv → Vals zs ws → Vals (g vs mz zs) (g us mv ws))
    (h : ∀ (D : Addr) (doc pm : Value) (an : Option Addr) (cdv ct : Value) (us mv ws : List Value), us.length = n → mv.length = ms.length → ws.length = ks.length →
      KwChain D ((ms.map (·.1)).zip mv) (bindArgs (PySem.W.fnOf x qual params body scope .none (.ref D) doc pm an cdv ct) ⟨us, ks.zip ws⟩) (ps.zip (g us mv ws))) :
    ∃ mv : List Value, KBn K fd ps n ks (fun us ws => g us mv ws) (fun vs zs => g vs (ms.map (·.2)) zs) := by
  obtain ⟨oc, od, dV, kV, doc, pm, an, cdv, ct, osl, rfl, lk, hcd, hD, hK⟩ := F.ex
  rcases hD with ⟨_, rfl⟩ | ⟨e, _⟩
  · rcases hK with e | ⟨D, rfl, hq⟩
    · exact absurd e hk
    · obtain ⟨mv, hl, rk, hks⟩ := kwd_vals (ms := ms) fun q hm => hq q (hms q hm)
      refine ⟨mv, ⟨fun s us ws X l1 l2 => ?_, fun r1 r2 => hrel r1 rk r2⟩⟩
      exact BindsTo.of_looks fun M => KwChain.looks X hks (h D doc pm an cdv ct us mv ws l1 hl l2)
  · exact absurd rfl e
end
section
variable {X : Cx} {W : WX} {a b c e o i : Expr} {es rest : List Expr} {ma mb mc me mo mi : ME} {ms mk : MA} {p pos apos pos' tpos : Pos} {x m : Str} {k n j : Nat} {f C : Addr} {fd : FuncData} {ps ks : List Str} {φ : Fn} {dD : List D} {dvs : List V} {ds : List Value} {kws : List Keyword}
abbrev tK (W : WX) (m : MA) : TA := tA W m
theorem PK.weak {kws : List Keyword} {t t' : TA} (h : PK X kws t) (hw : ∀ σ H Q, t' σ H Q → t σ H Q) : PK X kws t' := ⟨fun p pins s σ H Q I q => h.run p pins s σ H Q I (hw _ _ _ q)⟩
theorem pk_dnil : PK X [] (tA W nilM) := PK.weak pk_nil fun σ H Q h => by
  obtain ⟨δ, S, ρ, I, h⟩ := h
  exact RunG.ok h I.st Reps.nil
theorem pk_dcons {nm : Option Str} {kpos : Pos} (ha : PE X e (tE W me)) (hr : PK X kws (tA W ms)) : PK X (⟨nm, e, kpos⟩ :: kws) (tA W (consM me ms)) := PK.weak (pk_cons ha hr) fun σ H Q h => by
  obtain ⟨δ, S, ρ, I, h⟩ := h
  refine bindG I h fun x v S1 H1 ρ1 n1 I1 r1 h1 => ?_
  refine bindG I1 h1 fun xs vs S2 H2 ρ2 n2 I2 r2 h2 => ?_
  exact RunG.ok h2 I2.st (Reps.cons (Rep.mono n2 _ _ r1) r2)
/-- the callee runs, keywords given -/
theorem run_fnKS {pins : List (Addr × Obj)} {σ : St} {H : Hp} {s : Shared} {Q : VK} {us ws : List Value} {vs zs : List V} {sp : Sp} {E : St → XK} {CX : CXT} {g : List Value → List Value → List Value} {gV : List V → List V → List V} (F : FnOk X.prog X.w X.K X.mg X.base CX k f fd ps sp) (hr : Room k X.A) (hb : KBn X.K fd ps n ks g gV) (hx : PassesAt CX X σ (E σ))
    (I : Inv X pins σ H s) (r : Vals vs us) (rz : Vals zs ws) (l1 : vs.length = n) (l2 : zs.length = ks.length) (h : sp (gV vs zs) H Q (E σ)) : wpAny (model X.prog X.w) X.A (call (.ref f) us (ks.zip ws)) (EP X pins σ Q) X.xe s := by
  have r2 := hb.rel r rz
  refine wpAny_call (codeAny_mono (F.run X.A X.stack s H ⟨us, ks.zip ws⟩ (g us ws) (gV vs zs) Q (E σ) hr I.env0 (hb.to s us ws I.kIn (r.length.symm.trans l1) (rz.length.symm.trans l2)) r2 h) fun r s' hq => ?_)
  cases r with
  | error e => exact hx pins H s e s' I hq
  | ok fl =>
    cases fl with
    | ret u => exact I.after hq
    | next => exact False.elim hq
    | brk => exact False.elim hq
    | cont => exact False.elim hq
/-- how values are put in the parameters' order -/
structure GRel (gD : List D → List D → List D) (gV : List V → List V → List V) : Prop where
  rel : ∀ {H : Hp} {ρ : List Addr} {ds es : List D} {vs zs : List V}, Reps H ρ ds vs → Reps H ρ es zs → Reps H ρ (gD ds es) (gV vs zs)
def appN (n j : Nat) (q : Nat) (φ : Fn) (gD : List D → List D → List D) (ms mk : MA) : ME := fun δ S => (ms δ S).bind fun xs S1 => (mk δ S1).bind fun zs S2 => if xs.length = n ∧ zs.length = j then (if (gD xs zs).length = q then φ (gD xs zs) S2 else .stuck) else .stuck
theorem pd_callN {q : Nat} {g : List Value → List Value → List Value} {gV : List V → List V → List V} {gD : List D → List D → List D} (F : FnOk X.prog X.w X.K X.mg X.base (L2.CX X.prog X.w) k f fd ps (spD q φ)) (hr : Room k X.A) (hm : X.mg x = some (.ref f)) (hk : PySem.W.keepIn X.K (.ref f) = true) (hb : KBn X.K fd ps n ks g gV) (gr : GRel gD gV) (tk : TkW X W)
    (ha : PA X (e :: es) (tA W ms)) (hkw : PK X kws (tA W mk)) (hg : Gl X x := by rfl) (hall : (backToKw pos (keywordEach kws X.env)).all (·.1.isSome) = true := by rfl) (hks : (backToKw pos (keywordEach kws X.env)).filterMap (·.1) = ks := by rfl)
    (hdb : (x == ("__debug__" : Str)) = false := by decide) (he : starEach (e :: es) X.env = (false, eval e X.env) :: starEach es X.env := by rfl)
    (hpl : ((backTo pos (starEach (e :: es) X.env)).any (·.1) || (backToKw pos (keywordEach kws X.env)).any (·.1.isNone)) = false := by rfl) :
    PE X (.Call (.Name x p) (e :: es) kws pos) (tE W (appN n ks.length q φ gD ms mk)) := by
  refine ⟨fun pins s σ H Q I h => ?_⟩
  refine wpAny_Call_Name_kw (ld_glob I hg hm ?_ hdb)
  obtain ⟨δ, S, ρ, I', h⟩ := h
  refine PySem.W.callWith_KW (h₀ := X.base) I.ok.mod.kin hk hall (thn (ha.run pos pins s σ H (fun vs H1 => tA W mk σ H1 fun zs H2 => vs.length = n ∧ zs.length = ks.length ∧ spD q φ (gV vs zs) H2 Q (fun c dd H' => W c dd σ H')) I ?_) fun us s1 ⟨vs, H1, I1, r, q⟩ => ?_) hpl he
  · refine bindG I' h fun xs vs S1 H1 ρ1 n1 I1 r1 h1 => ?_
    refine bindG I1 h1 fun zs ws S2 H2 ρ2 n2 I2 r2 h2 => ?_
    split at h2
    · rename_i hl
      have r1' := Reps.mono n2 _ _ r1
      exact ⟨by rw [← r1'.len]; exact hl.1, by rw [← r2.len]; exact hl.2, sp_of I2.st (gr.rel r1' r2) h2⟩
    · exact False.elim h2
  · refine thn (hkw.run pos pins s1 σ H1 _ I1 q) fun ws s2 ⟨zs, H2, I2, rz, l1, l2, q2⟩ => ⟨I2.kIn, ?_⟩
    rw [hks]
    exact run_fnKS (E := fun σ c d H => W c d σ H) F hr hb (tk σ) I2 r rz l1 l2 q2
/-! ### methods -/
open Classical in
noncomputable def selfM (C : Addr) (m : Str) (mo : ME) (kk : D → Store → Res D) (δ : DEnv) (S : Store) : Res D := (mo δ S).bind fun x S1 => match asO S1 x with
  | some (C', ns, ds) => if C' = C ∧ lookS ns ds m = none then kk x S1 else .stuck
  | none => .stuck
noncomputable def methM (C : Addr) (m : Str) (n : Nat) (φ : Fn) (mo : ME) (ms : MA) (dD : List D) : ME := fun δ S => selfM C m mo (fun x S1 => (ms δ S1).bind fun xs S2 => if (x :: (xs ++ dD)).length = n then φ (x :: (xs ++ dD)) S2 else .stuck) δ S
theorem pd_methD {pl : Sem Bool} (c : Cls X.K C) (hm : Meth X.K C m f) (F : FnOk X.prog X.w X.K X.mg X.base (L2.CX X.prog X.w) k f fd ps (spD n φ)) (hr : Room k X.A) (hb : Binds X.K fd ps ds) (hd : Vals dvs ds) (hD : ∀ H ρ, Reps H ρ dD dvs) (tk : TkW X W) (ho : PE X o (tE W mo)) (ha : PA X (e :: es) (tA W ms))
    (hst : starEach (e :: es) X.env = (false, eval e X.env) :: starEach es X.env := by rfl) (hpl : (backTo pos (starEach es X.env)).any (·.1) = false := by rfl)
    (ht : eval (.Call (.Attribute o m apos) (e :: es) [] pos) X.env = (do
      let ov ← eval o X.env
      standAt apos.atName
      let (f, first) ← holding [ov] (getMethod ov m pl)
      callWith pos f first (backTo pos (starEach (e :: es) X.env)) (backToKw pos (keywordEach [] X.env))) := by rfl) :
    PE X (.Call (.Attribute o m apos) (e :: es) [] pos) (tE W (methM C m n φ mo ms dD)) := by
  refine ⟨fun pins s σ H Q I h => ?_⟩
  obtain ⟨δ, S, ρ, I', h⟩ := h
  refine PySem.W.methodCall_KW (pl := pl) (thn (ho.run pins s σ H (fun y H1 => ∃ aa dx fs, y = .ref aa ∧ H1 aa = some (.ins C dx fs) ∧ fs.lookup m = none ∧ tA W ms σ H1 fun vs H2 => spD n φ (y :: (vs ++ dvs)) H2 Q (fun c d H' => W c d σ H')) I ?_) fun u s1 ⟨y, H1, I1, rx, aa, dx, fs, ex, ea, l, q⟩ => ?_) ht
  · unfold methM selfM at h
    refine bindG I' h fun xd v S1 H1 ρ1 n1 I1 r1 h1 => ?_
    split at h1
    · rename_i C' ns ds' eo
      split at h1
      · rename_i hC
        obtain ⟨rfl, hl⟩ := hC
        obtain ⟨aa, dx, vs, rfl, hH, l, r⟩ := asO_rep I1.st r1 eo
        refine ⟨aa, dx, _, rfl, hH, by rw [lookup_zip]; exact lookS_none r.len hl, ?_⟩
        refine bindG I1 h1 fun xs ws S2 H2 ρ2 n2 I2 r2 h2 => ?_
        exact sp_of I2.st (Reps.cons (Rep.mono n2 _ _ r1) (r2.append (hD _ _))) h2
      · exact False.elim h1
    · exact False.elim h1
  · subst ex
    obtain rfl : u = Value.ref aa := rx
    refine getmeth_ok I1 ea c hm l ?_
    refine PySem.W.callWith_K (first := [.ref aa]) (h₀ := X.base) I.ok.mod.kin hm.kp (thn (ha.run pos pins s1 σ H1 _ I1 q) fun us s2 ⟨vs, H2, I2, r, q2⟩ => ⟨I2.kIn, ?_⟩) hst hpl
    exact run_fnSD (E := fun σ c d H => W c d σ H) (us := .ref aa :: us) (vs := .ref aa :: vs) F hr hb hd (tk σ) I2 (.cons rfl r) q2
theorem pd_meth {pl : Sem Bool} (c : Cls X.K C) (hm : Meth X.K C m f) (F : FnOk X.prog X.w X.K X.mg X.base (L2.CX X.prog X.w) k f fd ps (spD n φ)) (hr : Room k X.A) (hb : Binds X.K fd ps []) (tk : TkW X W) (ho : PE X o (tE W mo)) (ha : PA X (e :: es) (tA W ms))
    (hst : starEach (e :: es) X.env = (false, eval e X.env) :: starEach es X.env := by rfl) (hpl : (backTo pos (starEach es X.env)).any (·.1) = false := by rfl)
    (ht : eval (.Call (.Attribute o m apos) (e :: es) [] pos) X.env = (do
      let ov ← eval o X.env
      standAt apos.atName
      let (f, first) ← holding [ov] (getMethod ov m pl)
      callWith pos f first (backTo pos (starEach (e :: es) X.env)) (backToKw pos (keywordEach [] X.env))) := by rfl) :
    PE X (.Call (.Attribute o m apos) (e :: es) [] pos) (tE W (methM C m n φ mo ms [])) := pd_methD c hm F hr hb .nil (fun _ _ => Reps.nil) tk ho ha hst hpl ht
theorem pd_meth0 {pl : Sem Bool} (c : Cls X.K C) (hm : Meth X.K C m f) (F : FnOk X.prog X.w X.K X.mg X.base (L2.CX X.prog X.w) k f fd ps (spD n φ)) (hr : Room k X.A) (hb : Binds X.K fd ps []) (tk : TkW X W) (ho : PE X o (tE W mo))
    (ht : eval (.Call (.Attribute o m apos) [] [] pos) X.env = (do
      let ov ← eval o X.env
      standAt apos.atName
      let (f, first) ← holding [ov] (getMethod ov m pl)
      callWith pos f first (backTo pos (starEach [] X.env)) (backToKw pos (keywordEach [] X.env))) := by rfl) :
    PE X (.Call (.Attribute o m apos) [] [] pos) (tE W (methM C m n φ mo nilM [])) := by
  refine ⟨fun pins s σ H Q I h => ?_⟩
  obtain ⟨δ, S, ρ, I', h⟩ := h
  refine PySem.W.methodCall_KW (pl := pl) (thn (ho.run pins s σ H (fun y H1 => ∃ aa dx fs, y = .ref aa ∧ H1 aa = some (.ins C dx fs) ∧ fs.lookup m = none ∧ spD n φ [y] H1 Q (fun c d H' => W c d σ H')) I ?_) fun u s1 ⟨y, H1, I1, rx, aa, dx, fs, ex, ea, l, q⟩ => ?_) ht
  · unfold methM selfM at h
    refine bindG I' h fun xd v S1 H1 ρ1 n1 I1 r1 h1 => ?_
    split at h1
    · rename_i C' ns ds' eo
      split at h1
      · rename_i hC
        obtain ⟨rfl, hl⟩ := hC
        obtain ⟨aa, dx, vs, rfl, hH, l, r⟩ := asO_rep I1.st r1 eo
        exact ⟨aa, dx, _, rfl, hH, by rw [lookup_zip]; exact lookS_none r.len hl, sp_of (xs := [xd]) I1.st (Reps.one r1) h1⟩
      · exact False.elim h1
    · exact False.elim h1
  · subst ex
    obtain rfl : u = Value.ref aa := rx
    refine getmeth_ok I1 ea c hm l ?_
    exact PySem.W.callWith_K0 (first := [.ref aa]) I1.kIn hm.kp (run_fnSD (E := fun σ c d H => W c d σ H) (dvs := []) (us := [.ref aa]) (vs := [.ref aa]) F hr hb .nil (tk σ) I1 (.cons rfl .nil) q)
noncomputable def methN (C : Addr) (m : Str) (n j q : Nat) (φ : Fn) (gD : List D → List D → List D) (mo : ME) (ms mk : MA) : ME := fun δ S => selfM C m mo (fun x S1 => (ms δ S1).bind fun xs S2 => (mk δ S2).bind fun zs S3 => if (x :: xs).length = n ∧ zs.length = j then (if (gD (x :: xs) zs).length = q then φ (gD (x :: xs) zs) S3 else .stuck) else .stuck) δ S
theorem pd_methN {pl : Sem Bool} {q : Nat} {g : List Value → List Value → List Value} {gV : List V → List V → List V} {gD : List D → List D → List D} (c : Cls X.K C) (hm : Meth X.K C m f) (F : FnOk X.prog X.w X.K X.mg X.base (L2.CX X.prog X.w) k f fd ps (spD q φ)) (hr : Room k X.A) (hb : KBn X.K fd ps n ks g gV) (gr : GRel gD gV) (tk : TkW X W)
    (ho : PE X o (tE W mo)) (ha : PA X (e :: es) (tA W ms)) (hkw : PK X kws (tA W mk)) (hall : (backToKw pos (keywordEach kws X.env)).all (·.1.isSome) = true := by rfl) (hks : (backToKw pos (keywordEach kws X.env)).filterMap (·.1) = ks := by rfl)
    (he : starEach (e :: es) X.env = (false, eval e X.env) :: starEach es X.env := by rfl)
    (hpl : ((backTo pos (starEach (e :: es) X.env)).any (·.1) || (backToKw pos (keywordEach kws X.env)).any (·.1.isNone)) = false := by rfl)
    (ht : eval (.Call (.Attribute o m apos) (e :: es) kws pos) X.env = (do
      let ov ← eval o X.env
      standAt apos.atName
      let (f, first) ← holding [ov] (getMethod ov m pl)
      callWith pos f first (backTo pos (starEach (e :: es) X.env)) (backToKw pos (keywordEach kws X.env))) := by rfl) :
    PE X (.Call (.Attribute o m apos) (e :: es) kws pos) (tE W (methN C m n ks.length q φ gD mo ms mk)) := by
  refine ⟨fun pins s σ H Q I h => ?_⟩
  obtain ⟨δ, S, ρ, I', h⟩ := h
  refine PySem.W.methodCall_KW (pl := pl) (thn (ho.run pins s σ H (fun y H1 => ∃ aa dx fs, y = .ref aa ∧ H1 aa = some (.ins C dx fs) ∧ fs.lookup m = none ∧ tA W ms σ H1 fun vs H2 => tA W mk σ H2 fun zs H3 => (y :: vs).length = n ∧ zs.length = ks.length ∧ spD q φ (gV (y :: vs) zs) H3 Q (fun c d H' => W c d σ H')) I ?_) fun u s1 ⟨y, H1, I1, rx, aa, dx, fs, ex, ea, l, q⟩ => ?_) ht
  · unfold methN selfM at h
    refine bindG I' h fun xd v S1 H1 ρ1 n1 I1 r1 h1 => ?_
    split at h1
    · rename_i C' ns ds' eo
      split at h1
      · rename_i hC
        obtain ⟨rfl, hl⟩ := hC
        obtain ⟨aa, dx, vs, rfl, hH, l, r⟩ := asO_rep I1.st r1 eo
        refine ⟨aa, dx, _, rfl, hH, by rw [lookup_zip]; exact lookS_none r.len hl, ?_⟩
        refine bindG I1 h1 fun xs ws S2 H2 ρ2 n2 I2 r2 h2 => ?_
        refine bindG I2 h2 fun zs us S3 H3 ρ3 n3 I3 r3 h3 => ?_
        split at h3
        · rename_i hlen
          have r1' := Rep.mono (n2.trans n3) _ _ r1
          have r2' := Reps.mono n3 _ _ r2
          have r12 := Reps.cons r1' r2'
          exact ⟨by rw [← r12.len]; exact hlen.1, by rw [← r3.len]; exact hlen.2, sp_of I3.st (gr.rel r12 r3) h3⟩
        · exact False.elim h3
      · exact False.elim h1
    · exact False.elim h1
  · subst ex
    obtain rfl : u = Value.ref aa := rx
    refine getmeth_ok I1 ea c hm l ?_
    refine PySem.W.callWith_KW (first := [.ref aa]) (h₀ := X.base) I.ok.mod.kin hm.kp hall (thn (ha.run pos pins s1 σ H1 _ I1 q) fun us s2 ⟨vs, H2, I2, r, q2⟩ => ?_) hpl he
    refine thn (hkw.run pos pins s2 σ H2 _ I2 q2) fun ws s3 ⟨zs, H3, I3, rz, l1, l2, q3⟩ => ⟨I3.kIn, ?_⟩
    rw [hks]
    exact run_fnKS (E := fun σ c d H => W c d σ H) (us := .ref aa :: us) (vs := .ref aa :: vs) F hr hb (tk σ) I3 (.cons rfl r) rz l1 l2 q3
end
end SL

/-! SL: new objects, stores by place, augmented stores, methods of lists. -/
namespace SL
open PySem PySem.Spec L2
open PyProof.Rows hiding St
section
variable {X : Cx} {W : WX} {a b c e o i value : Expr} {es rest : List Expr} {ma mb mc me mo mi mv : ME} {ms mk : MA} {p pos apos pos' tpos : Pos} {x m : Str} {k n j : Nat} {f C : Addr} {fd : FuncData} {ps ks : List Str} {φ : Fn} {dD : List D} {dvs : List V} {ds : List Value} {kws : List Keyword}
/-! ### C(..) -/
theorem run_makeSD {pins : List (Addr × Obj)} {σ : St} {H : Hp} {s : Shared} {Q : VK} {us : List Value} {vs : List V} {sp : Sp} {E : XK} {CX : CXT} (M : Mk X.K C f) (F : FnOk X.prog X.w X.K X.mg X.base CX k f fd ps sp) (hr : Room (k + 1) X.A) (hb : Binds X.K fd ps ds) (hd : Vals dvs ds)
    (hx : PassesAt CX X σ E) (I : Inv X pins σ H s) (r : Vals vs us)
    (h : ∀ x dx, H x = none → H dx = none → dx ≠ x → sp (.ref x :: (vs ++ dvs)) (upd (upd H dx (.own x)) x (.ins C dx [])) (fun v H2 => v = .non ∧ Q (.ref x) H2) E) :
    wpAny (model X.prog X.w) X.A (call (.ref C) us) (EP X pins σ Q) X.xe s := by
  have hq := h (s.heap.objs.size + 1) s.heap.objs.size (I.hok.fresh (Nat.le_succ _)) (I.hok.fresh (Nat.le_refl _)) (Nat.ne_of_lt (Nat.lt_succ_self _))
  have I2 := Inv.made (C := C) I
  have r2 : Vals (V.ref (s.heap.objs.size + 1) :: (vs ++ dvs)) (Value.ref (s.heap.objs.size + 1) :: (us ++ ds)) := .cons rfl (r.append hd)
  have hl : (Value.ref (s.heap.objs.size + 1) :: us ++ ds).length = ps.length := by
    have e := r2.length
    rw [F.len _ _ _ _ hq] at e
    exact e.symm
  refine wpAny_call (make_map (f := f) I.kIn M.makes M.init (beq_iff_eq.mp M.fn) (codeAny_mono (F.run _ X.stack _ _ ⟨Value.ref (s.heap.objs.size + 1) :: us, []⟩ (Value.ref (s.heap.objs.size + 1) :: (us ++ ds)) _ _ E (hr.make C us [])
    (I2.env0.make C us []) (hb _ (Value.ref (s.heap.objs.size + 1) :: us) I2.kIn hl) r2 hq) fun r s' hq' => ?_))
  cases r with
  | error e => exact hx pins _ _ e s' I2 hq'
  | ok fl =>
    cases fl with
    | ret u =>
      obtain ⟨v, H', I3, rv, ev, q3⟩ := I2.after hq'
      subst ev
      exact ⟨rv, ⟨V.ref (s.heap.objs.size + 1), H', I3, rfl, q3⟩⟩
    | next => exact False.elim hq'
    | brk => exact False.elim hq'
    | cont => exact False.elim hq'
def isNon : D → Bool
  | .non => true
  | _ => false
def mkM (C : Addr) (n : Nat) (φ : Fn) (xs : List D) (S1 : Store) : Res D := if (D.loc S1.length :: xs).length = n then (φ (.loc S1.length :: xs) (S1 ++ [.obj C [] []])).bind fun r S2 => if isNon r = true then .ok (.loc S1.length) S2 else .stuck else .stuck
/-- C(..), kept as an object of the store -/
def makeM (C : Addr) (n : Nat) (φ : Fn) (ms : MA) (dD : List D) : ME := fun δ S => (ms δ S).bind fun xs S1 => mkM C n φ (xs ++ dD) S1
/-- C(..), as it stands from then on -/
noncomputable def makeF (C : Addr) (n : Nat) (φ : Fn) (ms : MA) (dD : List D) : ME := fun δ S => (ms δ S).bind fun xs S1 => (mkM C n φ (xs ++ dD) S1).bind fun d S2 => finV S1 d S2
theorem mk_run {σ : St} {H : Hp} {ρ : List Addr} {S1 : Store} {xs : List D} {vs : List V} {Q : VK} (st : StS H S1 ρ) (r : Reps H ρ xs vs) (h : RunG W Rep σ H ρ (mkM C n φ xs S1) Q) (y dx : Addr) (hy : H y = none) (hdx : H dx = none) (ne : dx ≠ y) :
    spD n φ (.ref y :: vs) (upd (upd H dx (.own y)) y (.ins C dx [])) (fun v H2 => v = .non ∧ Q (.ref y) H2) (fun c dd H' => W c dd σ H') := by
  unfold mkM at h
  split at h
  · rename_i hl
    have hy' : upd H dx (.own y) y = none := by rw [upd_ne (Ne.symm ne)]; exact hy
    have n1 : Nx H ρ (upd H dx (.own y)) ρ := Nx.alloc hdx
    have n2 : Nx (upd H dx (.own y)) ρ (upd (upd H dx (.own y)) y (.ins C dx [])) (ρ ++ [y]) := Nx.push hy'
    have n12 := n1.trans n2
    have st2 : StS (upd (upd H dx (.own y)) y (.ins C dx [])) (S1 ++ [.obj C [] []]) (ρ ++ [y]) := (st.alloc hdx).push hy' ⟨dx, [], upd_same, rfl, Reps.nil⟩
    have hloc : (ρ ++ [y])[S1.length]? = some y := by rw [← st.len]; simp
    refine ⟨_, _, _, hl, st2, Reps.cons ⟨y, hloc, rfl⟩ (Reps.mono n12 _ _ r), ?_⟩
    cases e : φ (D.loc S1.length :: xs) (S1 ++ [.obj C [] []]) with
    | ok d S2 =>
      rw [e] at h
      simp only [bind_ok] at h
      split at h
      · rename_i hd
        intro v H' ρ' nn st' rv
        cases d with
        | non =>
          cases rv
          exact ⟨rfl, h (.ref y) H' ρ' (n12.trans nn) st' ⟨y, nn.at hloc, rfl⟩⟩
        | _ => cases hd
      · exact False.elim h
    | exc x S2 =>
      rw [e] at h
      exact fun c dd H' ρ' nn st' rx => h c dd H' ρ' (n12.trans nn) st' rx
    | stuck => rw [e] at h; exact False.elim h
  · exact False.elim h
theorem pd_makeD (M : Mk X.K C f) (F : FnOk X.prog X.w X.K X.mg X.base (L2.CX X.prog X.w) k f fd ps (spD n φ)) (hr : Room (k + 1) X.A) (hm : X.mg x = some (.ref C)) (hb : Binds X.K fd ps ds) (hd : Vals dvs ds) (hD : ∀ H ρ, Reps H ρ dD dvs) (tk : TkW X W)
    (ha : PA X (e :: es) (tA W ms)) (hg : Gl X x := by rfl) (hdb : (x == ("__debug__" : Str)) = false := by decide) (he : starEach (e :: es) X.env = (false, eval e X.env) :: starEach es X.env := by rfl) (hpl : (backTo pos (starEach es X.env)).any (·.1) = false := by rfl) :
    PE X (.Call (.Name x p) (e :: es) [] pos) (tE W (makeM C n φ ms dD)) := by
  refine ⟨fun pins s σ H Q I h => ?_⟩
  obtain ⟨δ, S, ρ, I', h⟩ := h
  refine wpAny_Call_Name_kw (ld_glob I hg hm ?_ hdb)
  refine PySem.W.callWith_K (h₀ := X.base) I.ok.mod.kin M.kp (thn (ha.run pos pins s σ H (fun vs H1 => ∀ y dx, H1 y = none → H1 dx = none → dx ≠ y → spD n φ (.ref y :: (vs ++ dvs)) (upd (upd H1 dx (.own y)) y (.ins C dx [])) (fun v H2 => v = .non ∧ Q (.ref y) H2) (fun c dd H' => W c dd σ H')) I ?_) fun us s1 ⟨vs, H1, I1, r, q⟩ => ⟨I1.kIn, ?_⟩) he hpl
  · refine bindG I' h fun xs vs S1 H1 ρ1 n1 I1 r1 h1 => ?_
    exact fun y dx hy hdx ne => mk_run I1.st (r1.append (hD _ _)) h1 y dx hy hdx ne
  · exact run_makeSD (E := fun c d H => W c d σ H) M F hr hb hd (tk σ) I1 r q
theorem pd_make (M : Mk X.K C f) (F : FnOk X.prog X.w X.K X.mg X.base (L2.CX X.prog X.w) k f fd ps (spD n φ)) (hr : Room (k + 1) X.A) (hm : X.mg x = some (.ref C)) (hb : Binds X.K fd ps []) (tk : TkW X W)
    (ha : PA X (e :: es) (tA W ms)) (hg : Gl X x := by rfl) (hdb : (x == ("__debug__" : Str)) = false := by decide) (he : starEach (e :: es) X.env = (false, eval e X.env) :: starEach es X.env := by rfl) (hpl : (backTo pos (starEach es X.env)).any (·.1) = false := by rfl) :
    PE X (.Call (.Name x p) (e :: es) [] pos) (tE W (makeM C n φ ms [])) := pd_makeD M F hr hm hb .nil (fun _ _ => Reps.nil) tk ha hg hdb he hpl
/-- what is made is let go as a tree -/
noncomputable def freezeM (me : ME) : ME := fun δ S => (me δ S).bind fun d S2 => finV S d S2
theorem pd_freeze (h : PE X e (tE W me)) : PE X e (tE W (freezeM me)) := PE.weak h fun σ H Q h => by
  obtain ⟨δ, S, ρ, I, h⟩ := h
  refine ⟨δ, S, ρ, I, ?_⟩
  unfold freezeM at h
  cases em : me δ S with
  | ok d S2 =>
    rw [em] at h
    exact fun v H' ρ' n st r => finV_run I.st h n st r
  | exc x S2 => rw [em] at h; exact h
  | stuck => rw [em] at h; exact h
/-! ### methods of lists of the store -/
def locL (S : Store) : D → Option (Nat × List D)
  | .loc n => match S[n]? with
    | some (.lst ds) => some (n, ds)
    | _ => none
  | _ => none
theorem locL_rep {H : Hp} {ρ : List Addr} {S : Store} {d : D} {v : V} {n : Nat} {ds : List D} (st : StS H S ρ) (r : Rep H ρ d v) (h : locL S d = some (n, ds)) : d = .loc n ∧ S[n]? = some (.lst ds) ∧ ∃ a vs, v = .ref a ∧ ρ[n]? = some a ∧ H a = some (.lst vs) ∧ Reps H ρ ds vs := by
  cases d with
  | loc m =>
    simp only [locL] at h
    split at h
    · rename_i es e
      cases h
      obtain ⟨a, ea, rfl⟩ := r
      obtain ⟨vs, h1, r1⟩ := st.cells _ a _ ea e
      exact ⟨rfl, e, a, vs, rfl, ea, h1, r1⟩
    · cases h
  | _ => cases h
/-- what a method makes of a list: its answer, the new list -/
def lmM (g : List D → List D → Option (D × List D)) (mo : ME) (ms : MA) : ME := fun δ S => (mo δ S).bind fun x S1 => match locL S1 x with
  | some _ => (ms δ S1).bind fun xs S2 => match locL S2 x with
    | some (n, ds) => match g ds xs with
      | some (d, es) => .ok d (S2.set n (.lst es))
      | none => .stuck
    | none => .stuck
  | none => .stuck
def LmSnd (r : V → List V → Hp → VK → Prop) (g : List D → List D → Option (D × List D)) : Prop := ∀ (H : Hp) (ρ : List Addr) (ds xs : List D) (d : D) (es : List D) (aa : Addr) (vs us : List V) (Q : VK), H aa = some (.lst vs) → Reps H ρ ds vs → Reps H ρ xs us → g ds xs = some (d, es) →
  (∀ v ws, Rep H ρ d v → Reps H ρ es ws → Q v (upd H aa (.lst ws))) → r (.ref aa) us H Q
theorem lm_run {r : V → List V → Hp → VK → Prop} {g : List D → List D → Option (D × List D)} (s : LmSnd r g) {σ : St} {H : Hp} {ρ : List Addr} {S2 : Store} {x : D} {v : V} {xs : List D} {us : List V} {Q : VK} {n : Nat} {ds : List D} (st : StS H S2 ρ) (rx : Rep H ρ x v) (ru : Reps H ρ xs us) (e : locL S2 x = some (n, ds))
    (h : RunG W Rep σ H ρ (match g ds xs with | some (d, es) => Res.ok d (S2.set n (.lst es)) | none => .stuck) Q) : r v us H Q := by
  obtain ⟨rfl, ec, aa, vs, rfl, ea, hH, rv⟩ := locL_rep st rx e
  split at h
  · rename_i d es eg
    refine s H ρ ds xs d es aa vs us Q hH rv ru eg fun w ws rw' rws => ?_
    have hm : aa ∈ ρ := List.mem_of_getElem? ea
    have nx : Nx H ρ (upd H aa (.lst ws)) ρ := Nx.set hm (by rw [hH]; simp)
    exact RunG.okN h nx (st.set ea ⟨ws, upd_same, Reps.mono nx _ _ rws⟩) (Rep.mono nx _ _ rw')
  · exact False.elim h
theorem pd_lm {name : Str} {id : String} {r : V → List V → Hp → VK → Prop} {g : List D → List D → Option (D × List D)} (slot : Slot "list" name id) (hty : typeOf (.builtin id) = pure (.type "method_descriptor")) (hm : MtR X id r) (s : LmSnd r g) (ho : PE X o (tE W mo)) (ha : PA X (e :: es) (tA W ms))
    (hbase : attributeBase o name X.env (eval o X.env) = eval o X.env := by rfl)
    (hfew : ((backTo pos (starEach (e :: es) X.env)).all (fun x => !x.1) && (backToKw pos (keywordEach [] X.env)).all (fun x => x.1.isSome)
      && decide ((e :: es).length + ([] : List Keyword).length + (if ([] : List Keyword).isEmpty then 0 else 1) < 30)) = true := by rfl)
    (hline : (apos.endLine == pos.line) = true := by rfl) (hs : starEach (e :: es) X.env = (false, eval e X.env) :: starEach es X.env := by rfl) (hplain : (backTo pos (starEach es X.env)).any (·.1) = false := by rfl) :
    PE X (.Call (.Attribute o name apos) (e :: es) [] pos) (tE W (lmM g mo ms)) := by
  refine PE.weak (pe_bm PySem.F.plainAttrs_list slot hty hm ho ha hbase hfew hline hs hplain) fun σ H Q h => ?_
  obtain ⟨δ, S, ρ, I, h⟩ := h
  refine bindG I h fun x v S1 H1 ρ1 n1 I1 r1 h1 => ?_
  split at h1
  · rename_i q eq
    obtain ⟨n0, ds0⟩ := q
    obtain ⟨rfl, ec, aa, vs, rfl, ea, hH, rv⟩ := locL_rep I1.st r1 eq
    refine ⟨.inl ⟨rfl, vs, .inl (.inl hH)⟩, ?_⟩
    refine bindG I1 h1 fun xs us S2 H2 ρ2 n2 I2 r2 h2 => ?_
    split at h2
    · rename_i n ds e2
      exact lm_run (W := W) s I2.st (Rep.mono n2 _ _ r1) r2 e2 h2
    · exact False.elim h2
  · exact False.elim h1
theorem pd_lm0 {name : Str} {id : String} {r : V → List V → Hp → VK → Prop} {g : List D → List D → Option (D × List D)} (slot : Slot "list" name id) (hty : typeOf (.builtin id) = pure (.type "method_descriptor")) (hm : MtR X id r) (s : LmSnd r g) (ho : PE X o (tE W mo))
    (hbase : attributeBase o name X.env (eval o X.env) = eval o X.env := by rfl) (hline : (apos.endLine == pos.line) = true := by rfl) :
    PE X (.Call (.Attribute o name apos) [] [] pos) (tE W (lmM g mo nilM)) := by
  refine PE.weak (pe_bm0 PySem.F.plainAttrs_list slot hty hm ho hbase hline) fun σ H Q h => ?_
  obtain ⟨δ, S, ρ, I, h⟩ := h
  refine bindG I h fun x v S1 H1 ρ1 n1 I1 r1 h1 => ?_
  split at h1
  · rename_i q eq
    obtain ⟨n0, ds0⟩ := q
    obtain ⟨rfl, ec, aa, vs, rfl, ea, hH, rv⟩ := locL_rep I1.st r1 eq
    refine ⟨.inl ⟨rfl, vs, .inl (.inl hH)⟩, ?_⟩
    simp only [nilM, bind_ok, eq] at h1
    exact lm_run (W := W) (xs := []) s I1.st r1 Reps.nil eq h1
  · exact False.elim h1
def appendG (ds xs : List D) : Option (D × List D) := match xs with
  | [x] => if ds.length < 1000000 then some (.non, ds ++ [x]) else none
  | _ => none
theorem snd_append : LmSnd rAppend appendG := by
  intro H ρ ds xs d es aa vs us Q hH r ru e k
  unfold appendG at e
  split at e
  · rename_i x
    split at e
    · rename_i hl
      cases e
      obtain ⟨v, ws, rfl, rx, rw'⟩ := ru
      cases rw'
      exact ⟨aa, vs, v, rfl, rfl, hH, by rw [← r.len]; exact Nat.lt_of_lt_of_le hl (by decide), k .non (vs ++ [v]) rfl (r.append (Reps.one rx))⟩
    · cases e
  · cases e
def popG (ds xs : List D) : Option (D × List D) := match xs with
  | [] => match ds[ds.length - 1]? with
    | some d => some (d, ds.dropLast)
    | none => none
  | _ => none
theorem Reps.dropLast {H : Hp} {ρ : List Addr} {ds : List D} {vs : List V} (r : Reps H ρ ds vs) : Reps H ρ ds.dropLast vs.dropLast := by
  rw [List.dropLast_eq_take, List.dropLast_eq_take, r.len]
  exact r.take _
theorem snd_pop : LmSnd rPop popG := by
  intro H ρ ds xs d es aa vs us Q hH r ru e k
  unfold popG at e
  split at e
  · split at e
    · rename_i d' ed
      cases e
      cases ru
      obtain ⟨v, ev, rv⟩ := Reps.getD r ed
      exact ⟨aa, vs, v, rfl, rfl, hH, by rw [← r.len]; exact ev, k v _ rv r.dropLast⟩
    · cases e
  · cases e
def popAtG (ds xs : List D) : Option (D × List D) := match xs with
  | [.int i] => if 0 ≤ i ∧ i < 1000000 then (match ds[i.toNat]? with
      | some d => some (d, ds.eraseIdx i.toNat)
      | none => none) else none
  | _ => none
theorem snd_popAt : LmSnd rPopAt popAtG := by
  intro H ρ ds xs d es aa vs us Q hH r ru e k
  unfold popAtG at e
  split at e
  · rename_i i
    split at e
    · rename_i hi
      split at e
      · rename_i d' ed
        cases e
        obtain ⟨u, ws, rfl, rx, rw'⟩ := ru
        cases rw'; cases rx
        obtain ⟨v, ev, rv⟩ := Reps.getD r ed
        have hl := (List.getElem?_eq_some_iff.mp ev).1
        have hx : ixN vs.length i = some i.toNat := by
          unfold ixN
          rw [if_pos hi.1, if_pos (by omega)]
        exact ⟨aa, vs, i, i.toNat, v, rfl, rfl, hH, by omega, by omega, (ixN_seq hx).1, ev, k v _ rv (r.eraseIdx _)⟩
      · cases e
    · cases e
  · cases e
/-! ### x[i] = e of a list of the store -/
def setG (ds : List D) (i d : D) : Option (List D) := match i with
  | .int k => match ixN ds.length k with
    | some j => some (ds.set j d)
    | none => none
  | _ => none
def setIM (mo mi mv : ME) : MS := fun δ S => bindS (mv δ S) δ fun d S1 => bindS (mo δ S1) δ fun x S2 => bindS (mi δ S2) δ fun y S3 => match locL S3 x with
  | some (n, ds) => match setG ds y d with
    | some es => .nx δ (S3.set n (.lst es))
    | none => .stuck
  | none => .stuck
theorem ps_dseti (ho : PE X o (tE W mo)) (hi : PE X i (tE W mi)) (hv : PE X value (tE W mv))
    (ha : ∀ v, assign (.Subscript o i pos') X.env v = (do
      let ov ← holding [v] (eval o X.env)
      let iv ← holding [v, ov] (eval i X.env)
      standAt pos'
      holding [v, ov, iv] (setItem ov iv v)
      release [v, ov, iv] []) := by intro _; rfl) (hs : swapsWithSole [.Subscript o i pos'] value pos.line X.env = pure false := by rfl) (hw : swappedStores [.Subscript o i pos'] value X.env = pure none := by rfl)
    (h1 : (assignEach [.Subscript o i pos'] X.env).map (·.2) = [assign (.Subscript o i pos') X.env] := by rfl) : PS X (.Assign [.Subscript o i pos'] value pos) (tS W (setIM mo mi mv)) :=
  PS.weak (ps_asg hv (pg_sub ho hi set_list ha) hs hw h1) fun G σ H h => by
    obtain ⟨δ, S, ρ, I, h⟩ := h
    refine bindGF I h fun d v S1 H1 ρ1 n1 I1 r1 h1 => ?_
    refine bindGF I1 h1 fun x u S2 H2 ρ2 n2 I2 r2 h2 => ?_
    refine bindGF I2 h2 fun y w S3 H3 ρ3 n3 I3 r3 h3 => ?_
    split at h3
    · rename_i n ds el
      obtain ⟨rfl, ec, aa, vs, rfl, ea, hH, rv⟩ := locL_rep I3.st (Rep.mono n3 _ _ r2) el
      unfold setG at h3
      split at h3
      · rename_i es eg
        split at eg
        · rename_i kk
          split at eg
          · rename_i jj ej
            cases eg
            cases r3
            have hm : aa ∈ ρ3 := List.mem_of_getElem? ea
            have rd := Rep.mono (n2.trans n3) _ _ r1
            have rs := Reps.set jj rv rd
            have nx : Nx H3 ρ3 (upd H3 aa (.lst (vs.set jj v))) ρ3 := Nx.set hm (by rw [hH]; simp)
            have st3 := I3.st.set (o := .lst (vs.set jj v)) (c := .lst (ds.set jj d)) ea ⟨_, upd_same, Reps.mono nx _ _ rs⟩
            exact ⟨aa, vs, kk, jj, rfl, rfl, hH, by rw [← rv.len]; exact ej, h3 σ _ ρ3 nx ⟨st3, I3.env.mono nx⟩⟩
          · cases eg
        · cases eg
      · exact False.elim h3
    · exact False.elim h3
/-! ### x op= e -/
def augM (i : Nat) (g : Store → D → D → Option D) (me : ME) : MS := fun δ S => match δ[i]? with
  | some (some x) => bindS (me δ S) δ fun y S1 => match g S1 x y with
    | some z => .nx (δ.set i (some z)) S1
    | none => .stuck
  | _ => .stuck
theorem ps_daug {op : Operator} {r : R2} {g : Store → D → D → Option D} (hN : X.N.Nodup) (hi : X.N[n]? = some x) (hx : Loc X.env.scope x) (hop : OpR X (inplaceOp op) r) (s : OpSnd r g) (he : PE X e (tE W me)) (hf : X.fn x = true ∨ X.env.scope.names.lookup x = some .local := by first | exact .inl rfl | exact .inr rfl | assumption) :
    PS X (.AugAssign (.Name x pos') op e pos) (tS W (augM n g me)) := PS.weak (ps_aug (ti := r) hN hi hx he (fun pins s σ H x y v u Q I rx ry h => hop pins s σ H x y v u Q I rx ry h) hf) fun G σ H h => by
  obtain ⟨δ, S, ρ, I, h⟩ := h
  unfold augM at h
  split at h
  · rename_i d ed
    obtain ⟨v, ev, rv⟩ := I.env.2 n d ed
    refine ⟨v, ev, ?_⟩
    refine bindGF I h fun y u S1 H1 ρ1 n1 I1 r1 h1 => ?_
    split at h1
    · rename_i z eg
      exact s H1 ρ1 S1 d y z v u _ I1.st (Rep.mono n1 _ _ rv) r1 eg fun w H' nn st rw' => h1 _ H' ρ1 nn ⟨st, (I1.env.mono nn).set n rw'⟩
    · exact False.elim h1
  · exact False.elim h
open Classical in
noncomputable def fldaugM (C : Addr) (fl : Str) (g : Store → D → D → Option D) (mo mv : ME) : MS := fun δ S => bindS (mo δ S) δ fun x S1 => match x with
  | .loc n => match S1[n]? with
    | some (.obj C' ns ds) => if C' = C then (match lookS ns ds fl with
        | some d => bindS (mv δ S1) δ fun y S2 => match S2[n]? with
          | some (.obj C2 ns2 ds2) => if C2 = C ∧ ns2.length < 1000 then (match g S2 d y with
              | some z => .nx δ (S2.set n (.obj C2 (putS ns2 ds2 fl z).1 (putS ns2 ds2 fl z).2))
              | none => .stuck) else .stuck
          | _ => .stuck
        | none => .stuck) else .stuck
    | _ => .stuck
  | _ => .stuck
theorem ps_dfldaug {op : Operator} {r : R2} {g : Store → D → D → Option D} (cl : Cls X.K C) (nf : NoAttr X.K C m) (hop : OpR X (inplaceOp op) r) (s : OpSnd r g) (ho : PE X o (tE W mo)) (hv : PE X value (tE W mv)) :
    PS X (.AugAssign (.Attribute o m tpos) op value pos) (tS W (fldaugM C m g mo mv)) := PS.weak (ps_fldaug (rd := r) ho hv (fun pins s σ H x y u v Q I rx ry h => hop pins s σ H x y u v Q I rx ry h)) fun G σ H h => by
  obtain ⟨δ, S, ρ, I, h⟩ := h
  refine bindGF I h fun x v S1 H1 ρ1 n1 I1 r1 h1 => ?_
  split at h1
  · rename_i n
    split at h1
    · rename_i C' ns ds ec
      split at h1
      · rename_i hC
        subst hC
        split at h1
        · rename_i d ed
          obtain ⟨aa, ea, rfl⟩ := r1
          obtain ⟨dx, vs, hH, l, rv⟩ := I1.st.cells n aa _ ea ec
          obtain ⟨w, ew, rw1⟩ := lookS_rep rv ed
          refine ⟨aa, C', dx, _, w, rfl, hH, cl, nf, by rw [lookup_zip]; exact ew, ?_⟩
          refine bindGF I1 h1 fun y u S2 H2 ρ2 n2 I2 r2 h2 => ?_
          split at h2
          · rename_i C2 ns2 ds2 ec2
            split at h2
            · rename_i hC2
              obtain ⟨rfl, hlen⟩ := hC2
              split at h2
              · rename_i z eg
                refine s H2 ρ2 S2 d y z w u _ I2.st (Rep.mono n2 _ _ rw1) r2 eg fun w3 H3 n3 st3 rw3 => ?_
                have ea3 := n3.at (n2.at ea)
                obtain ⟨dx3, vs3, hH3, l3, rv3⟩ := st3.cells n aa _ ea3 ec2
                have hm : aa ∈ ρ2 := List.mem_of_getElem? ea3
                obtain ⟨z1, z2⟩ := putS_zip (q := m) (x := w3) (ins_rep_len l3 rv3)
                obtain ⟨p1, p2⟩ := putS_rep (q := m) rw3 l3 rv3
                refine ⟨dx3, _, hH3, by rw [List.length_zip, ins_rep_len l3 rv3, Nat.min_self, ← ins_rep_len l3 rv3]; exact hlen, ?_⟩
                rw [z1]
                have nx : Nx H3 ρ2 (upd H3 aa (.ins C2 dx3 ((putS ns2 vs3 m w3).1.zip (putS ns2 vs3 m w3).2))) ρ2 := Nx.set hm (by rw [hH3]; simp)
                have st4 := st3.set (o := .ins C2 dx3 ((putS ns2 vs3 m w3).1.zip (putS ns2 vs3 m w3).2)) (c := .obj C2 (putS ns2 ds2 m z).1 (putS ns2 ds2 m z).2) ea3 ⟨dx3, _, by rw [upd_same, p1], putS_len l3, Reps.mono nx _ _ p2⟩
                exact h2 σ _ ρ2 (n3.trans nx) ⟨st4, (I2.env.mono n3).mono nx⟩
              · exact False.elim h2
            · exact False.elim h2
          · exact False.elim h2
        · exact False.elim h1
      · exact False.elim h1
    · exact False.elim h1
  · exact False.elim h1
end
end SL

/-! SL: own exceptions: their making, raise, try .. except X as e. -/
namespace SL
open PySem PySem.Spec L2
open PyProof.Rows hiding St
section
variable {X : Cx} {CX : CXT} {k : Nat} {f K0 : Addr} {fd : FuncData} {ps : List Str} {sp : Sp} {E : St → XK} {x m : Str} {p p2 pos : Pos} {e : Expr} {es : List Expr} {ta : TE} {t : TA}
/-- C0.m(self, ..), C0 a class of the module, m a def of it -/
theorem pe_clsfn {pl : Sem Bool} (F : FnOk X.prog X.w X.K X.mg X.base CX k f fd ps sp) (hr : Room k X.A) (hm : X.mg x = some (.ref K0)) (r : ClX.CRead X.K K0 (.type "type")) (cv : ClX.CVal X.K K0 (.type "type") m (.ref f) (.ref f)) (hk : PySem.W.keepIn X.K (.ref f) = true) (hb : Binds X.K fd ps []) (hx : ∀ σ, PassesAt CX X σ (E σ))
    (ha : PA X (e :: es) t) (hg : Gl X x := by rfl) (hdb : (x == ("__debug__" : Str)) = false := by decide)
    (he : starEach (e :: es) X.env = (false, eval e X.env) :: starEach es X.env := by rfl) (hpl : (backTo pos (starEach es X.env)).any (·.1) = false := by rfl)
    (hc : eval (.Call (.Attribute (.Name x p) m p2) (e :: es) [] pos) X.env = (do
      let ov ← eval (.Name x p) X.env
      standAt p2.atName
      let (f, first) ← holding [ov] (getMethod ov m pl)
      callWith pos f first (backTo pos (starEach (e :: es) X.env)) (backToKw pos (keywordEach [] X.env))) := by rfl) :
    PE X (.Call (.Attribute (.Name x p) m p2) (e :: es) [] pos) (tCallS sp E t) := by
  refine ⟨fun pins s σ H Q I h => ?_⟩
  refine PySem.W.methodCall_KW (ld_glob I hg hm ?_ hdb) hc
  refine PySem.W.method_cls I.kIn r.ga (ClX.getcval_ok I r cv fun s1 I1 => ?_)
  refine PySem.W.callWith_K (h₀ := X.base) (first := []) I1.ok.mod.kin hk (thn (ha.run pos pins s1 σ H _ I1 h) fun us s2 ⟨vs, H1, I2, r1, q⟩ => ⟨I2.kIn, ?_⟩) he hpl
  exact run_fnS F hr hb (hx σ) I2 r1 q
end
/-- an own exception's __init__: n further values, all fields put at once -/
def spI (K : PySem.W.Frag) (n : Nat) (fs : List Str) (g : List V → List V) : Sp := fun vs H Q E => ∃ a C ws, vs = .ref a :: ws ∧ ws.length = n ∧ OexC K C ∧ (∀ f ∈ fs, PySem.W.findIn K (.ref C) f = some none) ∧ H a = some (exo a C none) ∧
  ∀ dx, H dx = none → dx ≠ a → Q .non (upd (upd H dx (exd dx (fs.zip (g ws)))) a (exo a C (some dx)))
abbrev E00 : St → XK := fun _ _ _ _ => False
theorem passNo {P : Program} {w : World} {X : Cx} (σ : St) : PassesAt (L2.CX P w) X σ (E00 σ) := fun pins H s e s' I c => by
  obtain ⟨a, B, H', cls, d, _, _, _, _, _, _, _, h⟩ := c
  exact False.elim h
theorem passNoC {P : Program} {w : World} {X : Cx} : Passes (L2.CX P w) X (fun _ _ _ => False) := fun pins σ H s e s' I c => by
  obtain ⟨a, B, H', cls, d, _, _, _, _, _, _, _, h⟩ := c
  exact False.elim h
theorem upd_old {H : Hp} {a dx : Addr} {C : Addr} {fs gs : List (Str × V)} (h : dx ≠ a) : upd (upd (upd H dx (exd dx fs)) a (exo a C (some dx))) dx (exd dx gs) = upd (upd H dx (exd dx gs)) a (exo a C (some dx)) := by
  funext b
  by_cases hb : b = dx
  · subst hb
    rw [upd_same, upd_ne h, upd_same]
  · rw [upd_ne hb]
    by_cases hba : b = a
    · subst hba
      rw [upd_same, upd_same]
    · rw [upd_ne hba, upd_ne hb, upd_ne hba, upd_ne hb]
theorem upd_ob {H : Hp} {a dx : Addr} {o u : HO} (h : dx ≠ a) : (upd (upd H dx o) a u) a = some u ∧ (upd (upd H dx o) a u) dx = some o := ⟨upd_same, by rw [upd_ne h, upd_same]⟩
section
variable {P : Program} {w : World} {K : PySem.W.Frag} {mg : Str → Option Value} {base : Heap} {k n : Nat} {f : Addr} {fd : FuncData} {x qual : Str} {params : Arguments} {body : List Stmt} {scope : Scope} {dvs : List V} {kws : List (Str × V)} {N ps fs : List Str} {g : List V → List V} {t : TS}
theorem init_of (F : FunD K x qual params body scope dvs kws f fd) (S : FnScope N ps scope) (hn : ps.length = n + 1)
    (hb : ∀ (cdv : Value) (A : Around) (outer : List Env) (s : Shared) (H : Hp) (E : XK), Room k (A.deeper (envOfC qual scope s.heap.objs.size f cdv)) → PSs (cxOf (L2.CX P w) P w K mg base N qual scope f cdv A outer s H E) body t)
    (ht : ∀ vs H Q E, spI K n fs g vs H Q E → t { nx := fun _ H' => Q .non H', rt := Q } (L2.start N vs) H) : FnOk P w K mg base (L2.CX P w) (k + 1) f fd ps (spI K n fs g) :=
  FunD.ok F S (fun vs H Q E h => by
    obtain ⟨a, C, ws, rfl, hl, _⟩ := h
    simp [hl, hn]) (fun cdv A outer s H vs Q E hr h => ⟨t, hb cdv A outer s H E hr, ht vs H Q E h⟩)
end
section
variable {K : PySem.W.Frag} {fs0 : List Str} {g0 : List V → List V} {fl f1 f2 : Str} {vs : List V} {H : Hp} {Q : VK} {E : XK} {c : Str} {s1 s2 s3 : Str}
/-- B.__init__(self, word); self.f = word -/
theorem shapeR (h : spI K 1 [fl] (fun ws => ws) vs H Q E) : tSeq (tDrop (tVeI K (tCons (tVar 0) (tCons (tVar 1) tNil)))) (tOst K fl (tVar 0) (tVar 1)) { nx := fun _ H' => Q .non H', rt := Q } (L2.start [s1, s2] vs) H := by
  obtain ⟨a, C, ws, rfl, hl, T, hf, ha, q⟩ := h
  match ws, hl with
  | [w], _ =>
    refine ⟨_, rfl, _, rfl, a, C, [w], rfl, by simp, T, ha, ?_⟩
    exact ⟨_, rfl, _, rfl, a, C, rfl, T, hf fl (by simp), .inl ⟨ha, fun dx h1 h2 => q dx h1 h2⟩⟩
/-- B.__init__(self, 'c') -/
theorem shape0 (h : spI K 0 fs0 (fun _ => g0 [.str c]) vs H Q E) : tDrop (tCallS (spI K 1 fs0 g0) E00 (tCons (tVar 0) (tCons (tC (.str c)) tNil))) { nx := fun _ H' => Q .non H', rt := Q } (L2.start [s1] vs) H := by
  obtain ⟨a, C, ws, rfl, hl, T, hf, ha, q⟩ := h
  match ws, hl with
  | [], _ =>
    refine ⟨_, rfl, a, C, [.str c], rfl, rfl, T, hf, ha, fun dx h1 h2 => q dx h1 h2⟩
/-- B.__init__(self, 'c'); self.f = x -/
theorem shape1 (h : spI K 1 (f1 :: fs0) (fun ws => ws ++ g0 [.str c]) vs H Q E) (hlen : fs0.length ≤ 900) : tSeq (tDrop (tCallS (spI K 1 fs0 g0) E00 (tCons (tVar 0) (tCons (tC (.str c)) tNil)))) (tOst K f1 (tVar 0) (tVar 1)) { nx := fun _ H' => Q .non H', rt := Q } (L2.start [s1, s2] vs) H := by
  obtain ⟨a, C, ws, rfl, hl, T, hf, ha, q⟩ := h
  match ws, hl with
  | [w], _ =>
    refine ⟨_, rfl, a, C, [.str c], rfl, rfl, T, fun f hm => hf f (List.mem_cons_of_mem _ hm), ha, fun dx h1 h2 => ?_⟩
    obtain ⟨e1, e2⟩ := upd_ob (H := H) (o := exd dx (fs0.zip (g0 [.str c]))) (u := exo a C (some dx)) h2
    refine ⟨_, rfl, _, rfl, a, C, rfl, T, hf f1 (by simp), .inr ⟨dx, _, e1, e2, by rw [List.length_zip]; omega, ?_⟩⟩
    rw [upd_old h2]
    exact q dx h1 h2
/-- B.__init__(self, 'c'); self.f1 = x; self.f2 = y -/
theorem shape2 (h : spI K 2 (f2 :: f1 :: fs0) (fun ws => ws.reverse ++ g0 [.str c]) vs H Q E) (hlen : fs0.length ≤ 800) : tSeq (tDrop (tCallS (spI K 1 fs0 g0) E00 (tCons (tVar 0) (tCons (tC (.str c)) tNil)))) (tSeq (tOst K f1 (tVar 0) (tVar 1)) (tOst K f2 (tVar 0) (tVar 2))) { nx := fun _ H' => Q .non H', rt := Q } (L2.start [s1, s2, s3] vs) H := by
  obtain ⟨a, C, ws, rfl, hl, T, hf, ha, q⟩ := h
  match ws, hl with
  | [w, v], _ =>
    refine ⟨_, rfl, a, C, [.str c], rfl, rfl, T, fun f hm => hf f (List.mem_cons_of_mem _ (List.mem_cons_of_mem _ hm)), ha, fun dx h1 h2 => ?_⟩
    obtain ⟨e1, e2⟩ := upd_ob (H := H) (o := exd dx (fs0.zip (g0 [.str c]))) (u := exo a C (some dx)) h2
    refine ⟨_, rfl, _, rfl, a, C, rfl, T, hf f1 (by simp), .inr ⟨dx, _, e1, e2, by rw [List.length_zip]; omega, ?_⟩⟩
    rw [upd_old h2]
    obtain ⟨e3, e4⟩ := upd_ob (H := H) (o := exd dx ((f1, w) :: fs0.zip (g0 [.str c]))) (u := exo a C (some dx)) h2
    refine ⟨_, rfl, _, rfl, a, C, rfl, T, hf f2 (by simp), .inr ⟨dx, _, e3, e4, by simp only [List.length_cons, List.length_zip]; omega, ?_⟩⟩
    rw [upd_old h2]
    exact q dx h1 h2
end
/-! ### making -/
def PMD (X : Cx) (W : WX) (e : Expr) (mx : DEnv → Store → Res Ex) : Prop := PMk X e (fun σ H Q => ∃ δ S ρ, StE σ H δ S ρ ∧ RunG W RX σ H ρ (mx δ S) (fun p H' => Q p.1 p.2 H'))
def mkxM (C : Addr) (n : Nat) (fs : List Str) (gd : List D → List D) (ms : MA) : DEnv → Store → Res Ex := fun δ S => (ms δ S).bind fun xs S1 => if xs.length = n ∧ (gd xs).length = fs.length then .ok ⟨C, fs, gd xs⟩ S1 else .stuck
structure GRX (gd : List D → List D) (g : List V → List V) : Prop where
  rel : ∀ {H : Hp} {ρ : List Addr} {ds : List D} {vs : List V}, Reps H ρ ds vs → Reps H ρ (gd ds) (g vs)
theorem del_upd {H : Hp} {a d C : Addr} {o u z : HO} (h : d ≠ a) (ha : H a = none) : upd (L2.del (upd (upd (upd H a z) d o) a u) a) d (.xd fs) = upd H d (.xd fs) := by
  funext b
  by_cases hb : b = d
  · subst hb
    rw [upd_same, upd_same]
  · rw [upd_ne hb, upd_ne hb]
    by_cases hba : b = a
    · subst hba
      rw [del_same, ha]
    · rw [del_ne hba, upd_ne hba, upd_ne hb, upd_ne hba]
section
variable {X : Cx} {W : WX} {k n : Nat} {fI C : Addr} {fd : FuncData} {ps fs : List Str} {g : List V → List V} {gd : List D → List D} {x : Str} {p pos : Pos} {e : Expr} {es : List Expr} {ms : MA} {mx : DEnv → Store → Res Ex}
/-- what of the text an own exception class must have -/
structure OexI (K : PySem.W.Frag) (C fI : Addr) (fd : FuncData) (ps fs : List Str) : Prop where
  T : OexC K C
  iC : PySem.W.findIn K (.ref C) "__init__" = some (some (.ref fI))
  tI : PySem.W.typeIn K (.ref fI) = some (.type "function")
  hb : Binds K fd ps []
  hf : ∀ f ∈ fs, PySem.W.findIn K (.ref C) f = some none
theorem mk_sem (J : OexI X.K C fI fd ps fs) (gr : GRX gd g) {σ : St} {H1 : Hp} {ρ1 : List Addr} {S1 : Store} {xs : List D} {vs : List V} {Q : XK} (st : StS H1 S1 ρ1) (r : Reps H1 ρ1 xs vs) (hn : n ≤ 1000)
    (h : RunG W RX σ H1 ρ1 (if xs.length = n ∧ (gd xs).length = fs.length then Res.ok (⟨C, fs, gd xs⟩ : Ex) S1 else .stuck) (fun p H' => Q p.1 p.2 H')) :
    vs.length ≤ 1000 ∧ ∀ a, H1 a = none → spI X.K n fs g (.ref a :: (vs ++ [])) (upd H1 a (exo a C none)) (fun v H2 => v = .non ∧ ∃ (d : Addr) (gs : List (Str × V)), H2 a = some (exo a C (some d)) ∧ H2 d = some (exd d gs) ∧ H1 d = none ∧ Q (.ref C) (some d) (upd (L2.del H2 a) d (.xd gs))) (fun _ _ _ => False) := by
  split at h
  · rename_i hl
    have e := r.len
    refine ⟨by omega, fun a ha => ⟨a, C, _, rfl, by simp only [List.append_nil]; omega, J.T, J.hf, upd_same, fun dx h1 h2 => ⟨rfl, dx, _, upd_same, by rw [upd_ne h2, upd_same], by rw [upd_ne h2] at h1; exact h1, ?_⟩⟩⟩
    rw [upd_ne h2] at h1
    rw [del_upd (C := C) h2 ha, List.append_nil]
    have nx : Nx H1 ρ1 (upd H1 dx (.xd (fs.zip (g vs)))) ρ1 := Nx.alloc h1
    exact h (.ref C, some dx) _ ρ1 nx (st.alloc h1) ⟨rfl, dx, g vs, rfl, upd_same, fun z => st.trk z h1, hl.2.symm, Reps.mono nx _ _ (gr.rel r)⟩
  · exact False.elim h
theorem pmd_mk (J : OexI X.K C fI fd ps fs) (gr : GRX gd g) (F1 : FnOk X.prog X.w X.K X.mg X.base (L2.CX X.prog X.w) k fI fd ps (spI X.K n fs g)) (hr : Room (k + 1) X.A) (hm : X.mg x = some (.ref C)) (ha : PA X (e :: es) (tA W ms)) (hn : n ≤ 1000 := by decide) (hg : Gl X x := by rfl)
    (hdb : (x == ("__debug__" : Str)) = false := by decide) (he : starEach (e :: es) X.env = (false, eval e X.env) :: starEach es X.env := by rfl) (hpl : (backTo pos (starEach es X.env)).any (·.1) = false := by rfl) :
    PMD X W (.Call (.Name x p) (e :: es) [] pos) (mkxM C n fs gd ms) := by
  intro pins s σ H Q I h
  refine pmk_oex J.T J.iC J.tI F1 hr J.hb .nil passNoC hg hm ha hdb he hpl pins s σ H Q I ?_
  obtain ⟨δ, S, ρ, I', h⟩ := h
  refine bindG (R2 := RX) I' h fun xs vs S1 H1 ρ1 n1 I1 r1 h1 => ?_
  exact mk_sem J gr I1.st r1 hn h1
theorem pmk_oex0 {CX : CXT} {sp : Sp} {ds : List Value} {dvs : List V} (T : OexC X.K C) (iC : PySem.W.findIn X.K (.ref C) "__init__" = some (some (.ref fI))) (tI : PySem.W.typeIn X.K (.ref fI) = some (.type "function"))
    (F1 : FnOk X.prog X.w X.K X.mg X.base CX k fI fd ps sp) (hr : Room (k + 1) X.A) (hb : Binds X.K fd ps ds) (hd : Vals dvs ds) (hx : Passes CX X (fun _ _ _ => False)) (hg : Gl X x) (hm : X.mg x = some (.ref C))
    (hdb : (x == ("__debug__" : Str)) = false := by decide) :
    PMk X (.Call (.Name x p) [] [] pos) (tMkO C sp dvs tNil) := by
  intro pins s σ H Q I h
  obtain ⟨nm, q, N, bs, bm, sn, sub, ab, col, dd, k0, k1, k2, k3, k5, hC, hbm⟩ := T.cls
  refine wpAny_Call_Name_kw (ld_glob I hg hm ?_ hdb)
  refine PySem.W.callWith_K0 I.kIn T.kC ?_
  obtain ⟨hz, q1⟩ := h
  show wpAny _ _ (call (.ref C) []) _ _ _
  obtain ⟨hp, g, dr, tk, os⟩ := s
  have hsz : hp.objs.size ≤ hp.objs.size + 1 := Nat.le_succ _
  have hn : H (hp.objs.size + 1) = none := I.hok.fresh hsz
  have hq := q1 (hp.objs.size + 1) hn
  have kk : ∀ b o, hp.get? b = some o → ((hp.push (PySem.W.kdv_tup [])).push (PySem.HandSPX.excO C hp.objs.size)).get? b = some o := fun b o e => Heap.get?_push_of_some _ (Heap.get?_push_of_some _ e)
  have hget : ((hp.push (PySem.W.kdv_tup [])).push (PySem.HandSPX.excO C hp.objs.size)).get? (hp.objs.size + 1) = some (PySem.HandSPX.excO C hp.objs.size) := by heap_get
  have I2 : Inv X pins σ (upd H (hp.objs.size + 1) (exo (hp.objs.size + 1) C none)) ⟨(hp.push (PySem.W.kdv_tup [])).push (PySem.HandSPX.excO C hp.objs.size), g, dr, tk, os⟩ :=
    I.laid (t' := tk) (a := hp.objs.size + 1) (o := exo (hp.objs.size + 1) C none) (h' := (hp.push (PySem.W.kdv_tup [])).push (PySem.HandSPX.excO C hp.objs.size)) kk hsz (exo_ok hget)
  have r2 : Vals (V.ref (hp.objs.size + 1) :: dvs) (Value.ref (hp.objs.size + 1) :: ds) := .cons rfl hd
  have hq' : sp (V.ref (hp.objs.size + 1) :: dvs) _ _ _ := hq
  have hb' : BindsTo ⟨(hp.push (PySem.W.kdv_tup [])).push (PySem.HandSPX.excO C hp.objs.size), g, dr, tk, os⟩ fd ⟨[Value.ref (hp.objs.size + 1)], []⟩ (ps.zip (Value.ref (hp.objs.size + 1) :: ds)) := hb _ [Value.ref (hp.objs.size + 1)] I2.kIn (by
    have e := r2.length
    rw [F1.len _ _ _ _ hq'] at e
    exact e.symm)
  have hl : (Value.ref (hp.objs.size + 1) :: ds).length = ps.length := by
    have e := r2.length
    rw [F1.len _ _ _ _ hq'] at e
    exact e.symm
  refine wpAny_call (PySem.HandSPX.call_own F.excBase_ValueError (fun Y => PySem.HandSPX.refsVE_contains Y bm hbm) (I.kIn _ _ hC) (PySem.W.looks_findIn I.kIn iC) (fun self => PySem.W.bind_fn I.kIn self tI) (by rw [sizeLine_eq]; simp)
    (codeAny_mono (F1.run _ X.stack _ _ ⟨[Value.ref (hp.objs.size + 1)], []⟩ (Value.ref (hp.objs.size + 1) :: ds) _ _ (fun _ _ _ => False) (hr.make C [] []) (I2.env0.make C [] []) hb' r2 hq') fun r s' hq2 => ?_))
  cases r with
  | error er => exact hx pins σ _ _ er s' I2 hq2
  | ok fl =>
    cases fl with
    | ret u =>
      obtain ⟨v, H2, os2, bare2, un2, hok2, rv, ev, d, fs, ea, ed, hd1, q2⟩ := hq2
      subst ev
      obtain ⟨h2, g2, d2, t2, os'⟩ := s'
      exact ⟨rv, mk_end (raises_own T.exC T.tyC) I hsz kk un2 hok2 os2 bare2 ea ed hd1 q2⟩
    | next => exact False.elim hq2
    | brk => exact False.elim hq2
    | cont => exact False.elim hq2
theorem pmd_mk0 (J : OexI X.K C fI fd ps fs) (gr : GRX gd g) (F1 : FnOk X.prog X.w X.K X.mg X.base (L2.CX X.prog X.w) k fI fd ps (spI X.K 0 fs g)) (hr : Room (k + 1) X.A) (hm : X.mg x = some (.ref C)) (hg : Gl X x := by rfl)
    (hdb : (x == ("__debug__" : Str)) = false := by decide) :
    PMD X W (.Call (.Name x p) [] [] pos) (mkxM C 0 fs gd nilM) := by
  intro pins s σ H Q I h
  refine pmk_oex0 J.T J.iC J.tI F1 hr J.hb .nil passNoC hg hm hdb pins s σ H Q I ?_
  obtain ⟨δ, S, ρ, I', h⟩ := h
  exact mk_sem (n := 0) (xs := []) (vs := []) (W := W) (σ := σ) J gr I'.st Reps.nil (by decide) h
/-! ### raise -/
def raiseM (mx : DEnv → Store → Res Ex) : MS := fun δ S => match mx δ S with
  | .ok x S1 => .exc x δ S1
  | .exc x S1 => .exc x δ S1
  | .stuck => .stuck
theorem ps_draise (hc : X.calm = true) (tk : Takes X W) (h : PMD X W e mx) : PS X (.Raise (some e) none pos) (tS W (raiseM mx)) := PS.weak (ps_raise hc tk h) fun G σ H h => by
  obtain ⟨δ, S, ρ, I, h⟩ := h
  refine ⟨δ, S, ρ, I, ?_⟩
  unfold raiseM at h
  cases em : mx δ S with
  | ok x S1 =>
    rw [em] at h
    exact fun p H' ρ' n st r => h p.1 p.2 σ H' ρ' n (I.next n st) r
  | exc x S1 =>
    rw [em] at h
    exact fun c dd H' ρ' n st r => h c dd σ H' ρ' n (I.next n st) r
  | stuck => rw [em] at h; exact h
/-- a statement that is never run -/
theorem ps_dstuck {st : Stmt} : PS X st (tS W fun _ _ => .stuck) := ⟨fun pins s σ H D I ⟨_, _, _, _, h⟩ => False.elim h⟩
theorem pss_dstuck {st : List Stmt} : PSs X st (tS W fun _ _ => .stuck) := ⟨fun pins s σ H D I ⟨_, _, _, _, h⟩ => False.elim h⟩
theorem pd_stuck : PE X e (tE W fun _ _ => .stuck) := ⟨fun pins s σ H Q I ⟨_, _, _, _, h⟩ => False.elim h⟩
/-! ### try .. except X as e -/
/-- e.f of the exception at hand -/
def xfM (a dd : Addr) (f : Str) (me : ME) : ME := fun δ S => (me δ S).bind fun x S1 => match x with
  | .exn a' d' ns ds => if a' = a ∧ d' = dd then RO (lookS ns ds f) S1 else .stuck
  | _ => .stuck
theorem pd_xf {a dd : Addr} {oe : Obj} {pn : List (Addr × Obj)} {m : Str} {me : ME} (T : XfC X.K C) (hno : PySem.W.findIn X.K (.ref C) m = some none) (hz : Zc (.ref C) (some dd) oe) (hf : ∃ vs, oe.data = .fields vs)
    (he : PE (X.suite a ((a, oe) :: pn)) e (tE W me)) (hb : attributeBase e m X.env (eval e X.env) = eval e X.env := by rfl) : PE (X.suite a ((a, oe) :: pn)) (.Attribute e m pos) (tE W (xfM a dd m me)) := PE.weak (pe_xf T hno hz hf he hb) fun σ H Q h => by
  obtain ⟨δ, S, ρ, I, h⟩ := h
  refine bindG I h fun x v S1 H1 ρ1 n1 I1 r1 h1 => ?_
  split at h1
  · rename_i a' d' ns ds
    split at h1
    · rename_i hc
      obtain ⟨rfl, rfl⟩ := hc
      obtain ⟨z, e, kk⟩ := h1.ro
      obtain ⟨vs, rfl, hH, nd, l, r⟩ := r1
      obtain ⟨u, eu, ru⟩ := lookS_rep r e
      exact ⟨rfl, rfl, d', _, u, rfl, hH, by rw [lookup_zip]; exact eu, kk u H1 ρ1 (Nx.refl _ _) I1.st ru⟩
    · exact False.elim h1
  · exact False.elim h1
/-- the slot of the exception's name goes -/
def goneF (i : Nat) : Flw → Flw
  | .nx δ S => .nx (δ.set i none) S
  | .bk δ S => .bk (δ.set i none) S
  | .ct δ S => .ct (δ.set i none) S
  | .rt d S => .rt d S
  | _ => .stuck
def tryM (ct : Addr → Option Bool) (i : Nat) (hm : Addr → Addr → MS) (mb : MS) : MS := fun δ S => match mb δ S with
  | .exc x δ1 S1 => match ct x.C with
    | some true => goneF i (hm 0 0 (δ1.set i (some (.exn 0 0 x.ns x.ds))) S1)
    | some false => .exc x δ1 S1
    | none => .stuck
  | r => r
theorem ps_dtry {i : Nat} {c : Value} {ct : Addr → Option Bool} {body suite : List Stmt} {b₀ : Stmt} {np pos' : Pos} {nm : Str} {mb : MS} {hm : Addr → Addr → MS} (hs : X.stack = X.env :: X.outer) (hf : X.env.frame = some X.env.locals) (hN : X.N.Nodup) (hi : X.N[i]? = some nm) (hln : X.env.kindOf nm = some .local) (hc : Names X x c) (tk : Takes X W)
    (hct : ∀ C b, ct C = some b → PySem.W.exmOne X.K (.ref C) c = some b)
    (hb : ∀ (W : WX) (pn : List (Addr × Obj)) (xe : Value → Shared → Prop), Takes (X.tr pn xe) W → PassesOwn (model X.prog X.w) X.A X.env xe → PSs (X.tr pn xe) body (tS W mb))
    (hsu : ∀ (a : Addr) (oe : Obj) (C dd : Addr) (pn : List (Addr × Obj)), ct C = some true → Zc (.ref C) (some dd) oe → (∃ vs, oe.data = .fields vs) → PSs (X.suite a ((a, oe) :: pn)) (b₀ :: suite) (tS W0 (hm a dd)))
    (hin : ∀ (a dd : Addr) (ns : List Str) (ds : List D) (δ : DEnv) (S : Store), goneF i (hm a dd (δ.set i (some (.exn a dd ns ds))) S) = goneF i (hm 0 0 (δ.set i (some (.exn 0 0 ns ds))) S)) :
    PS X (.Try body [.ExceptHandler (some (.Name x np)) (some nm) (b₀ :: suite) pos'] [] [] pos) (tS W (tryM ct i hm mb)) := by
  refine PS.weak (ps_try_as (Wout := W) (tb := fun W => tS W mb) (ts := fun a cls d => fun D σ H => ∃ C dd, cls = .ref C ∧ d = some dd ∧ ct C = some true ∧ tS W0 (hm a dd) D σ H) hs hf hN hi hln hc tk hb (fun a oe cls d pn hz hfl => ⟨fun pins s σ H D I h => ?_⟩)) fun G σ H h => ?_
  · obtain ⟨C, dd, rfl, rfl, hC, h⟩ := h
    exact (hsu a oe C dd pn hC hz hfl).run pins s σ H D I h
  · obtain ⟨δ, S, ρ, I, h⟩ := h
    refine ⟨δ, S, ρ, I, ?_⟩
    unfold tryM at h
    cases em : mb δ S with
    | nx δ S => rw [em] at h; exact h
    | bk δ S => rw [em] at h; exact h
    | ct δ S => rw [em] at h; exact h
    | rt d S => rw [em] at h; exact h
    | stuck => rw [em] at h; exact h
    | exc y δ1 S1 =>
      rw [em] at h
      simp only at h
      intro cls d σ' H' ρ' n1 I1 r
      obtain ⟨rfl, dd, vs, rfl, hH, nd, l, rv⟩ := r
      cases ec : ct y.C with
      | none => rw [ec] at h; exact False.elim h
      | some b =>
        refine ⟨b, hct _ _ ec, fun hb1 a na => ?_, fun hb1 => ?_⟩
        · subst hb1
          rw [ec] at h
          simp only at h
          rw [← hin a dd] at h
          refine ⟨y.C, dd, rfl, rfl, ec, δ1.set i (some (.exn a dd y.ns y.ds)), S1, ρ', ⟨I1.st, I1.env.set i ⟨vs, rfl, hH, nd, l, rv⟩⟩, ?_⟩
          cases eh : hm a dd (δ1.set i (some (.exn a dd y.ns y.ds))) S1 with
          | nx δ2 S2 => rw [eh] at h; exact fun σ2 H2 ρ2 n2 I2 => h _ H2 ρ2 (n1.trans n2) ⟨I2.st, I2.env.unset i⟩
          | bk δ2 S2 => rw [eh] at h; exact fun σ2 H2 ρ2 n2 I2 => h _ H2 ρ2 (n1.trans n2) ⟨I2.st, I2.env.unset i⟩
          | ct δ2 S2 => rw [eh] at h; exact fun σ2 H2 ρ2 n2 I2 => h _ H2 ρ2 (n1.trans n2) ⟨I2.st, I2.env.unset i⟩
          | rt d S2 => rw [eh] at h; exact fun v H2 ρ2 n2 st r2 => h v H2 ρ2 (n1.trans n2) st r2
          | exc z δ2 S2 => rw [eh] at h; exact False.elim h
          | stuck => rw [eh] at h; exact h
        · subst hb1
          rw [ec] at h
          exact h (.ref y.C) (some dd) σ' H' ρ' n1 I1 ⟨rfl, dd, vs, rfl, hH, nd, l, rv⟩
theorem takes_fn {P : Program} {w : World} {K : PySem.W.Frag} {mg : Str → Option Value} {base : Heap} {N : List Str} {qual : Str} {scope : Scope} {f : Addr} {cd : Value} {A : Around} {outer : List Env} {s : Shared} {H : Hp} {E : XK} : Takes (cxOf (L2.CX P w) P w K mg base N qual scope f cd A outer s H E) (fun cls d _ H => E cls d H) := takes_of rfl rfl rfl rfl
end
end SL

/-! SL: facts off the head, small things for what is printed. -/
namespace SL
open PySem PySem.Spec L2
open PyProof.Rows hiding St
def clsDef (s : Stmt) (j : Nat) : Stmt := match s with
  | .ClassDef _ _ _ b _ _ _ _ _ _ _ => b.getD j (.Pass ⟨0, 0, 0, 0⟩)
  | _ => .Pass ⟨0, 0, 0, 0⟩
section
variable {K : PySem.W.Frag} {C f : Addr}
/-- an own exception class over ValueError, with own inits -/
def oexB (K : PySem.W.Frag) (C : Addr) : Bool := (match K.lookup C with
  | some ⟨.type "type", _, .cls cd, sl⟩ => (match cd.mro, sl.toList with
    | .ref C' :: bm, [_, _, _, _, some (.builtin n), _] => C' == C && n == "ValueError.__new__" && !cd.hasDel && cd.hasDict && PySem.HandSPX.refsVE bm
    | _, _ => false)
  | _ => false) && (decide (PySem.W.findIn K (.ref C) "__setattr__" = some (some (.builtin "object.__setattr__"))) && (decide (PySem.W.subIn K (.ref C) (.type "BaseException") = some true) && (decide (PySem.W.typeIn K (.ref C) = some (.type "type")) && PySem.W.keepIn K (.ref C))))
theorem oexB_ok (h : oexB K C = true) : OexC K C := by
  obtain ⟨h1, h⟩ := Bool.and_eq_true_iff.mp h
  obtain ⟨h2, h⟩ := Bool.and_eq_true_iff.mp h
  obtain ⟨h3, h⟩ := Bool.and_eq_true_iff.mp h
  obtain ⟨h4, h5⟩ := Bool.and_eq_true_iff.mp h
  refine ⟨?_, of_decide_eq_true h2, of_decide_eq_true h3, of_decide_eq_true h4, h5⟩
  split at h1
  · rename_i dd cd sl ho
    split at h1
    · rename_i C' bm k0 k1 k2 k3 n k5 hm hs
      simp only [Bool.and_eq_true, beq_iff_eq, Bool.not_eq_true'] at h1
      obtain ⟨⟨⟨⟨rfl, rfl⟩, hdel⟩, hdc⟩, hr⟩ := h1
      obtain ⟨nm, bs, mro, ns, qn, hd, sn, sub, ab, col, del⟩ := cd
      dsimp only at hm hdel hdc
      subst hm hdel hdc
      have hsl : sl = #[k0, k1, k2, k3, some (.builtin "ValueError.__new__"), k5] := by
        obtain ⟨l⟩ := sl
        simp only at hs
        rw [hs]
      subst hsl
      exact ⟨nm, qn, ns, bs, bm, sn, sub, ab, col, dd, k0, k1, k2, k3, k5, ho, hr⟩
    · cases h1
  · cases h1
/-- its init, its fields -/
def oexIB (K : PySem.W.Frag) (C fI : Addr) (fs : List Str) : Bool := oexB K C && (decide (PySem.W.findIn K (.ref C) "__init__" = some (some (.ref fI))) && (decide (PySem.W.typeIn K (.ref fI) = some (.type "function")) && fs.all fun f => decide (PySem.W.findIn K (.ref C) f = some none)))
theorem oexIB_ok {fI : Addr} {fs ps : List Str} {fd : FuncData} (h : oexIB K C fI fs = true) (hb : Binds K fd ps []) : OexI K C fI fd ps fs := by
  obtain ⟨h1, h⟩ := Bool.and_eq_true_iff.mp h
  obtain ⟨h2, h⟩ := Bool.and_eq_true_iff.mp h
  obtain ⟨h3, h4⟩ := Bool.and_eq_true_iff.mp h
  exact ⟨oexB_ok h1, of_decide_eq_true h2, of_decide_eq_true h3, hb, fun f hf => of_decide_eq_true (List.all_eq_true.mp h4 f hf)⟩
def crB (K : PySem.W.Frag) (C f : Addr) : Bool := PySem.W.readsIn K C (.type "type") && (decide (PySem.W.specialIn K (.ref C) "__getattribute__" = some (some (.builtin "type.__getattribute__"))) && (match PySem.W.findCls K (.ref C) (.type "type") "__init__" with
  | some (.val (.ref g)) => decide (g = f)
  | _ => false))
theorem crB_ok (h : crB K C f = true) : ClX.CRead K C (.type "type") ∧ ClX.CVal K C (.type "type") "__init__" (.ref f) (.ref f) := by
  obtain ⟨h1, h⟩ := Bool.and_eq_true_iff.mp h
  obtain ⟨h2, h3⟩ := Bool.and_eq_true_iff.mp h
  refine ⟨⟨h1, of_decide_eq_true h2⟩, ⟨?_, rfl⟩⟩
  split at h3
  · rename_i g e
    rw [e, of_decide_eq_true h3]
  · cases h3
def veiB (K : PySem.W.Frag) : Bool := match PySem.W.findCls K (.type "ValueError") (.type "type") "__init__" with
  | some (.val (.builtin n)) => decide (n = "ValueError.__init__")
  | _ => false
theorem veiB_ok (h : veiB K = true) : PySem.W.findCls K (.type "ValueError") (.type "type") "__init__" = some (.val (.builtin "ValueError.__init__")) := by
  unfold veiB at h
  split at h
  · rename_i n e
    rw [e, of_decide_eq_true h]
  · cases h
/-- what an except clause asks of the classes at hand: (class, whether the clause takes it) -/
def ctOf (l : List (Addr × Bool)) (C : Addr) : Option Bool := l.lookup C
def ctB (K : PySem.W.Frag) (c : Addr) (l : List (Addr × Bool)) : Bool := l.all fun p => decide (PySem.W.exmOne K (.ref p.1) (.ref c) = some p.2)
theorem mem_of_look : ∀ {l : List (Addr × Bool)} {a : Addr} {b : Bool}, l.lookup a = some b → (a, b) ∈ l
  | [], _, _, h => by cases h
  | (x, y) :: r, a, b, h => by
    rw [List.lookup_cons] at h
    by_cases e : a = x
    · subst e
      simp at h
      subst h
      exact List.mem_cons_self
    · have : (a == x) = false := by simpa using e
      rw [this] at h
      exact List.mem_cons_of_mem _ (mem_of_look h)
theorem ctB_ok {c : Addr} {l : List (Addr × Bool)} (h : ctB K c l = true) : ∀ C b, ctOf l C = some b → PySem.W.exmOne K (.ref C) (.ref c) = some b := fun C b e => of_decide_eq_true (List.all_eq_true.mp h (C, b) (mem_of_look e))
/-- .. and to read a field of what was taken -/
def xfAll (K : PySem.W.Frag) (l : List (Addr × Bool)) (fs : List Str) : Bool := l.all fun p => !p.2 || (xfB K p.1 && fs.all fun f => decide (PySem.W.findIn K (.ref p.1) f = some none))
theorem xfAll_ok {l : List (Addr × Bool)} {fs : List Str} (h : xfAll K l fs = true) : ∀ C, ctOf l C = some true → XfC K C ∧ ∀ f ∈ fs, PySem.W.findIn K (.ref C) f = some none := fun C e => by
  have := List.all_eq_true.mp h (C, true) (mem_of_look e)
  simp only [Bool.not_true, Bool.false_or] at this
  obtain ⟨h1, h2⟩ := Bool.and_eq_true_iff.mp this
  exact ⟨xfB_ok h1, fun f hf => of_decide_eq_true (List.all_eq_true.mp h2 f hf)⟩
end
section
variable {P : Program} {w : World} {K : PySem.W.Frag} {mg : Str → Option Value} {base : Heap} {k : Nat} {f : Addr} {fd : FuncData} {ps : List Str}
def stuckF : Fn := fun _ _ => .stuck
/-- of a def that is never called nothing need be known -/
theorem FnD.stuck : FnD P w K mg base k f fd ps stuckF := ⟨fun vs H Q E ⟨ds, S, ρ, _, _, _, h⟩ => False.elim h, fun A outer s H args us vs Q E hr he hb hv ⟨ds, S, ρ, _, _, _, h⟩ => False.elim h⟩
theorem FnD.up {φ : Fn} {j : Nat} (F : FnD P w K mg base j f fd ps φ) (h : j ≤ k) : FnD P w K mg base k f fd ps φ := FnOk.mono F h
end
/-! ### keyword-only parameters: those not given -/
theorem gr_end {dD : List D} {dV : List V} (h : ∀ H ρ, Reps H ρ dD dV) : GRel (fun ds es => ds ++ es ++ dD) (fun vs zs => vs ++ zs ++ dV) := ⟨fun r1 r2 => (r1.append r2).append (h _ _)⟩
theorem gr_mid {dD : List D} {dV : List V} (h : ∀ H ρ, Reps H ρ dD dV) : GRel (fun ds es => ds ++ dD ++ es) (fun vs zs => vs ++ dV ++ zs) := ⟨fun r1 r2 => (r1.append (h _ _)).append r2⟩
/-! ### blocks of comprehensions, checked -/
def blkB (N : List Str) (sc scope : Scope) (own : List (Str × Nat)) : Bool := decide (scope.kind = .function) && (decide (∀ y ∈ scope.names, scope.names.lookup y.1 = some y.2) && (decide (∀ p ∈ own, N[p.2]? = some p.1) &&
  (decide (∀ y ∈ scope.names, y.2 = .free → sc.names.lookup y.1 = some .cell ∨ sc.names.lookup y.1 = some .free) && decide (∀ y ∈ scope.names, y.2 = .local ∨ y.2 = .cell → y.1 ∈ own.map (·.1) ∨ y.1 ∉ N))))
theorem blk_of {N N' : List Str} {sc sc' scope : Scope} {own : List (Str × Nat)} (h : blkB N sc scope own = true) (hN : N' = N) (hs : sc' = sc) : BlkOk N' sc' scope own := by
  subst hN hs
  obtain ⟨h1, h⟩ := Bool.and_eq_true_iff.mp h
  obtain ⟨h2, h⟩ := Bool.and_eq_true_iff.mp h
  obtain ⟨h3, h⟩ := Bool.and_eq_true_iff.mp h
  obtain ⟨h4, h5⟩ := Bool.and_eq_true_iff.mp h
  exact ⟨of_decide_eq_true h1, of_decide_eq_true h2, of_decide_eq_true h3, of_decide_eq_true h4, of_decide_eq_true h5⟩
theorem set_out {δ : DEnv} {i j : Nat} (h : i ≠ j) (x y z : Option D) : ((δ.set i x).set j y).set i z = (δ.set j y).set i z := by
  rw [List.set_comm _ _ h, List.set_set]
/-! ### x += i -/
def addI (_ : Store) (x y : D) : Option D := match x, y with
  | .int i, .int j => some (.int (i + j))
  | _, _ => none
theorem snd_addI : OpSnd (rI0 fun i j => .int (i + j)) addI := by
  intro H ρ S x y z v u Q st rx ry e k
  unfold addI at e
  split at e
  · cases e; cases rx; cases ry
    exact ⟨_, _, rfl, rfl, k.now st rfl⟩
  · cases e
end SL

/-! SL: the laws' drawing: its start off the script. -/
namespace SL
open PySem PySem.Spec L2
open PyProof.Rows hiding St
def seedF (s c : Int) : Int := (s * 48271 + c % 1000003 + 17) % 2147483647
def seedOf (ns : List Int) : Int := ns.foldl seedF 9458
def drawS (ns : List Int) (i w s c : Int) : Cell := .lst [.lst (ns.map D.int), .int i, .int w, .int s, .int c]
def spStart (K : PySem.W.Frag) : Sp := fun vs H Q E => ∃ a ns, vs = [.ref a] ∧ SqL K H a (ns.map V.int) ∧ ns.length ≤ 63 ∧ ∀ p H', Nx H [] H' [p] → StS H' [drawS ns 0 0 (seedOf ns) 0] [p] → Q (.ref p) H'
abbrev tScr (K : PySem.W.Frag) : TE := L2.tSl (rSlL K) (tVar 0) tNoPart (tPart (tC (.int 63)))
abbrev rPl : R2 := rI0 fun i j => .int (i + j)
abbrev rMo : R2 := rI (fun _ j => 0 < j) fun i j => .int (i % j)
abbrev rMu : R2 := rI CMul fun i j => .int (i * j)
abbrev rLo (K : PySem.W.Frag) : List V → Hp → VK → Prop := fun xs H Q => ∃ p ys, xs = [.ref p] ∧ (SqL K H p ys ∨ SqT K H p ys) ∧ ∀ l, H l = none → Q (.ref l) (upd H l (.lst ys))
def tStart (K : PySem.W.Frag) : TS := tSeq (tAsg (tC (.int 9458)) (gName 1)) (tSeq (tFor (iList K (tScr K)) (gName 2) (tAsg (tOp rMo (tOp rPl (tOp rPl (tOp rMu (tVar 1) (tC (.int 48271))) (tOp rMo (tVar 2) (tC (.int 1000003)))) (tC (.int 17))) (tC (.int 2147483647))) (gName 1)))
  (tRet (tLst (tCons (tCB (rLo K) (tCons (tScr K) L2.tNil)) (tCons (tC (.int 0)) (tCons (tC (.int 0)) (tCons (tVar 1) (tCons (tC (.int 0)) L2.tNil))))))))
theorem cut63 {xs : List V} (h : xs.length ≤ 63) : cutV xs none (some 63) = xs := by
  unfold cutV
  rw [HT.sIx_none, show (63 : Int) = ((63 : Nat) : Int) from rfl, HT.sIx_nat, List.drop_zero, List.take_of_length_le]
  omega
theorem SqL.up {K : PySem.W.Frag} {H : Hp} {a p : Addr} {xs : List V} {o : HO} (h : SqL K H a xs) (hp : H p = none) : SqL K (upd H p o) a xs := by
  rcases h with (h | ⟨ob, h⟩) | h
  · exact .inl (.inl (by rw [upd_ne (ne_of_none h hp)]; exact h))
  · exact .inl (.inr ⟨ob, by rw [upd_ne (ne_of_none h hp)]; exact h⟩)
  · exact .inr h
theorem ints_reps {H : Hp} {ρ : List Addr} : ∀ ns : List Int, Reps H ρ (ns.map D.int) (ns.map V.int)
  | [] => rfl
  | n :: ns => ⟨_, _, rfl, rfl, ints_reps ns⟩
theorem start_sem {K : PySem.W.Frag} {s0 s1 s2 : Str} {vs : List V} {H : Hp} {Q : VK} {E : XK} (h : spStart K vs H Q E) : tStart K { nx := fun _ H' => Q .non H', rt := Q } (L2.start [s0, s1, s2] vs) H := by
  obtain ⟨a, ns, rfl, hs, hl, q⟩ := h
  have hc : cutV (ns.map V.int) none (some 63) = ns.map V.int := cut63 (by simpa using hl)
  show tScr K _ _ _
  refine ⟨_, rfl, 63, rfl, a, _, rfl, hs, fun p hp => ⟨p, rfl, ⟨_, .inl (.inl upd_same)⟩, ?_⟩⟩
  rw [hc]
  have hp' : SqL K (upd H p (.lst (ns.map V.int))) p (ns.map V.int) := .inl (.inl upd_same)
  refine ⟨fun i m σ H' => ∃ v, σ = [some (.ref a), some (.int ((ns.take i).foldl seedF 9458)), v] ∧ H' = upd H p (.lst (ns.map V.int)) ∧ m = ns.length - i, ⟨_, _, rfl, rfl, rfl⟩, ?_⟩
  rintro i m σ H' ⟨v, rfl, rfl, rfl⟩
  cases e : ns[i]? with
  | none =>
    have hi := List.getElem?_eq_none_iff.mp e
    refine .inl ⟨⟨_, hp', by simpa using hi⟩, ?_⟩
    rw [List.take_of_length_le hi]
    show tScr K _ _ _
    refine ⟨_, rfl, 63, rfl, a, _, rfl, SqL.up hs hp, fun p2 h2 => ?_⟩
    rw [hc]
    refine ⟨p2, _, rfl, .inl (.inl (.inl upd_same)), fun l hl' => ?_⟩
    refine ⟨_, rfl, by rw [sizeLine_eq]; simp, fun p3 h3 => ?_⟩
    have n1 : Nx H [] (upd H p (.lst (ns.map V.int))) [] := Nx.alloc hp
    have n2 := n1.trans (Nx.alloc (o := .lst (ns.map V.int)) h2)
    have n3 := n2.trans (Nx.alloc (o := .lst (ns.map V.int)) hl')
    have n4 := n3.trans (Nx.push (o := .lst [.ref l, .int 0, .int 0, .int (seedOf ns), .int 0]) h3)
    refine q p3 _ n4 ⟨rfl, by simp, fun n b c e1 e2 => ?_⟩
    match n with
    | 0 =>
      cases e1; cases e2
      refine ⟨_, upd_same, _, _, rfl, ⟨l, _, rfl, ?_, ?_, ints_reps ns⟩, _, _, rfl, rfl, _, _, rfl, rfl, _, _, rfl, rfl, _, _, rfl, rfl, rfl⟩
      · rw [upd_ne (fun z => ?_), upd_same]
        rw [← z, upd_same] at h3
        cases h3
      · intro z
        rw [List.mem_singleton] at z
        rw [← z, upd_same] at h3
        cases h3
    | n + 1 => cases e1
  | some c =>
    have hi := (List.getElem?_eq_some_iff.mp e).1
    refine .inr ⟨⟨_, _, hp', by rw [List.getElem?_map, e]; rfl⟩, fun σ' H' => ∃ v, σ' = [some (.ref a), some (.int ((ns.take (i + 1)).foldl seedF 9458)), v] ∧ H' = upd H p (.lst (ns.map V.int)), fun σ' H' ⟨v, h1, h2⟩ => ⟨_, Nat.sub_lt_sub_left hi (Nat.lt_succ_self i), v, h1, h2, rfl⟩, ?_⟩
    rintro x H' ⟨rfl, f⟩
    have hx := f _ hp'
    rw [List.getElem?_map, e] at hx
    cases hx
    refine ⟨_, rfl, _, _, rfl, rfl, .inr (by decide), _, rfl, _, _, rfl, rfl, (by decide : (0:Int) < 1000003), _, _, rfl, rfl, _, _, rfl, rfl, _, _, rfl, rfl, (by decide : (0:Int) < 2147483647), ?_⟩
    refine ⟨some (.int c), ?_, rfl⟩
    · have et : ns.take (i + 1) = ns.take i ++ [c] := by rw [List.take_add_one, e]; rfl
      rw [et, List.foldl_append]
      rfl
section
variable {P : Program} {w : World} {K : PySem.W.Frag} {mg : Str → Option Value} {base : Heap} {k : Nat} {f fS : Addr} {fd fdS : FuncData} {qual x : Str} {params : Arguments} {body : List Stmt} {scope : Scope} {kws : List (Str × V)} {N ps psS : List Str} {m : MS} {s0 s1 s2 : Str}
theorem start_ok (F : FunD K x qual params body scope [] kws f fd) (S : FnScope [s0, s1, s2] [s0] scope)
    (hb : ∀ (cdv : Value) (A : Around) (outer : List Env) (s : Shared) (H : Hp) (E : XK), Room k (A.deeper (envOfC qual scope s.heap.objs.size f cdv)) →
      PSs (cxOf (L2.CX P w) P w K mg base [s0, s1, s2] qual scope f cdv A outer s H E) body (tStart K)) : FnOk P w K mg base (L2.CX P w) (k + 1) f fd [s0] (spStart K) :=
  FunD.ok F S (fun vs H Q E h => by
    obtain ⟨a, ns, rfl, _⟩ := h
    rfl) (fun cdv A outer s H vs Q E hr h => ⟨_, hb cdv A outer s H E hr, start_sem h⟩)
/-- a law: from its drawing's start on it comes to True -/
def spLaw (K : PySem.W.Frag) (n : Nat) (m : MS) : Sp := fun vs H Q E => ∃ a ns, vs = [.ref a] ∧ SqL K H a (ns.map V.int) ∧ ns.length ≤ 63 ∧ (∃ S', m (none :: some (.loc 0) :: List.replicate n none) [drawS ns 0 0 (seedOf ns) 0] = .rt (.bl true) S') ∧ ∀ H', Q (.bl true) H'
theorem law_ok (F : FunD K x qual params body scope [] kws f fd) (S : FnScope N [s0] scope) {st : Stmt} {rest : List Stmt} {n : Nat} (hbody : body = st :: rest) (hN : N.length = n + 2)
    (hb1 : ∀ (cdv : Value) (A : Around) (outer : List Env) (s : Shared) (H : Hp) (E : XK), Room k (A.deeper (envOfC qual scope s.heap.objs.size f cdv)) →
      PS (cxOf (L2.CX P w) P w K mg base N qual scope f cdv A outer s H E) st (tAsg (tCallS (spStart K) E00 (tCons (tVar 0) L2.tNil)) (gName 1)))
    (hb : ∀ (cdv : Value) (A : Around) (outer : List Env) (s : Shared) (H : Hp) (E : XK), Room k (A.deeper (envOfC qual scope s.heap.objs.size f cdv)) →
      PSs (cxOf (L2.CX P w) P w K mg base N qual scope f cdv A outer s H E) rest (tS (fun c dd _ H' => E c dd H') m)) : FnOk P w K mg base (L2.CX P w) (k + 1) f fd [s0] (spLaw K n m) := by
  subst hbody
  refine FunD.ok F S (fun vs H Q E h => ?_) (fun cdv A outer s H vs Q E hr h => ⟨_, pss_cons (hb1 cdv A outer s H E hr) (hb cdv A outer s H E hr), ?_⟩)
  · obtain ⟨a, ns, rfl, _⟩ := h
    rfl
  · obtain ⟨a, ns, rfl, hs, hl, ⟨S', hm⟩, q⟩ := h
    have hst : L2.start N [V.ref a] = some (.ref a) :: List.replicate (n + 1) none := by
      unfold L2.start
      rw [hN]
      rfl
    rw [hst]
    refine ⟨_, rfl, a, ns, rfl, hs, hl, fun p H' nx st => ?_⟩
    refine ⟨none :: some (.loc 0) :: List.replicate n none, _, [p], ⟨st, ?_, ?_⟩, ?_⟩
    · simp [List.replicate_succ]
    · intro i d e
      match i with
      | 0 => cases e
      | 1 =>
        cases e
        exact ⟨.ref p, by simp [List.replicate_succ], p, rfl, rfl⟩
      | i + 2 =>
        have e' : (List.replicate n (none : Option SL.D))[i]? = some (some d) := e
        rw [List.getElem?_replicate] at e'
        split at e' <;> cases e'
    · rw [hm]
      intro v H2 ρ2 n2 st2 r
      cases r
      exact q H2
end
end SL
namespace SL
open PySem PySem.Spec L2
open PyProof.Rows hiding St
/-! ### a Hook that sees some further objects of the boot -/
section
variable {fa : List He.Fa} {fn : List He.DefD} {ex : PySem.W.Frag → Bool}
structure SaysY (fa : List He.Fa) (fn : List He.DefD) (ex : PySem.W.Frag → Bool) (K : PySem.W.Frag) : Prop where
  d : He.SaysD fa fn K
  more : ex K = true
def frY (n : Nat) (xs : List Addr) (g : Addr → Option Obj) : PySem.W.Frag := He.frT g (He.asD g n ++ xs)
def obsY (n : Nat) (xs : List Addr) (fa : List He.Fa) (fn : List He.DefD) (ex : PySem.W.Frag → Bool) (g : Addr → Option Obj) : He.AlD × Bool := (He.obsD fa fn (frY n xs g), ex (frY n xs g))
def hookY (n : Nat) (xs : List Addr) (fa : List He.Fa) (fn : List He.DefD) (ex : PySem.W.Frag → Bool) : PySem.W.Hook where
  α := He.AlD × Bool
  obs := fun s => obsY n xs fa fn ex s.heap.get?
  val := fun _ => (He.valD fn, true)
  says := fun _ h => ∃ K : PySem.W.Frag, K.In h ∧ SaysY fa fn ex K
  of := fun _ _ e => ⟨_, He.frT_in, ⟨congrArg Prod.fst e, congrArg Prod.snd e⟩⟩
  keeps := fun _ _ _ ⟨K, hK, c⟩ k => ⟨K, PySem.W.Frag.In.keeps hK k, c⟩
theorem obsY_eq {n : Nat} {xs : List Addr} {g : Addr → Option Obj} {s : Shared} (h : ∀ a, g a = s.heap.get? a) : obsY n xs fa fn ex g = (hookY n xs fa fn ex).obs s := by
  have e : g = s.heap.get? := funext h
  rw [e] <;> rfl
end
end SL
namespace SL
open PySem PySem.Spec L2
open PyProof.Rows hiding St
/-- a law lets nothing out -/
theorem no_out {P : Program} {w : World} {K : PySem.W.Frag} {mg : Str → Option Value} {base : Heap} {k : Nat} {f : Addr} {fd : FuncData} {ps : List Str} {sp : Sp} (F : FnOk P w K mg base (L2.CX P w) k f fd ps sp)
    (h : ∀ vs H Q E, sp vs H Q E → sp vs H Q (fun _ _ _ => False)) : FnOk P w K mg base CX0 k f fd ps sp := ⟨F.len, fun A outer s H args us vs Q E hr he hb hv hs => codeAny_mono (F.run A outer s H args us vs Q (fun _ _ _ => False) hr he hb hv (h _ _ _ _ hs)) fun r s' q => by
    cases r with
    | error e =>
      obtain ⟨a, B, H', cls, d, _, _, _, _, _, _, _, z⟩ := q
      exact False.elim z
    | ok fl => cases fl <;> exact q⟩
end SL

/-! SL: plain laws, common parts: the drawing. -/
namespace SL
open PySem PySem.Spec L2
open PyProof.Rows hiding St
noncomputable def drawM : MS := (seqM (ifSM (andB (cmpB ltG (op2M ixG (vM 0) (cM (.int 2))) (vM 1)) (cmpB ltG (op2M ixG (vM 0) (cM (.int 1))) (callG lenG (consM (op2M ixG (vM 0) (cM (.int 0))) nilM)))) (seqM (asgM 2 (op2M ixG (op2M ixG (vM 0) (cM (.int 0))) (op2M ixG (vM 0) (cM (.int 1)))))
  (seqM (setIM (vM 0) (cM (.int 1)) (op2M addG (op2M ixG (vM 0) (cM (.int 1))) (cM (.int 1))))
  (seqM (setIM (vM 0) (cM (.int 2)) (ifM (cmpB geG (vM 2) (op2M powG (cM (.int 10)) (cM (.int 18)))) (vM 2) (cM (.int 0))))
  (setIM (vM 0) (cM (.int 3)) (op2M modG (op2M addG (op2M addG (op2M mulG (op2M ixG (vM 0) (cM (.int 3))) (cM (.int 69621))) (op2M modG (vM 2) (cM (.int 998244353)))) (cM (.int 1))) (cM (.int 2147483647))))))) nxM)
  (seqM (ifSM (cmpB geG (op2M ixG (vM 0) (cM (.int 2))) (vM 1)) (seqM (asgM 3 (op2M modG (op2M ixG (vM 0) (cM (.int 2))) (vM 1)))
  (seqM (setIM (vM 0) (cM (.int 2)) (op2M fdivG (op2M ixG (vM 0) (cM (.int 2))) (vM 1)))
  (retM (vM 3)))) nxM)
  (seqM (setIM (vM 0) (cM (.int 4)) (op2M addG (op2M ixG (vM 0) (cM (.int 4))) (cM (.int 1))))
  (seqM (asgM 4 (op2M addG (op2M addG (op2M mulG (op2M ixG (vM 0) (cM (.int 3))) (cM (.int 16807))) (op2M mulG (op2M ixG (vM 0) (cM (.int 4))) (cM (.int 40692)))) (cM (.int 7))))
  (seqM (asgM 4 (op2M addG (op2M mulG (vM 4) (op2M addG (op2M modG (vM 4) (cM (.int 65521))) (cM (.int 3)))) (op2M mulG (op2M ixG (vM 0) (cM (.int 4))) (cM (.int 9176)))))
  (seqM (setIM (vM 0) (cM (.int 3)) (op2M modG (vM 4) (cM (.int 2147483629))))
  (retM (op2M modG (op2M addG (op2M fdivG (op2M ixG (vM 0) (cM (.int 3))) (cM (.int 32))) (op2M mulG (op2M modG (op2M ixG (vM 0) (cM (.int 3))) (cM (.int 8191))) (cM (.int 13)))) (vM 1)))))))))
/-! ### what the operations give on plain values -/
theorem gAddI {S : Store} {x y : Int} : addG S (.int x) (.int y) = some (.int (x + y)) := rfl
theorem gAddS {S : Store} {x y : List Nat} (h : x.length + y.length ≤ 1000000) : addG S (.str x) (.str y) = some (.str (x ++ y)) := if_pos h
theorem gSubI {S : Store} {x y : Int} : subG S (.int x) (.int y) = some (.int (x - y)) := rfl
theorem gMulI {S : Store} {x y : Int} (h1 : -(2 ^ 64) < y) (h2 : y < 2 ^ 64) : mulG S (.int x) (.int y) = some (.int (x * y)) := if_pos (.inl (.inr ⟨h1, h2⟩))
theorem gModI {S : Store} {x y : Int} (h : 0 < y) : modG S (.int x) (.int y) = some (.int (x % y)) := if_pos h
theorem gFdivI {S : Store} {x y : Int} (h : 0 < y) (h2 : y.natAbs.log2 < 9000) : fdivG S (.int x) (.int y) = some (.int (x / y)) := if_pos ⟨h, h2⟩
theorem gLtI {S : Store} {x y : Int} : ltG S (.int x) (.int y) = some (.bl (decide (x < y))) := rfl
theorem gLeI {S : Store} {x y : Int} : leG S (.int x) (.int y) = some (.bl (decide (x ≤ y))) := rfl
theorem gGtI {S : Store} {x y : Int} : gtG S (.int x) (.int y) = some (.bl (decide (y < x))) := rfl
theorem gGeI {S : Store} {x y : Int} : geG S (.int x) (.int y) = some (.bl (decide (y ≤ x))) := rfl
theorem gEqI {S : Store} {x y : Int} : eqG S (.int x) (.int y) = some (.bl (decide (x = y))) := rfl
theorem gEqS {S : Store} {x y : List Nat} : eqG S (.str x) (.str y) = some (.bl (decide (x = y))) := rfl
theorem gNeI {S : Store} {x y : Int} : neG S (.int x) (.int y) = some (.bl (!decide (x = y))) := rfl
theorem gNeS {S : Store} {x y : List Nat} : neG S (.str x) (.str y) = some (.bl (!decide (x = y))) := rfl
theorem gInC {S : Store} {c : Nat} {z : List Nat} : inG S (.str [c]) (.str z) = some (.bl (decide (c ∈ z))) := rfl
theorem gLenS {S : Store} {z : List Nat} (h : z.length ≤ 1000000) : lenG S [.str z] = some (.int z.length) := by
  show (match (if z.length ≤ 1000000 then some z.length else none : Option Nat) with | some n => some (D.int n) | none => none) = _
  rw [if_pos h]
theorem gPow {S : Store} {x y : Int} (h : 0 ≤ y ∧ y ≤ 1000000 ∧ x.natAbs < 2 ^ 64) : powG S (.int x) (.int y) = some (.int (x ^ y.toNat)) := if_pos h
theorem gTup {S : Store} {xs : List D} (h : xs.length ≤ 100000) : tupG S xs = some (.tup xs) := if_pos h
theorem gLst {S : Store} {xs : List D} (h : xs.length ≤ 100000) : lstG S xs = some (.lst xs) := if_pos h
theorem gIxL {S : Store} {ds : List D} {n : Nat} {d : D} (h : ds[n]? = some d) : ixG S (.lst ds) (.int n) = some d := by
  have hl := (List.getElem?_eq_some_iff.mp h).1
  show atI ds n = some d
  unfold atI ixN
  rw [if_pos (by omega), if_pos (by omega)]
  simpa using h
theorem gIxT {S : Store} {ds : List D} {n : Nat} {d : D} (h : ds[n]? = some d) : ixG S (.tup ds) (.int n) = some d := by
  have hl := (List.getElem?_eq_some_iff.mp h).1
  show atI ds n = some d
  unfold atI ixN
  rw [if_pos (by omega), if_pos (by omega)]
  simpa using h
theorem gIxS {S : Store} {l : List Nat} {n c : Nat} (hz : l.length ≤ 1000000) (h : l[n]? = some c) : ixG S (.str l) (.int n) = some (.str [c]) := by
  have hl := (List.getElem?_eq_some_iff.mp h).1
  show (if l.length ≤ 1000000 then (match atI l n with | some c => some (D.str [c]) | none => none) else none) = _
  rw [if_pos hz]
  unfold atI ixN
  rw [if_pos (by omega), if_pos (by omega)]
  simp [h]
theorem cut_nat {α : Type} (l : List α) (p q : Nat) : cutL l (some (p : Int)) (some (q : Int)) = (l.drop p).take (q - p) := by
  unfold cutL
  rw [HT.sIx_nat, HT.sIx_nat]
  by_cases hp : p ≤ l.length
  · rw [Nat.min_eq_left hp]
    by_cases hq : q ≤ l.length
    · rw [Nat.min_eq_left hq]
    · rw [Nat.min_eq_right (by omega), List.take_of_length_le (by rw [List.length_drop]; omega), List.take_of_length_le (by rw [List.length_drop]; omega)]
  · rw [Nat.min_eq_right (by omega : l.length ≤ p), List.drop_of_length_le (Nat.le_refl _), List.drop_of_length_le (by omega : l.length ≤ p)]
    simp
theorem cut_to {α : Type} (l : List α) (q : Nat) : cutL l none (some (q : Int)) = l.take q := by
  have := cut_nat l 0 q
  simpa [cutL, HT.sIx] using this
theorem cut_from {α : Type} (l : List α) (p : Nat) : cutL l (some (p : Int)) none = l.drop p := by
  unfold cutL
  rw [HT.sIx_nat, HT.sIx_none]
  by_cases hp : p ≤ l.length
  · rw [Nat.min_eq_left hp, List.take_of_length_le (by rw [List.length_drop]; omega)]
  · rw [Nat.min_eq_right (by omega : l.length ≤ p), List.drop_of_length_le (Nat.le_refl _), List.drop_of_length_le (by omega : l.length ≤ p)]
    simp
theorem gSlS {S : Store} {l : List Nat} {lo hi : Option Int} (h : l.length ≤ 1000000) : slG S (.str l) lo hi = some (.str (cutL l lo hi)) := if_pos h
section
variable {ns : List Int} {i w s c x : Int} {T : Store}
theorem dr0 : ixG (drawS ns i w s c :: T) (.loc 0) (.int 0) = some (.lst (ns.map D.int)) := rfl
theorem dr1 : ixG (drawS ns i w s c :: T) (.loc 0) (.int 1) = some (.int i) := rfl
theorem dr2 : ixG (drawS ns i w s c :: T) (.loc 0) (.int 2) = some (.int w) := rfl
theorem dr3 : ixG (drawS ns i w s c :: T) (.loc 0) (.int 3) = some (.int s) := rfl
theorem dr4 : ixG (drawS ns i w s c :: T) (.loc 0) (.int 4) = some (.int c) := rfl
theorem dfold : Cell.lst [.lst (ns.map D.int), .int i, .int w, .int s, .int c] = drawS ns i w s c := rfl
theorem drL : locL (drawS ns i w s c :: T) (.loc 0) = some (0, [.lst (ns.map D.int), .int i, .int w, .int s, .int c]) := rfl
theorem st1 : setG [.lst (ns.map D.int), .int i, .int w, .int s, .int c] (.int 1) (.int x) = some [.lst (ns.map D.int), .int x, .int w, .int s, .int c] := rfl
theorem st2 : setG [.lst (ns.map D.int), .int i, .int w, .int s, .int c] (.int 2) (.int x) = some [.lst (ns.map D.int), .int i, .int x, .int s, .int c] := rfl
theorem st3 : setG [.lst (ns.map D.int), .int i, .int w, .int s, .int c] (.int 3) (.int x) = some [.lst (ns.map D.int), .int i, .int w, .int x, .int c] := rfl
theorem st4 : setG [.lst (ns.map D.int), .int i, .int w, .int s, .int c] (.int 4) (.int x) = some [.lst (ns.map D.int), .int i, .int w, .int s, .int x] := rfl

theorem fin_same {S S' : Store} {d : D} (h : fz S.length S' d = some d) (hl : S'.length = S.length) : finV S d S' = .ok d S' := by
  unfold finV
  rw [h]
  simp only
  split
  · rw [← hl, List.take_length]
  · rfl
theorem fin_int {S S' : Store} {j : Int} (hl : S'.length = S.length) : finV S (.int j) S' = .ok (.int j) S' := fin_same rfl hl
theorem draw_run {m : Int} (hi : 0 ≤ i) (hm : 0 < m) (hm2 : m < 2 ^ 64) : ∃ r i' w' s' c', 0 ≤ i' ∧ 0 ≤ r ∧ r < m ∧ defM 5 drawM [.loc 0, .int m] (drawS ns i w s c :: T) = .ok (.int r) (drawS ns i' w' s' c' :: T) := by
  have hlog : m.natAbs.log2 < 9000 := by
    have : m.natAbs < 2 ^ 64 := by omega
    have h2 : m.natAbs.log2 < 64 := (Nat.log2_lt (by omega)).mpr this
    omega
  have e9 : ∀ S (x : Int), modG S (.int x) (.int m) = some (.int (x % m)) := fun S x => gModI hm
  have e0 : ∀ S (x : Int), fdivG S (.int x) (.int m) = some (.int (x / m)) := fun S x => gFdivI hm hlog
  have tail : ∀ i w s c b, ∃ r s' c', 0 ≤ r ∧ r < m ∧ (seqM (setIM (vM 0) (cM (.int 4)) (op2M addG (op2M ixG (vM 0) (cM (.int 4))) (cM (.int 1))))
  (seqM (asgM 4 (op2M addG (op2M addG (op2M mulG (op2M ixG (vM 0) (cM (.int 3))) (cM (.int 16807))) (op2M mulG (op2M ixG (vM 0) (cM (.int 4))) (cM (.int 40692)))) (cM (.int 7))))
  (seqM (asgM 4 (op2M addG (op2M mulG (vM 4) (op2M addG (op2M modG (vM 4) (cM (.int 65521))) (cM (.int 3)))) (op2M mulG (op2M ixG (vM 0) (cM (.int 4))) (cM (.int 9176)))))
  (seqM (setIM (vM 0) (cM (.int 3)) (op2M modG (vM 4) (cM (.int 2147483629))))
  (retM (op2M modG (op2M addG (op2M fdivG (op2M ixG (vM 0) (cM (.int 3))) (cM (.int 32))) (op2M mulG (op2M modG (op2M ixG (vM 0) (cM (.int 3))) (cM (.int 8191))) (cM (.int 13)))) (vM 1))))))) [some (.loc 0), some (.int m), b, none, none] (drawS ns i w s c :: T) = .rt (.int r) (drawS ns i w s' c' :: T) := by
    intro i w s c b
    refine ⟨((((s * 16807 + (c + 1) * 40692 + 7) * ((s * 16807 + (c + 1) * 40692 + 7) % 65521 + 3) + (c + 1) * 9176) % 2147483629) / 32 + (((s * 16807 + (c + 1) * 40692 + 7) * ((s * 16807 + (c + 1) * 40692 + 7) % 65521 + 3) + (c + 1) * 9176) % 2147483629) % 8191 * 13) % m, ((s * 16807 + (c + 1) * 40692 + 7) * ((s * 16807 + (c + 1) * 40692 + 7) % 65521 + 3) + (c + 1) * 9176) % 2147483629, c + 1, Int.emod_nonneg _ (by omega), Int.emod_lt_of_pos _ hm, ?_⟩
    have e1 : ∀ S, mulG S (.int s) (.int 16807) = some (.int (s * 16807)) := fun S => gMulI (by omega) (by omega)
    have e2 : ∀ S, mulG S (.int (c + 1)) (.int 40692) = some (.int ((c + 1) * 40692)) := fun S => gMulI (by omega) (by omega)
    have e3 : ∀ S, mulG S (.int (c + 1)) (.int 9176) = some (.int ((c + 1) * 9176)) := fun S => gMulI (by omega) (by omega)
    generalize hm1 : s * 16807 + (c + 1) * 40692 + 7 = m1
    have e4 : ∀ S, mulG S (.int m1) (.int (m1 % 65521 + 3)) = some (.int (m1 * (m1 % 65521 + 3))) := fun S => gMulI (by omega) (by omega)
    have e5 : ∀ S (x : Int), mulG S (.int x) (.int 13) = some (.int (x * 13)) := fun S x => gMulI (by omega) (by omega)
    have e6 : ∀ S (x : Int), modG S (.int x) (.int 65521) = some (.int (x % 65521)) := fun S x => gModI (by omega)
    have e7 : ∀ S (x : Int), modG S (.int x) (.int 2147483629) = some (.int (x % 2147483629)) := fun S x => gModI (by omega)
    have e8 : ∀ S (x : Int), modG S (.int x) (.int 8191) = some (.int (x % 8191)) := fun S x => gModI (by omega)
    have e10 : ∀ S (x : Int), fdivG S (.int x) (.int 32) = some (.int (x / 32)) := fun S x => gFdivI (by omega) (by decide)
    simp only [seqM, setIM, asgM, retM, op2M, cM, vM, dr3, dr4, drL, gAddI, st3, st4, bindS_ok, bind_ok, RO_some, e1, e2, e3, e4, e5, e6, e7, e8, e9, e10, hm1, List.getElem?_cons_zero, List.getElem?_cons_succ, List.set_cons_zero, List.set_cons_succ, dfold]
  have rest : ∀ i w s c b, ∃ r w' s' c', 0 ≤ r ∧ r < m ∧ (seqM (ifSM (cmpB geG (op2M ixG (vM 0) (cM (.int 2))) (vM 1)) (seqM (asgM 3 (op2M modG (op2M ixG (vM 0) (cM (.int 2))) (vM 1)))
  (seqM (setIM (vM 0) (cM (.int 2)) (op2M fdivG (op2M ixG (vM 0) (cM (.int 2))) (vM 1)))
  (retM (vM 3)))) nxM)
  (seqM (setIM (vM 0) (cM (.int 4)) (op2M addG (op2M ixG (vM 0) (cM (.int 4))) (cM (.int 1))))
  (seqM (asgM 4 (op2M addG (op2M addG (op2M mulG (op2M ixG (vM 0) (cM (.int 3))) (cM (.int 16807))) (op2M mulG (op2M ixG (vM 0) (cM (.int 4))) (cM (.int 40692)))) (cM (.int 7))))
  (seqM (asgM 4 (op2M addG (op2M mulG (vM 4) (op2M addG (op2M modG (vM 4) (cM (.int 65521))) (cM (.int 3)))) (op2M mulG (op2M ixG (vM 0) (cM (.int 4))) (cM (.int 9176)))))
  (seqM (setIM (vM 0) (cM (.int 3)) (op2M modG (vM 4) (cM (.int 2147483629))))
  (retM (op2M modG (op2M addG (op2M fdivG (op2M ixG (vM 0) (cM (.int 3))) (cM (.int 32))) (op2M mulG (op2M modG (op2M ixG (vM 0) (cM (.int 3))) (cM (.int 8191))) (cM (.int 13)))) (vM 1)))))))) [some (.loc 0), some (.int m), b, none, none] (drawS ns i w s c :: T) = .rt (.int r) (drawS ns i w' s' c' :: T) := by
    intro i w s c b
    by_cases hw : m ≤ w
    · refine ⟨w % m, w / m, s, c, Int.emod_nonneg _ (by omega), Int.emod_lt_of_pos _ hm, ?_⟩
      simp only [seqM, ifSM, cmpB, setIM, asgM, retM, op2M, cM, vM, dr2, drL, st2, gGeI, asB, bindS_ok, bind_ok, RO_some, e9, e0, hw, decide_true, if_true, List.getElem?_cons_zero, List.getElem?_cons_succ, List.set_cons_zero, List.set_cons_succ, dfold]
    · obtain ⟨r, s', c', h1, h2, h3⟩ := tail i w s c b
      refine ⟨r, w, s', c', h1, h2, ?_⟩
      rw [seqM]
      have : (ifSM (cmpB geG (op2M ixG (vM 0) (cM (.int 2))) (vM 1)) (seqM (asgM 3 (op2M modG (op2M ixG (vM 0) (cM (.int 2))) (vM 1)))
  (seqM (setIM (vM 0) (cM (.int 2)) (op2M fdivG (op2M ixG (vM 0) (cM (.int 2))) (vM 1)))
  (retM (vM 3)))) nxM) [some (.loc 0), some (.int m), b, none, none] (drawS ns i w s c :: T) = .nx [some (.loc 0), some (.int m), b, none, none] (drawS ns i w s c :: T) := by
        simp only [ifSM, cmpB, op2M, cM, vM, dr2, gGeI, asB, bindS_ok, bind_ok, RO_some, hw, decide_false, Bool.false_eq_true, if_false, nxM, List.getElem?_cons_zero, List.getElem?_cons_succ]
      rw [this]
      exact h3
  have first : ∃ i1 w1 s1 b, 0 ≤ i1 ∧ (ifSM (andB (cmpB ltG (op2M ixG (vM 0) (cM (.int 2))) (vM 1)) (cmpB ltG (op2M ixG (vM 0) (cM (.int 1))) (callG lenG (consM (op2M ixG (vM 0) (cM (.int 0))) nilM)))) (seqM (asgM 2 (op2M ixG (op2M ixG (vM 0) (cM (.int 0))) (op2M ixG (vM 0) (cM (.int 1)))))
  (seqM (setIM (vM 0) (cM (.int 1)) (op2M addG (op2M ixG (vM 0) (cM (.int 1))) (cM (.int 1))))
  (seqM (setIM (vM 0) (cM (.int 2)) (ifM (cmpB geG (vM 2) (op2M powG (cM (.int 10)) (cM (.int 18)))) (vM 2) (cM (.int 0))))
  (setIM (vM 0) (cM (.int 3)) (op2M modG (op2M addG (op2M addG (op2M mulG (op2M ixG (vM 0) (cM (.int 3))) (cM (.int 69621))) (op2M modG (vM 2) (cM (.int 998244353)))) (cM (.int 1))) (cM (.int 2147483647))))))) nxM) [some (.loc 0), some (.int m), none, none, none] (drawS ns i w s c :: T) = .nx [some (.loc 0), some (.int m), b, none, none] (drawS ns i1 w1 s1 c :: T) := by
    have hlen : ∀ S : Store, lenG S [.lst (ns.map D.int)] = some (.int (ns.length : Nat)) := fun S => by
      show some (D.int ((ns.map D.int).length : Nat)) = _
      rw [List.length_map]
    by_cases h1 : w < m
    · by_cases h2 : i < ns.length
      · have hx : ∃ x, ns[i.toNat]? = some x := ⟨_, List.getElem?_eq_getElem (by omega)⟩
        obtain ⟨x, hx⟩ := hx
        have ex : ∀ S : Store, ixG S (.lst (ns.map D.int)) (.int i) = some (.int x) := fun S => by
          have hii : i = (i.toNat : Int) := by omega
          rw [hii]
          exact gIxL (by rw [List.getElem?_map, hx]; rfl)
        have e5 : ∀ S (y : Int), mulG S (.int y) (.int 69621) = some (.int (y * 69621)) := fun S y => gMulI (by omega) (by omega)
        have e6 : ∀ S (y : Int), modG S (.int y) (.int 998244353) = some (.int (y % 998244353)) := fun S y => gModI (by omega)
        have e7 : ∀ S (y : Int), modG S (.int y) (.int 2147483647) = some (.int (y % 2147483647)) := fun S y => gModI (by omega)
        have ep : ∀ S, powG S (.int 10) (.int 18) = some (.int (10 ^ 18)) := fun S => gPow (by decide)
        by_cases h3 : (10 ^ 18 : Int) ≤ x
        · refine ⟨i + 1, x, (s * 69621 + x % 998244353 + 1) % 2147483647, some (.int x), by omega, ?_⟩
          simp only [seqM, ifSM, ifM, andB, cmpB, setIM, asgM, callG, consM, nilM, op2M, cM, vM, dr0, dr1, dr2, dr3, drL, st1, st2, st3, gGeI, gLtI, gAddI, hlen, ex, e5, e6, e7, ep, asB, bindS_ok, bind_ok, RO_some, h1, h2, h3, decide_true, if_true, List.getElem?_cons_zero, List.getElem?_cons_succ, List.set_cons_zero, List.set_cons_succ, dfold]
        · refine ⟨i + 1, 0, (s * 69621 + x % 998244353 + 1) % 2147483647, some (.int x), by omega, ?_⟩
          simp only [seqM, ifSM, ifM, andB, cmpB, setIM, asgM, callG, consM, nilM, op2M, cM, vM, dr0, dr1, dr2, dr3, drL, st1, st2, st3, gGeI, gLtI, gAddI, hlen, ex, e5, e6, e7, ep, asB, bindS_ok, bind_ok, RO_some, h1, h2, h3, decide_true, decide_false, Bool.false_eq_true, if_false, if_true, List.getElem?_cons_zero, List.getElem?_cons_succ, List.set_cons_zero, List.set_cons_succ, dfold]
      · refine ⟨i, w, s, none, hi, ?_⟩
        simp only [ifSM, andB, cmpB, callG, consM, nilM, op2M, cM, vM, dr0, dr1, dr2, gLtI, hlen, asB, bindS_ok, bind_ok, RO_some, h1, h2, decide_true, decide_false, Bool.false_eq_true, if_false, if_true, nxM, List.getElem?_cons_zero, List.getElem?_cons_succ]
    · refine ⟨i, w, s, none, hi, ?_⟩
      simp only [ifSM, andB, cmpB, op2M, cM, vM, dr2, gLtI, asB, bindS_ok, bind_ok, RO_some, h1, decide_false, Bool.false_eq_true, if_false, nxM, List.getElem?_cons_zero, List.getElem?_cons_succ]
  obtain ⟨i1, w1, s1, b, hi1, ef⟩ := first
  obtain ⟨r, w', s', c', hr0, hr1, er⟩ := rest i1 w1 s1 c b
  refine ⟨r, i1, w', s', c', hi1, hr0, hr1, ?_⟩
  have hs : startD 5 [D.loc 0, .int m] = [some (.loc 0), some (.int m), none, none, none] := rfl
  unfold defM drawM
  rw [hs, seqM, ef]
  simp only
  rw [er]
  exact fin_int rfl
end
end SL

/-! SL: plain laws, common parts: closed trees, comprehensions, loops, sameness. -/
namespace SL
open PySem PySem.Spec L2
open PyProof.Rows hiding St
/-! ### closed trees -/
mutual
theorem okD_up : ∀ (d : D) (n : Nat), okD 0 d = true → okD n d = true
  | .loc m, n, h => by simp [okD] at h
  | .tup ds, n, h => by simp only [okD] at h ⊢; exact okL_up ds n h
  | .lst ds, n, h => by simp only [okD] at h ⊢; exact okL_up ds n h
  | .dct ks ds, n, h => by simp only [okD] at h ⊢; exact okL_up ds n h
  | .obj C ns ds, n, h => by simp only [okD] at h ⊢; exact okL_up ds n h
  | .exn a b ns ds, n, h => by simp only [okD] at h ⊢; exact okL_up ds n h
  | .non, n, h => rfl
  | .bl _, n, h => rfl
  | .int _, n, h => rfl
  | .str _, n, h => rfl
  | .raw _, n, h => rfl
theorem okL_up : ∀ (ds : List D) (n : Nat), okL 0 ds = true → okL n ds = true
  | [], n, h => rfl
  | d :: ds, n, h => by
    simp only [okL, Bool.and_eq_true] at h ⊢
    exact ⟨okD_up d n h.1, okL_up ds n h.2⟩
end
theorem fz1_cl {n : Nat} {S : Store} {d : D} (h : okD 0 d = true) : fz1 n S d = some d := by
  cases d with
  | loc m => simp [okD] at h
  | _ => simp only [fz1]; rw [if_pos (okD_up _ n h)]
theorem fzs_cl {n : Nat} {S : Store} : ∀ {ds : List D}, okL 0 ds = true → fzs n S ds = some ds
  | [], _ => rfl
  | d :: ds, h => by
    simp only [okL, Bool.and_eq_true] at h
    simp only [fzs, fz1_cl h.1, fzs_cl h.2]
theorem fz_cl {n : Nat} {S : Store} {d : D} (h : okD 0 d = true) : fz n S d = some d := by
  cases d with
  | tup ds =>
    simp only [okD] at h
    simp only [fz, fzs_cl h]
  | loc m => simp [okD] at h
  | _ => simp only [fz]; exact fz1_cl h
theorem fin_cl {S S' : Store} {d : D} (h : okD 0 d = true) (hl : S'.length = S.length) : finV S d S' = .ok d S' := fin_same (fz_cl h) hl
theorem rt_fin {S : Store} {d : D} (h : okD 0 d = true) : finD S (.rt d S) = .ok d S := fin_cl h rfl
theorem okL_iff {n : Nat} : ∀ {ds : List D}, okL n ds = true ↔ ∀ d ∈ ds, okD n d = true
  | [] => by simp [okL]
  | d :: ds => by simp [okL, okL_iff]
/-- what is let go: the elder part of the store as it stands -/
theorem fin_cut {S S' t : Store} {d e : D} (h : fz S.length (S' ++ t) d = some e) (hl : S'.length = S.length) (hs : Settles S S') : finV S d (S' ++ t) = .ok e S' := by
  unfold finV
  rw [h]
  simp only
  have hs2 : Settles S (S' ++ t) := fun i c hi e => hs i c hi (by rwa [List.getElem?_append_left (by omega)] at e)
  rw [if_pos hs2, ← hl, List.take_left]
theorem finX_cut {S S' t : Store} {x : Ex} (h : okL 0 x.ds = true) (hl : S'.length = S.length) (hs : Settles S S') : finX S x (S' ++ t) = .exc x S' := by
  unfold finX
  have hs2 : Settles S (S' ++ t) := fun i c hi e => hs i c hi (by rwa [List.getElem?_append_left (by omega)] at e)
  rw [if_pos ⟨okL_up _ _ h, hs2⟩, ← hl, List.take_left]
theorem Settles.set {S : Store} {n : Nat} {c : Cell} (h : okC 0 c = true) : Settles S (S.set n c) := fun i d hi e => by
  by_cases hn : n = i
  · subst hn
    rw [List.getElem?_set_self hi] at e
    cases e
    right
    cases c with
    | lst ds => exact okL_up ds _ h
    | dct ks ds => exact okL_up ds _ h
    | obj C ns ds => exact okL_up ds _ h
  · rw [List.getElem?_set_ne hn] at e
    exact .inl e
/-! ### the drawing's store -/
def Dw (T S : Store) : Prop := ∃ ns i w s c, 0 ≤ i ∧ S = drawS ns i w s c :: T
theorem okC_draw {ns : List Int} {i w s c : Int} : okC 0 (drawS ns i w s c) = true := by
  have : okL 0 (ns.map D.int) = true := okL_iff.mpr fun d hd => by
    obtain ⟨x, _, rfl⟩ := List.mem_map.mp hd
    rfl
  show okL 0 [.lst (ns.map D.int), .int i, .int w, .int s, .int c] = true
  simp [okL, okD, this]
theorem Dw.len {T S : Store} (h : Dw T S) : S.length = T.length + 1 := by
  obtain ⟨ns, i, w, s, c, _, rfl⟩ := h
  rfl
theorem Dw.settles {T S S' : Store} (h : Dw T S) (h' : Dw T S') : Settles S S' := by
  obtain ⟨ns, i, w, s, c, _, rfl⟩ := h
  obtain ⟨ns', i', w', s', c', _, rfl⟩ := h'
  have := Settles.set (S := drawS ns i w s c :: T) (n := 0) (c := drawS ns' i' w' s' c') okC_draw
  simpa using this
theorem Dw.app {T S t : Store} (h : Dw T S) : Dw (T ++ t) (S ++ t) := by
  obtain ⟨ns, i, w, s, c, hi, rfl⟩ := h
  exact ⟨ns, i, w, s, c, hi, rfl⟩
theorem Dw.cut {T S t : Store} (h : Dw (T ++ t) S) : ∃ S', Dw T S' ∧ S = S' ++ t := by
  obtain ⟨ns, i, w, s, c, hi, rfl⟩ := h
  exact ⟨_, ⟨ns, i, w, s, c, hi, rfl⟩, rfl⟩
theorem draw_dw {T S : Store} {m : Int} (h : Dw T S) (hm : 0 < m) (hm2 : m < 2 ^ 64) : ∃ r S', Dw T S' ∧ 0 ≤ r ∧ r < m ∧ defM 5 drawM [.loc 0, .int m] S = .ok (.int r) S' := by
  obtain ⟨ns, i, w, s, c, hi, rfl⟩ := h
  obtain ⟨r, i', w', s', c', h1, h2, h3, h4⟩ := draw_run (ns := ns) (w := w) (s := s) (c := c) (T := T) hi hm hm2
  exact ⟨r, _, ⟨ns, i', w', s', c', h1, rfl⟩, h2, h3, h4⟩
noncomputable def ofM (φ : Fn) : MS := (retM (op2M ixG (vM 1) (appM 2 φ (consM (vM 0) (consM (callG lenG (consM (vM 1) nilM)) nilM)) [])))
theorem of_lst {T S : Store} {ds : List D} (h : Dw T S) (hn : ds ≠ []) (hl : ds.length < 2 ^ 64) (hc : okL 0 ds = true) : ∃ d S', Dw T S' ∧ d ∈ ds ∧ defM 2 (ofM (defM 5 drawM)) [.loc 0, .lst ds] S = .ok d S' := by
  have hpos : 0 < ds.length := List.length_pos_iff.mpr hn
  obtain ⟨r, S', h1, h2, h3, h4⟩ := draw_dw (m := (ds.length : Int)) h (by omega) (by omega)
  obtain ⟨k, rfl⟩ : ∃ k : Nat, r = k := ⟨r.toNat, by omega⟩
  have hr : k < ds.length := by omega
  refine ⟨ds[k], S', h1, List.getElem_mem hr, ?_⟩
  have e : ixG S' (.lst ds) (.int k) = some ds[k] := gIxL (List.getElem?_eq_getElem hr)
  have hs : startD 2 [D.loc 0, .lst ds] = [some (.loc 0), some (.lst ds)] := rfl
  have hlen : lenG S [.lst ds] = some (.int ds.length) := rfl
  show finD S (ofM (defM 5 drawM) (startD 2 _) S) = _
  unfold ofM
  rw [hs]
  simp only [finD, retM, op2M, appM, consM, nilM, callG, vM, hlen, h4, e, bindS_ok, bind_ok, RO_some, List.getElem?_cons_zero, List.getElem?_cons_succ, List.append_nil, List.length_cons, List.length_nil, if_true, Nat.zero_add, Nat.reduceAdd]
  exact fin_cl (okL_iff.mp hc _ (List.getElem_mem hr)) (h1.len.trans h.len.symm)
theorem of_str {T S : Store} {l : List Nat} (h : Dw T S) (hn : l ≠ []) (hl : l.length ≤ 1000000) : ∃ c S', Dw T S' ∧ c ∈ l ∧ defM 2 (ofM (defM 5 drawM)) [.loc 0, .str l] S = .ok (.str [c]) S' := by
  have hpos : 0 < l.length := List.length_pos_iff.mpr hn
  obtain ⟨r, S', h1, h2, h3, h4⟩ := draw_dw (m := (l.length : Int)) h (by omega) (by omega)
  obtain ⟨k, rfl⟩ : ∃ k : Nat, r = k := ⟨r.toNat, by omega⟩
  have hr : k < l.length := by omega
  refine ⟨l[k], S', h1, List.getElem_mem hr, ?_⟩
  have e : ixG S' (.str l) (.int k) = some (.str [l[k]]) := gIxS hl (List.getElem?_eq_getElem hr)
  have hs : startD 2 [D.loc 0, .str l] = [some (.loc 0), some (.str l)] := rfl
  have hlen : lenG S [.str l] = some (.int l.length) := gLenS hl
  show finD S (ofM (defM 5 drawM) (startD 2 _) S) = _
  unfold ofM
  rw [hs]
  simp only [finD, retM, op2M, appM, consM, nilM, callG, vM, hlen, h4, e, bindS_ok, bind_ok, RO_some, List.getElem?_cons_zero, List.getElem?_cons_succ, List.append_nil, List.length_cons, List.length_nil, if_true, Nat.zero_add, Nat.reduceAdd]
  exact fin_cl (by rfl) (h1.len.trans h.len.symm)
/-! ### ranges -/
theorem src1_of {ma : ME} {δ : DEnv} {S S1 : Store} {n : Nat} (h : ma δ S = .ok (.int n) S1) (hn : n ≤ 1000000000) : src1 ma δ S = .ok (.rng 0 1 n) S1 := by
  unfold src1
  rw [h]
  show (if (n : Int).natAbs ≤ 1000000000 then Res.ok (Src.rng 0 1 (n : Int).toNat) S1 else .stuck) = _
  rw [if_pos (by simpa using hn)]
  rfl
theorem rng_at {n k : Nat} {d : D} (h : ((List.range n).map fun (i : Nat) => D.int (0 + (i : Int) * 1))[k]? = some d) : k < n ∧ d = .int k := by
  have hk : k < n := by
    have := (List.getElem?_eq_some_iff.mp h).1
    simpa using this
  rw [List.getElem?_map, List.getElem?_range hk] at h
  refine ⟨hk, ?_⟩
  have := Option.some.inj h
  rw [← this]
  simp
/-! ### comprehensions -/
theorem comp_gen {mi : DEnv → Store → Res Src} {el : ME} {i : Nat} {δ : DEnv} {S S1 : Store} {src : Src} {ds : List D} {Inv : Store → Prop} {P : Nat → D → Prop}
    (hmi : mi δ S = .ok src S1) (h1 : Inv S1) (hlen : ∀ S0, Inv S0 → S0.length = S1.length) (hset : ∀ S0, Inv S0 → Settles S1 S0)
    (hit : ∀ S0 t, Inv S0 → items (S0 ++ t) src = some ds) (hn : ds.length ≤ 1000000)
    (hel : ∀ (k : Nat) (d : D), ds[k]? = some d → ∀ S0 acc, Inv S0 → ∃ x S2, Inv S2 ∧ P k x ∧ okD 0 x = true ∧ el ((δ.set i none).set i (some d)) (S0 ++ [.lst acc]) = .ok x (S2 ++ [.lst acc])) :
    ∃ xs S2, Inv S2 ∧ xs.length = ds.length ∧ (∀ k x, xs[k]? = some x → P k x) ∧ okL 0 xs = true ∧ compM mi (.nm i) yesB el [i] δ S = .ok (.lst xs) S2 := by
  have key : ∀ (r : List D) (k : Nat) (acc : List D) (S0 : Store), ds.drop k = r → Inv S0 → acc.length = k → ∃ xs S2, Inv S2 ∧ xs.length = r.length ∧ (∀ j x, xs[j]? = some x → P (k + j) x) ∧ okL 0 xs = true ∧
      compL src (.nm i) yesB el S1.length ds (δ.set i none) r (S0 ++ [.lst acc]) = some (S2 ++ [.lst (acc ++ xs)]) := by
    intro r
    induction r with
    | nil =>
      intro k acc S0 hr hI ha
      refine ⟨[], S0, hI, rfl, fun j x e => by simp at e, rfl, ?_⟩
      unfold compL
      rw [if_pos (hit S0 _ hI), List.append_nil]
    | cons d r ih =>
      intro k acc S0 hr hI ha
      have hk : ds[k]? = some d := by
        have := congrArg (fun l => l[0]?) hr
        simpa using this
      have hr' : ds.drop (k + 1) = r := by
        have := congrArg List.tail hr
        simpa using this
      have hkl := (List.getElem?_eq_some_iff.mp hk).1
      obtain ⟨x, S2, hI2, hP, hok, he⟩ := hel k d hk S0 acc hI
      obtain ⟨xs, S3, hI3, hl, hP3, hok3, hc⟩ := ih (k + 1) (acc ++ [x]) S2 hr' hI2 (by simp [ha])
      refine ⟨x :: xs, S3, hI3, by simp [hl], fun j y e => ?_, by simp [okL, hok, hok3], ?_⟩
      · cases j with
        | zero => simp at e; subst e; exact hP
        | succ j =>
          simp at e
          have := hP3 j y e
          rwa [show k + 1 + j = k + (j + 1) by omega] at this
      · unfold compL
        rw [if_pos (hit S0 _ hI)]
        have ha2 : appC S1.length (S2 ++ [.lst acc]) x = some (S2 ++ [.lst (acc ++ [x])]) := by
          unfold appC
          have e1 : (S2 ++ [Cell.lst acc])[S1.length]? = some (.lst acc) := by rw [← hlen S2 hI2]; simp
          rw [e1]
          simp only
          rw [if_pos (by omega)]
          congr 1
          rw [← hlen S2 hI2, List.set_append_right _ _ (Nat.le_refl _)]
          simp
        simp only [bindT, yesB, he, ha2]
        rw [hc]
        simp
  obtain ⟨xs, S2, hI2, hl, hP, hok, hc⟩ := key ds 0 [] S1 rfl h1 rfl
  refine ⟨xs, S2, hI2, hl, fun k x e => by simpa using hP k x e, hok, ?_⟩
  unfold compM
  rw [hmi]
  have e0 : items S1 src = some ds := by simpa using hit S1 [] h1
  simp only [bind_ok, e0]
  have hw : wipeD δ [i] = δ.set i none := rfl
  rw [hw, hc]
  simp only [List.nil_append]
  unfold endC
  have e1 : (S2 ++ [Cell.lst xs])[S1.length]? = some (.lst xs) := by rw [← hlen S2 hI2]; simp
  rw [e1]
  simp only
  have hs : Settles S1 (S2 ++ [Cell.lst xs]) := fun j c hj e => hset S2 hI2 j c hj (by rwa [List.getElem?_append_left (by rw [hlen S2 hI2]; exact hj)] at e)
  rw [if_pos ⟨by rw [List.length_append, hlen S2 hI2]; rfl, okL_up _ _ hok, hs⟩, ← hlen S2 hI2, List.take_left]
/-! ### loops -/
theorem for_gen {src : Src} {tg : Tg} {b : MS} {ds : List D} {J : Nat → DEnv → Store → Prop} (hit : ∀ k δ S, J k δ S → items S src = some ds)
    (hb : ∀ (k : Nat) (d : D), ds[k]? = some d → ∀ δ S, J k δ S → ∃ δ1 δ2 S2, bindT tg d δ = some δ1 ∧ b δ1 S = .nx δ2 S2 ∧ J (k + 1) δ2 S2) {δ : DEnv} {S : Store} (h0 : J 0 δ S) :
    ∃ δ' S', J ds.length δ' S' ∧ forL src tg b ds ds δ S = .nx δ' S' := by
  have key : ∀ (r : List D) (k : Nat) (δ : DEnv) (S : Store), ds.drop k = r → J k δ S → ∃ δ' S', J (k + r.length) δ' S' ∧ forL src tg b ds r δ S = .nx δ' S' := by
    intro r
    induction r with
    | nil =>
      intro k δ S hr hJ
      refine ⟨δ, S, hJ, ?_⟩
      unfold forL
      rw [if_pos (hit k δ S hJ)]
    | cons d r ih =>
      intro k δ S hr hJ
      have hk : ds[k]? = some d := by
        have := congrArg (fun l => l[0]?) hr
        simpa using this
      have hr' : ds.drop (k + 1) = r := by
        have := congrArg List.tail hr
        simpa using this
      obtain ⟨δ1, δ2, S2, e1, e2, hJ2⟩ := hb k d hk δ S hJ
      obtain ⟨δ', S', hJ', e3⟩ := ih (k + 1) δ2 S2 hr' hJ2
      refine ⟨δ', S', by rwa [show k + (d :: r).length = k + 1 + r.length by simp; omega], ?_⟩
      unfold forL
      rw [if_pos (hit k δ S hJ), e1]
      simp only
      rw [e2]
      exact e3
  obtain ⟨δ', S', hJ, e⟩ := key ds 0 δ S rfl h0
  exact ⟨δ', S', by simpa using hJ, e⟩
/-! ### step by step -/
section
variable {m1 m2 b : MS} {δ δ1 δ2 : DEnv} {S S1 S2 : Store} {d x : D} {e : Ex} {src : Src} {tg : Tg} {ds r : List D} {mi : DEnv → Store → Res Src} {me : ME} {nc : MB} {i : Nat}
theorem seq_nx (h : m1 δ S = .nx δ1 S1) : seqM m1 m2 δ S = m2 δ1 S1 := by rw [seqM, h]
theorem seq_rt (h : m1 δ S = .rt d S1) : seqM m1 m2 δ S = .rt d S1 := by rw [seqM, h]
theorem seq_exc (h : m1 δ S = .exc e δ1 S1) : seqM m1 m2 δ S = .exc e δ1 S1 := by rw [seqM, h]
theorem if_t (h : nc δ S = .ok true S1) : ifSM nc m1 m2 δ S = m1 δ S1 := by rw [ifSM, h]; simp
theorem if_f (h : nc δ S = .ok false S1) : ifSM nc m1 m2 δ S = m2 δ S1 := by rw [ifSM, h]; simp
theorem if_fnx (h : nc δ S = .ok false S1) : ifSM nc m1 nxM δ S = .nx δ S1 := by rw [if_f h]; rfl
theorem asg_ok (h : me δ S = .ok d S1) : asgM i me δ S = .nx (δ.set i (some d)) S1 := by rw [asgM, h]; rfl
theorem asg_exc (h : me δ S = .exc e S1) : asgM i me δ S = .exc e δ S1 := by rw [asgM, h]; rfl
theorem asgT_ok (h : me δ S = .ok d S1) (hb : bindT tg d δ = some δ1) : asgT tg me δ S = .nx δ1 S1 := by
  unfold asgT
  rw [h]
  simp only [bindS_ok, hb]
theorem expr_ok (h : me δ S = .ok d S1) : exprM me δ S = .nx δ S1 := by rw [exprM, h]; rfl
theorem expr_exc (h : me δ S = .exc e S1) : exprM me δ S = .exc e δ S1 := by rw [exprM, h]; rfl
theorem ret_ok (h : me δ S = .ok d S1) : retM me δ S = .rt d S1 := by rw [retM, h]; rfl
theorem ret_exc (h : me δ S = .exc e S1) : retM me δ S = .exc e δ S1 := by rw [retM, h]; rfl
theorem forM_is (hm : mi δ S = .ok src S1) (hi : items S1 src = some ds) : SL.forM mi tg b δ S = forL src tg b ds ds δ S1 := by
  unfold SL.forM
  rw [hm]
  simp only [bindS_ok, hi]
theorem forL_nx (hi : items S src = some ds) (hb : bindT tg d δ = some δ1) (h : b δ1 S = .nx δ2 S2) : forL src tg b ds (d :: r) δ S = forL src tg b ds r δ2 S2 := by
  rw [forL, if_pos hi, hb]
  simp only
  rw [h]
theorem forL_rt (hi : items S src = some ds) (hb : bindT tg d δ = some δ1) (h : b δ1 S = .rt x S2) : forL src tg b ds (d :: r) δ S = .rt x S2 := by
  rw [forL, if_pos hi, hb]
  simp only
  rw [h]
theorem forL_nil (hi : items S src = some ds) : forL src tg b ds [] δ S = .nx δ S := by rw [forL, if_pos hi]
end
end SL

/-! SL: plain laws, common parts: _law_same of a tree with itself. -/
namespace SL
open PySem PySem.Spec L2
open PyProof.Rows hiding St
noncomputable def sameM (φ : Fn) : MS := (seqM (ifSM (trM (callG isiA (consM (vM 1) (consM (callG tupG (consM (cM (.raw (.ty "list"))) (consM (cM (.raw (.ty "tuple"))) nilM))) nilM)))) (seqM (ifSM (orB (cmpB neG (callG isiA (consM (vM 1) (consM (cM (.raw (.ty "list"))) nilM))) (callG isiA (consM (vM 0) (consM (cM (.raw (.ty "list"))) nilM)))) (cmpB neG (callG isiA (consM (vM 1) (consM (cM (.raw (.ty "tuple"))) nilM))) (callG isiA (consM (vM 0) (consM (cM (.raw (.ty "tuple"))) nilM))))) (retM (cM (.bl false))) nxM)
  (retM (andM (op2M eqG (callG lenG (consM (vM 0) nilM)) (callG lenG (consM (vM 1) nilM))) (callG allG (consM (compM (src1 (callG lenG (consM (vM 1) nilM))) (.nm 2) yesB (appM 2 φ (consM (op2M ixG (vM 0) (vM 2)) (consM (op2M ixG (vM 1) (vM 2)) nilM)) []) [2]) nilM))))) nxM)
  (seqM (ifSM (orB (cmpB neG (callG isiA (consM (vM 0) (consM (cM (.raw (.ty "bool"))) nilM))) (callG isiA (consM (vM 1) (consM (cM (.raw (.ty "bool"))) nilM)))) (cmpB neG (callG isiA (consM (vM 0) (consM (cM (.raw (.ty "str"))) nilM))) (callG isiA (consM (vM 1) (consM (cM (.raw (.ty "str"))) nilM))))) (retM (cM (.bl false))) nxM)
  (retM (andM (op2M eqG (op2M isG (vM 0) (cM .non)) (op2M isG (vM 1) (cM .non))) (op2M eqG (vM 0) (vM 1))))))
noncomputable def sameN : Nat → Fn
  | 0 => stuckF
  | n + 1 => defM 3 (sameM (sameN n))
/-- data of at most this many floors -/
def pl : Nat → D → Prop
  | 0, _ => False
  | n + 1, .tup ds => ds.length ≤ 100000 ∧ ∀ d ∈ ds, pl n d
  | n + 1, .lst ds => ds.length ≤ 100000 ∧ ∀ d ∈ ds, pl n d
  | _ + 1, .non => True
  | _ + 1, .bl _ => True
  | _ + 1, .int _ => True
  | _ + 1, .str _ => True
  | _ + 1, _ => False
theorem pl_cl : ∀ {n : Nat} {d : D}, pl n d → okD 0 d = true
  | 0, _, h => False.elim h
  | n + 1, .tup ds, h => by simp only [okD]; exact okL_iff.mpr fun d hd => pl_cl (h.2 d hd)
  | n + 1, .lst ds, h => by simp only [okD]; exact okL_iff.mpr fun d hd => pl_cl (h.2 d hd)
  | _ + 1, .non, _ => rfl
  | _ + 1, .bl _, _ => rfl
  | _ + 1, .int _, _ => rfl
  | _ + 1, .str _, _ => rfl
  | _ + 1, .loc _, h => False.elim h
  | _ + 1, .raw _, h => False.elim h
  | _ + 1, .dct _ _, h => False.elim h
  | _ + 1, .obj _ _ _, h => False.elim h
  | _ + 1, .exn _ _ _ _, h => False.elim h
theorem pl_up : ∀ {n : Nat} {d : D}, pl n d → ∀ m, n ≤ m → pl m d
  | 0, _, h, _, _ => False.elim h
  | _ + 1, _, _, 0, h => by omega
  | n + 1, .tup ds, h, m + 1, hm => ⟨h.1, fun d hd => pl_up (h.2 d hd) m (by omega)⟩
  | n + 1, .lst ds, h, m + 1, hm => ⟨h.1, fun d hd => pl_up (h.2 d hd) m (by omega)⟩
  | _ + 1, .non, _, _ + 1, _ => trivial
  | _ + 1, .bl _, _, _ + 1, _ => trivial
  | _ + 1, .int _, _, _ + 1, _ => trivial
  | _ + 1, .str _, _, _ + 1, _ => trivial
  | _ + 1, .loc _, h, _ + 1, _ => False.elim h
  | _ + 1, .raw _, h, _ + 1, _ => False.elim h
  | _ + 1, .dct _ _, h, _ + 1, _ => False.elim h
  | _ + 1, .obj _ _ _, h, _ + 1, _ => False.elim h
  | _ + 1, .exn _ _ _ _, h, _ + 1, _ => False.elim h
theorem gEqB {S : Store} {a b : Bool} : eqG S (.bl a) (.bl b) = some (.bl (decide (a = b))) := by cases a <;> cases b <;> rfl
theorem gNeB {S : Store} {a b : Bool} : neG S (.bl a) (.bl b) = some (.bl (!decide (a = b))) := by cases a <;> cases b <;> rfl
theorem bs_all {xs : List D} (h : ∀ (k : Nat) (x : D), xs[k]? = some x → x = D.bl true) : ∃ bs, asBs xs = some bs ∧ bs.all id = true := by
  induction xs with
  | nil => exact ⟨[], rfl, rfl⟩
  | cons x xs ih =>
    obtain ⟨bs, e1, e2⟩ := ih fun k y e => h (k + 1) y (by simpa using e)
    have := h 0 x rfl
    subst this
    exact ⟨true :: bs, by simp [asBs, e1], by simpa using e2⟩
theorem same_seq {n : Nat} {ds : List D} (ih : ∀ d ∈ ds, ∀ S, sameN n [d, d] S = .ok (.bl true) S) (hl : ds.length ≤ 100000) {x : D} (hx : x = .tup ds ∨ x = .lst ds) (S : Store) : sameN (n + 1) [x, x] S = .ok (.bl true) S := by
  have hix : ∀ (S : Store) (k : Nat) (d : D), ds[k]? = some d → ixG S x (.int k) = some d := fun S k d e => by
    rcases hx with rfl | rfl
    · exact gIxT e
    · exact gIxL e
  have hlen : ∀ S : Store, lenG S [x] = some (.int ds.length) := fun S => by rcases hx with rfl | rfl <;> rfl
  have hi1 : ∀ S : Store, isiA S [x, .tup [.raw (.ty "list"), .raw (.ty "tuple")]] = some (.bl true) := fun S => by rcases hx with rfl | rfl <;> rfl
  have hi2 : ∃ b, ∀ S : Store, isiA S [x, .raw (.ty "list")] = some (.bl b) := by rcases hx with rfl | rfl <;> exact ⟨_, fun S => rfl⟩
  have hi3 : ∃ b, ∀ S : Store, isiA S [x, .raw (.ty "tuple")] = some (.bl b) := by rcases hx with rfl | rfl <;> exact ⟨_, fun S => rfl⟩
  obtain ⟨b2, hi2⟩ := hi2
  obtain ⟨b3, hi3⟩ := hi3
  have hc : ∃ xs S2, S2 = S ∧ xs.length = ds.length ∧ (∀ (k : Nat) (y : D), xs[k]? = some y → y = D.bl true) ∧ okL 0 xs = true ∧
      compM (src1 (callG lenG (consM (vM 1) nilM))) (.nm 2) yesB (appM 2 (sameN n) (consM (op2M ixG (vM 0) (vM 2)) (consM (op2M ixG (vM 1) (vM 2)) nilM)) []) [2] [some x, some x, none] S = .ok (.lst xs) S2 := by
    have hsrc : src1 (callG lenG (consM (vM 1) nilM)) [some x, some x, none] S = .ok (.rng 0 1 ds.length) S := by
      refine src1_of ?_ (by omega)
      simp only [callG, consM, nilM, vM, hlen, bind_ok, RO_some, List.getElem?_cons_zero, List.getElem?_cons_succ]
    have := comp_gen (el := appM 2 (sameN n) (consM (op2M ixG (vM 0) (vM 2)) (consM (op2M ixG (vM 1) (vM 2)) nilM)) []) (i := 2) (ds := (List.range ds.length).map fun (i : Nat) => D.int (0 + (i : Int) * 1)) (Inv := fun S0 => S0 = S) (P := fun _ y => y = D.bl true) hsrc rfl (fun S0 h => by rw [h]) (fun S0 h => by rw [h]; exact Settles.same) (fun S0 t h => rfl) (by simp; omega) (fun k d hd S0 acc hI => ?_)
    · obtain ⟨xs, S2, e1, e2, e3, e4, e5⟩ := this
      exact ⟨xs, S2, e1, by simpa using e2, e3, e4, e5⟩
    · obtain ⟨hk, rfl⟩ := rng_at hd
      refine ⟨.bl true, S0, hI, rfl, rfl, ?_⟩
      have he := List.getElem?_eq_getElem hk
      have h1 := fun S => hix S k _ he
      have h2 := ih ds[k] (List.getElem_mem hk)
      simp only [appM, consM, nilM, op2M, vM, h1, bind_ok, RO_some, List.set_cons_succ, List.set_cons_zero, List.getElem?_cons_zero, List.getElem?_cons_succ, List.append_nil, List.length_cons, List.length_nil, Nat.reduceAdd, if_true, h2]
  obtain ⟨xs, S2, rfl, e2, e3, e4, e5⟩ := hc
  obtain ⟨bs, f1, f2⟩ := bs_all e3
  have hall : allG S2 [.lst xs] = some (.bl true) := by
    show (match asBs xs with | some bs => some (D.bl (bs.all id)) | none => none) = _
    rw [f1]
    simp [f2]
  show finD S2 (sameM (sameN n) (startD 3 [x, x]) S2) = _
  have hs : startD 3 [x, x] = [some x, some x, none] := rfl
  rw [hs]
  have htup : tupG S2 [.raw (.ty "list"), .raw (.ty "tuple")] = some (.tup [.raw (.ty "list"), .raw (.ty "tuple")]) := rfl
  have t1 : truthB S2 (.bl true) = some true := rfl
  unfold sameM
  simp only [seqM, ifSM, trM, orB, cmpB, andM, callG, consM, nilM, op2M, retM, nxM, vM, cM, htup, hi1, hi2, hi3, hlen, gNeB, gEqI, t1, asB, bindS_ok, bind_ok, RO_some, List.getElem?_cons_zero, List.getElem?_cons_succ, decide_true, Bool.not_true, Bool.false_eq_true, if_false, if_true]
  have e5' := e5
  rw [e5']
  simp only [bind_ok, hall, RO_some, bindS_ok, finD]
  exact fin_cl rfl rfl
theorem same_sc {n : Nat} {x : D} {S : Store} (h : sameM (sameN n) [some x, some x, none] S = .rt (.bl true) S) : sameN (n + 1) [x, x] S = .ok (.bl true) S := by
  show finD S (sameM (sameN n) [some x, some x, none] S) = _
  rw [h]
  exact fin_cl (d := .bl true) rfl rfl
theorem same_ok : ∀ (n : Nat) (x : D), pl n x → ∀ S, sameN n [x, x] S = .ok (.bl true) S
  | 0, _, h, _ => False.elim h
  | n + 1, .tup ds, h, S => same_seq (fun d hd S => same_ok n d (h.2 d hd) S) h.1 (.inl rfl) S
  | n + 1, .lst ds, h, S => same_seq (fun d hd S => same_ok n d (h.2 d hd) S) h.1 (.inr rfl) S
  | n + 1, .non, _, S => same_sc rfl
  | n + 1, .bl b, _, S => same_sc (by cases b <;> rfl)
  | n + 1, .int i, _, S => by
    have e : eqG S (.int i) (.int i) = some (.bl true) := by rw [gEqI]; simp
    refine same_sc ?_
    show bindS ((RO (eqG S (.int i) (.int i)) S : Res D)) [some (.int i), some (.int i), none] (fun d S1 => Flw.rt d S1) = _
    rw [e]; rfl
  | n + 1, .str l, _, S => by
    have e : eqG S (.str l) (.str l) = some (.bl true) := by rw [gEqS]; simp
    refine same_sc ?_
    show bindS ((RO (eqG S (.str l) (.str l)) S : Res D)) [some (.str l), some (.str l), none] (fun d S1 => Flw.rt d S1) = _
    rw [e]; rfl
  | _ + 1, .loc _, h, _ => False.elim h
  | _ + 1, .raw _, h, _ => False.elim h
  | _ + 1, .dct _ _, h, _ => False.elim h
  | _ + 1, .obj _ _ _, h, _ => False.elim h
  | _ + 1, .exn _ _ _ _, h, _ => False.elim h
end SL

/-! SL: plain laws, common parts: objects. -/
namespace SL
open PySem PySem.Spec L2
open PyProof.Rows hiding St
section
variable {mo mv me : ME} {ms mk : MA} {δ : DEnv} {S S1 S2 S3 : Store} {r n j q : Nat} {C : Addr} {ns ns2 : List Str} {ds ds2 xs zs : List D} {d y z : D} {f m : Str} {φ : Fn} {g : Store → D → D → Option D} {x : Ex} {gD : List D → List D → List D}
theorem asO_loc (h : S[r]? = some (.obj C ns ds)) : asO S (.loc r) = some (C, ns, ds) := by
  show (match S[r]? with | some (.obj C ns ds) => some (C, ns, ds) | _ => none) = _
  rw [h]
theorem fld_ok (h : mo δ S = .ok (.loc r) S1) (hS : S1[r]? = some (.obj C ns ds)) (hl : lookS ns ds f = some d) : fldM C f mo δ S = .ok d S1 := by
  unfold fldM
  rw [h]
  simp only [bind_ok, asO_loc hS, if_true, hl, RO_some]
theorem setf_ok (hv : mv δ S = .ok d S1) (h : mo δ S1 = .ok (.loc r) S2) (hS : S2[r]? = some (.obj C ns ds)) (hn : ns.length < 1000) : setfM C f mo mv δ S = .nx δ (S2.set r (.obj C (putS ns ds f d).1 (putS ns ds f d).2)) := by
  unfold setfM
  rw [hv]
  simp only [bindS_ok, h, hS]
  rw [if_pos ⟨trivial, hn⟩]
theorem fldaug_ok (h : mo δ S = .ok (.loc r) S1) (hS : S1[r]? = some (.obj C ns ds)) (hl : lookS ns ds f = some d) (hv : mv δ S1 = .ok y S2) (hS2 : S2[r]? = some (.obj C ns2 ds2)) (hn : ns2.length < 1000) (hg : g S2 d y = some z) :
    fldaugM C f g mo mv δ S = .nx δ (S2.set r (.obj C (putS ns2 ds2 f z).1 (putS ns2 ds2 f z).2)) := by
  unfold fldaugM
  rw [h]
  simp only [bindS_ok, hS, if_true, hl, hv, hS2]
  rw [if_pos ⟨trivial, hn⟩, hg]
theorem meth_is (h : mo δ S = .ok (.loc r) S1) (hS : S1[r]? = some (.obj C ns ds)) (hl : lookS ns ds m = none) (ha : ms δ S1 = .ok xs S2) (hn : xs.length + 1 = n) : methM C m n φ mo ms [] δ S = φ (.loc r :: xs) S2 := by
  unfold methM selfM
  rw [h]
  simp only [bind_ok, asO_loc hS, hl, and_self, if_true, ha, List.append_nil, List.length_cons, hn]
theorem meth_exc (h : mo δ S = .ok (.loc r) S1) (hS : S1[r]? = some (.obj C ns ds)) (hl : lookS ns ds m = none) (ha : ms δ S1 = .exc x S2) : methM C m n φ mo ms [] δ S = .exc x S2 := by
  unfold methM selfM
  rw [h]
  simp only [bind_ok, asO_loc hS, hl, and_self, if_true, ha, bind_exc]
theorem methN_is (h : mo δ S = .ok (.loc r) S1) (hS : S1[r]? = some (.obj C ns ds)) (hl : lookS ns ds m = none) (ha : ms δ S1 = .ok xs S2) (hk : mk δ S2 = .ok zs S3) (hn : xs.length + 1 = n) (hj : zs.length = j) (hq : (gD (.loc r :: xs) zs).length = q) :
    methN C m n j q φ gD mo ms mk δ S = φ (gD (.loc r :: xs) zs) S3 := by
  unfold methN selfM
  rw [h]
  simp only [bind_ok, asO_loc hS, hl, and_self, if_true, ha, hk, List.length_cons, hn, hj, hq]
theorem if_exc {nc : MB} {m1 m2 : MS} (h : nc δ S = .exc x S1) : ifSM nc m1 m2 δ S = .exc x δ S1 := by rw [ifSM, h]; rfl
theorem finX_same {S : Store} {x : Ex} (h : okL 0 x.ds = true) : finX S x S = .exc x S := by
  have := finX_cut (t := []) h rfl (Settles.same (S := S))
  rwa [List.append_nil] at this
theorem raise_ok {mx : DEnv → Store → Res Ex} (h : mx δ S = .ok x S1) : raiseM mx δ S = .exc x δ S1 := by rw [raiseM, h]
theorem set_get {c : Cell} (h : r < S.length) : (S.set r c)[r]? = some c := List.getElem?_set_self h
theorem get_lt {c : Cell} (h : S[r]? = some c) : r < S.length := (List.getElem?_eq_some_iff.mp h).1
theorem set_app {c : Cell} {t : Store} (h : r < S.length) : (S ++ t).set r c = S.set r c ++ t := List.set_append_left _ _ h
end
end SL

/-! What the defs of the law compute, as terms (printed by gen.py). -/
namespace K28
open PySem PySem.Spec L2 SL
structure Ad where
  (HallError BadText Reader : Addr)
abbrev s_FIGURES : List Nat := [48, 49, 50, 51, 52, 53, 54, 55, 56, 57]
abbrev s_LETTERS : List Nat := [97, 98, 99, 100, 101, 102, 103, 104, 105, 106, 107, 108, 109, 110, 111, 112, 113, 114, 115, 116, 117, 118, 119, 120, 121, 122, 65, 66, 67, 68, 69, 70, 71, 72, 73, 74, 75, 76, 77, 78, 79, 80, 81, 82, 83, 84, 85, 86, 87, 88, 89, 90]
abbrev s_SMALL : List Nat := [97, 98, 99, 100, 101, 102, 103, 104, 105, 106, 107, 108, 109, 110, 111, 112, 113, 114, 115, 116, 117, 118, 119, 120, 121, 122]
def gx_HallError : List SL.D → List SL.D := fun ds => ds
def gx_BadText : List SL.D → List SL.D := fun ds => ds ++ gx_HallError [.str [98, 97, 100, 116, 101, 120, 116]]
abbrev gD_Reader_run_0 : List SL.D → List SL.D → List SL.D := fun ds es => ds ++ es ++ [.int 0, .int 12]
abbrev gD_Reader_run_least : List SL.D → List SL.D → List SL.D := fun ds es => ds ++ es ++ [.int 12]
abbrev gD_Reader_run_least_most : List SL.D → List SL.D → List SL.D := fun ds es => ds ++ es ++ []
/-- law ['_law_script', '_law_d', '_law_turn', '_law_text_here', '_law_k'] -/
noncomputable def m_law (A : Ad) (φlaw_text : Fn) (φlaw_draw : Fn) (φlaw_spoilt : Fn) (φlaw_due : Fn) (φlaw_told : Fn) (φlaw_same : Fn) : MS := (seqM (forM (src1 (cM (.int 6))) (.nm 2) (seqM (asgM 3 (appM 1 φlaw_text (consM (vM 1) nilM) []))
  (seqM (forM (src1 (appM 2 φlaw_draw (consM (vM 1) (consM (cM (.int 3)) nilM)) [])) (.nm 4) (asgM 3 (appM 2 φlaw_spoilt (consM (vM 1) (consM (vM 3) nilM)) [])))
  (ifSM (notB (trM (appM 2 φlaw_same (consM (appM 1 φlaw_told (consM (vM 3) nilM) []) (consM (appM 1 φlaw_due (consM (vM 3) nilM) []) nilM)) []))) (retM (cM (.bl false))) nxM))))
  (retM (appM 2 φlaw_same (consM (callG lstG (consM (appM 1 φlaw_told (consM (cM (.str [])) nilM) []) (consM (appM 1 φlaw_told (consM (cM (.str [32])) nilM) []) (consM (appM 1 φlaw_told (consM (cM (.str [45, 45])) nilM) []) nilM)))) (consM (callG lstG (consM (cM (.int 0)) (consM (cM (.int 0)) (consM (cM (.int 1)) nilM)))) nilM)) [])))
/-- _law_text ['_law_d', '_law_how', '_law_many', '_law_k'] -/
noncomputable def m_law_text (A : Ad) (φlaw_draw : Fn) (φlaw_piece : Fn) : MS := (seqM (asgM 1 (appM 2 φlaw_draw (consM (vM 0) (consM (cM (.int 8)) nilM)) []))
  (seqM (ifSM (cmpB eqG (vM 1) (cM (.int 0))) (seqM (asgM 2 (op2M addG (cM (.int 11)) (appM 2 φlaw_draw (consM (vM 0) (consM (cM (.int 3)) nilM)) [])))
  (retM (op2M addG (op2M addG (op2M mulG (cM (.str [40])) (vM 2)) (cM (.str [46, 97]))) (op2M mulG (cM (.str [41, 42, 50])) (vM 2))))) nxM)
  (seqM (ifSM (cmpB eqG (vM 1) (cM (.int 1))) (retM (mtS joinG (cM (.str [32])) (consM (op2M mulG (callG lstG (consM (cM (.str [46, 97])) nilM)) (op2M addG (cM (.int 59)) (appM 2 φlaw_draw (consM (vM 0) (consM (cM (.int 3)) nilM)) []))) nilM))) nxM)
  (retM (mtS joinG (cM (.str [32])) (consM (compM (src1 (op2M addG (cM (.int 1)) (appM 2 φlaw_draw (consM (vM 0) (consM (cM (.int 5)) nilM)) []))) (.nm 3) yesB (appM 1 φlaw_piece (consM (vM 0) nilM) []) [3]) nilM))))))
/-- _law_draw ['_law_d', '_law_many', '_law_cell', '_law_digit', '_law_mix'] -/
noncomputable def m_law_draw (A : Ad)  : MS := (seqM (ifSM (andB (cmpB ltG (op2M ixG (vM 0) (cM (.int 2))) (vM 1)) (cmpB ltG (op2M ixG (vM 0) (cM (.int 1))) (callG lenG (consM (op2M ixG (vM 0) (cM (.int 0))) nilM)))) (seqM (asgM 2 (op2M ixG (op2M ixG (vM 0) (cM (.int 0))) (op2M ixG (vM 0) (cM (.int 1)))))
  (seqM (setIM (vM 0) (cM (.int 1)) (op2M addG (op2M ixG (vM 0) (cM (.int 1))) (cM (.int 1))))
  (seqM (setIM (vM 0) (cM (.int 2)) (ifM (cmpB geG (vM 2) (op2M powG (cM (.int 10)) (cM (.int 18)))) (vM 2) (cM (.int 0))))
  (setIM (vM 0) (cM (.int 3)) (op2M modG (op2M addG (op2M addG (op2M mulG (op2M ixG (vM 0) (cM (.int 3))) (cM (.int 69621))) (op2M modG (vM 2) (cM (.int 998244353)))) (cM (.int 1))) (cM (.int 2147483647))))))) nxM)
  (seqM (ifSM (cmpB geG (op2M ixG (vM 0) (cM (.int 2))) (vM 1)) (seqM (asgM 3 (op2M modG (op2M ixG (vM 0) (cM (.int 2))) (vM 1)))
  (seqM (setIM (vM 0) (cM (.int 2)) (op2M fdivG (op2M ixG (vM 0) (cM (.int 2))) (vM 1)))
  (retM (vM 3)))) nxM)
  (seqM (setIM (vM 0) (cM (.int 4)) (op2M addG (op2M ixG (vM 0) (cM (.int 4))) (cM (.int 1))))
  (seqM (asgM 4 (op2M addG (op2M addG (op2M mulG (op2M ixG (vM 0) (cM (.int 3))) (cM (.int 16807))) (op2M mulG (op2M ixG (vM 0) (cM (.int 4))) (cM (.int 40692)))) (cM (.int 7))))
  (seqM (asgM 4 (op2M addG (op2M mulG (vM 4) (op2M addG (op2M modG (vM 4) (cM (.int 65521))) (cM (.int 3)))) (op2M mulG (op2M ixG (vM 0) (cM (.int 4))) (cM (.int 9176)))))
  (seqM (setIM (vM 0) (cM (.int 3)) (op2M modG (vM 4) (cM (.int 2147483629))))
  (retM (op2M modG (op2M addG (op2M fdivG (op2M ixG (vM 0) (cM (.int 3))) (cM (.int 32))) (op2M mulG (op2M modG (op2M ixG (vM 0) (cM (.int 3))) (cM (.int 8191))) (cM (.int 13)))) (vM 1)))))))))
/-- _law_spoilt ['_law_d', '_law_text_here', '_law_signs', '_law_at', '_law_sign'] -/
noncomputable def m_law_spoilt (A : Ad) (φlaw_draw : Fn) (φlaw_of : Fn) : MS := (seqM (asgM 2 (op2M addG (cM (.str [32, 46, 126, 60, 62, 40, 41, 42, 45, 48, 49, 50, 51, 52, 53, 54, 55, 56, 57, 97, 98, 122, 65, 66, 90, 95, 64, 91, 123, 47, 58, 44, 59, 33, 35, 36, 38, 39, 43, 61, 63, 94, 124, 125])) (cM (.str [10]))))
  (seqM (asgM 3 (appM 2 φlaw_draw (consM (vM 0) (consM (op2M addG (callG lenG (consM (vM 1) nilM)) (cM (.int 1))) nilM)) []))
  (seqM (asgM 4 (appM 2 φlaw_of (consM (vM 0) (consM (vM 2) nilM)) []))
  (retM (appM 2 φlaw_of (consM (vM 0) (consM (callG lstG (consM (op2M addG (op2M addG (slM (vM 1) noO (soO (vM 3))) (vM 4)) (slM (vM 1) (soO (vM 3)) noO)) (consM (op2M addG (slM (vM 1) noO (soO (vM 3))) (slM (vM 1) (soO (op2M addG (vM 3) (cM (.int 1)))) noO)) (consM (op2M addG (op2M addG (slM (vM 1) noO (soO (vM 3))) (vM 4)) (slM (vM 1) (soO (op2M addG (vM 3) (cM (.int 1)))) noO)) (consM (slM (vM 1) noO (soO (vM 3))) (consM (op2M addG (vM 1) (cM (.str [32]))) (consM (vM 1) nilM))))))) nilM)) [])))))
/-- _law_due ['_law_text_here', '_law_at', '_law_tree', '_law_many'] -/
noncomputable def m_law_due (A : Ad) (φlaw_row_at : Fn) : MS := (seqM (asgT (.tp [(.nm 1), (.nm 2), (.nm 3)]) (appM 4 φlaw_row_at (consM (vM 0) (consM (cM (.int 0)) (consM (cM (.int 0)) (consM (cM (.int 0)) nilM)))) []))
  (retM (ifM (andB (cmpB isntG (vM 2) (cM .non)) (cmpB eqG (vM 1) (callG lenG (consM (vM 0) nilM)))) (vM 2) (vM 1))))
/-- _law_told ['_law_text_here', '_law_found', 'e'] -/
noncomputable def m_law_told (A : Ad) (φread_row : Fn) : MS := (seqM (tryM (ctOf [(A.BadText, true)]) 2 (fun a dd => (asgM 1 (xfM a dd "at" (vM 2)))) (asgM 1 (appM 1 φread_row (consM (vM 0) nilM) [])))
  (retM (vM 1)))
/-- _law_same ['_law_x', '_law_due_here', '_law_k'] -/
noncomputable def m_law_same (A : Ad) (φlaw_same : Fn) : MS := (seqM (ifSM (trM (callG isiA (consM (vM 1) (consM (callG tupG (consM (cM (.raw (.ty "list"))) (consM (cM (.raw (.ty "tuple"))) nilM))) nilM)))) (seqM (ifSM (orB (cmpB neG (callG isiA (consM (vM 1) (consM (cM (.raw (.ty "list"))) nilM))) (callG isiA (consM (vM 0) (consM (cM (.raw (.ty "list"))) nilM)))) (cmpB neG (callG isiA (consM (vM 1) (consM (cM (.raw (.ty "tuple"))) nilM))) (callG isiA (consM (vM 0) (consM (cM (.raw (.ty "tuple"))) nilM))))) (retM (cM (.bl false))) nxM)
  (retM (andM (op2M eqG (callG lenG (consM (vM 0) nilM)) (callG lenG (consM (vM 1) nilM))) (callG allG (consM (compM (src1 (callG lenG (consM (vM 1) nilM))) (.nm 2) yesB (appM 2 φlaw_same (consM (op2M ixG (vM 0) (vM 2)) (consM (op2M ixG (vM 1) (vM 2)) nilM)) []) [2]) nilM))))) nxM)
  (seqM (ifSM (orB (cmpB neG (callG isiA (consM (vM 0) (consM (cM (.raw (.ty "bool"))) nilM))) (callG isiA (consM (vM 1) (consM (cM (.raw (.ty "bool"))) nilM)))) (cmpB neG (callG isiA (consM (vM 0) (consM (cM (.raw (.ty "str"))) nilM))) (callG isiA (consM (vM 1) (consM (cM (.raw (.ty "str"))) nilM))))) (retM (cM (.bl false))) nxM)
  (retM (andM (op2M eqG (op2M isG (vM 0) (cM .non)) (op2M isG (vM 1) (cM .non))) (op2M eqG (vM 0) (vM 1))))))
/-- _law_piece ['_law_d', '_law_name', '_law_some', '_law_number'] -/
noncomputable def m_law_piece (A : Ad) (φlaw_of : Fn) : MS := (seqM (asgM 1 (appM 2 φlaw_of (consM (vM 0) (consM (callG lstG (consM (cM (.str [103, 111])) (consM (cM (.str [97, 98, 99, 100, 101, 102, 103, 104])) (consM (cM (.str [97, 98, 99, 100, 101, 102, 103, 104, 105])) (consM (cM (.str [120])) (consM (cM (.str [97, 66])) nilM)))))) nilM)) []))
  (seqM (asgM 2 (callG lstG (consM (cM (.str [46])) (consM (cM (.str [46, 97, 66])) (consM (cM (.str [46, 97, 98, 99, 100, 101, 102, 103, 104, 105, 106, 107, 108])) (consM (cM (.str [46, 97, 98, 99, 100, 101, 102, 103, 104, 105, 106, 107, 108, 109])) (consM (cM (.str [126, 97])) (consM (cM (.str [126])) (consM (op2M addG (op2M addG (cM (.str [60])) (vM 1)) (cM (.str [62]))) (consM (cM (.str [45])) (consM (cM (.str [40, 41, 42, 51])) nilM)))))))))))
  (seqM (asgM 3 (appM 2 φlaw_of (consM (vM 0) (consM (callG lstG (consM (cM (.str [48])) (consM (cM (.str [49])) (consM (cM (.str [48, 55])) (consM (cM (.str [49, 48])) (consM (callG strG (consM (op2M powG (cM (.int 10)) (cM (.int 30))) nilM)) (consM (callG strG (consM (op2M addG (op2M powG (cM (.int 10)) (cM (.int 30))) (cM (.int 1))) nilM)) (consM (op2M addG (callG strG (consM (op2M powG (cM (.int 10)) (cM (.int 30))) nilM)) (cM (.str [48]))) (consM (op2M mulG (cM (.str [57])) (cM (.int 31))) (consM (cM (.str [])) nilM)))))))))) nilM)) []))
  (retM (appM 2 φlaw_of (consM (vM 0) (consM (op2M addG (vM 2) (callG lstG (consM (op2M addG (cM (.str [40, 46, 97, 32, 60, 98, 62, 41, 42])) (vM 3)) (consM (op2M addG (cM (.str [40, 45, 41, 42])) (vM 3)) (consM (op2M addG (cM (.str [40, 40, 46, 97, 41, 42, 50, 32, 126, 98, 41, 42])) (vM 3)) nilM))))) nilM)) [])))))
/-- _law_of ['_law_d', '_law_some'] -/
noncomputable def m_law_of (A : Ad) (φlaw_draw : Fn) : MS := (retM (op2M ixG (vM 1) (appM 2 φlaw_draw (consM (vM 0) (consM (callG lenG (consM (vM 1) nilM)) nilM)) [])))
/-- _law_row_at ['_law_text_here', '_law_at', '_law_many', '_law_deep', '_law_steps', '_law_turn', '_law_step'] -/
noncomputable def m_law_row_at (A : Ad) (φlaw_step_at : Fn) : MS := (seqM (ifSM (cmpB eqG (slM (vM 0) (soO (vM 1)) (soO (op2M addG (vM 1) (cM (.int 1))))) (cM (.str [45]))) (retM (callG tupG (consM (op2M addG (vM 1) (cM (.int 1))) (consM (callG tupG (consM (cM (.str [115, 116, 101, 112, 115])) (consM (callG tupG nilM) nilM))) (consM (vM 2) nilM))))) nxM)
  (seqM (asgM 4 (lstLM nilM))
  (seqM (forM (src1 (cM (.int 62))) (.nm 5) (seqM (asgT (.tp [(.nm 1), (.nm 6), (.nm 2)]) (appM 4 φlaw_step_at (consM (vM 0) (consM (vM 1) (consM (vM 2) (consM (vM 3) nilM)))) []))
  (seqM (ifSM (cmpB isG (vM 6) (cM .non)) (retM (callG tupG (consM (vM 1) (consM (cM .non) (consM (vM 2) nilM))))) nxM)
  (seqM (exprM (lmM appendG (vM 4) (consM (vM 6) nilM)))
  (seqM (ifSM (cmpB neG (slM (vM 0) (soO (vM 1)) (soO (op2M addG (vM 1) (cM (.int 1))))) (cM (.str [32]))) (retM (callG tupG (consM (vM 1) (consM (callG tupG (consM (cM (.str [115, 116, 101, 112, 115])) (consM (callG tupleG (consM (vM 4) nilM)) nilM))) (consM (vM 2) nilM))))) nxM)
  (asgM 1 (op2M addG (vM 1) (cM (.int 1)))))))))
  (retM (callG tupG (consM (vM 1) (consM (cM .non) (consM (vM 2) nilM))))))))
/-- read_row ['text', 'reader', 'found'] -/
noncomputable def m_read_row (A : Ad) (φReader_init : Fn) (φReader_row : Fn) (φReader_here : Fn) (φReader_need : Fn) : MS := (seqM (asgM 1 (makeM A.Reader 2 φReader_init (consM (vM 0) nilM) []))
  (seqM (asgM 2 (methM A.Reader "row" 2 φReader_row (vM 1) (consM (cM (.int 0)) nilM) []))
  (seqM (exprM (methM A.Reader "need" 2 φReader_need (vM 1) (consM (op2M eqG (methM A.Reader "here" 1 φReader_here (vM 1) nilM []) (cM (.str []))) nilM) []))
  (retM (vM 2)))))
/-- _law_step_at ['_law_text_here', '_law_at', '_law_many', '_law_deep', '_law_letters_here', '_law_sign', '_law_end', '_law_inner', '_law_need', '_law_number', '_law_good'] -/
noncomputable def m_law_step_at (A : Ad) (φlaw_letters : Fn) (φlaw_run : Fn) (φlaw_row_at : Fn) (φlaw_times_at : Fn) : MS := (seqM (asgM 4 (op2M addG (appM 0 φlaw_letters nilM []) (mtS upperG (appM 0 φlaw_letters nilM []) nilM)))
  (seqM (asgM 5 (slM (vM 0) (soO (vM 1)) (soO (op2M addG (vM 1) (cM (.int 1))))))
  (seqM (ifSM (orB (cmpB ninG (vM 5) (callG tupG (consM (cM (.str [46])) (consM (cM (.str [126])) (consM (cM (.str [60])) (consM (cM (.str [40])) nilM)))))) (orB (cmpB geG (vM 2) (cM (.int 60))) (andB (cmpB eqG (vM 5) (cM (.str [40]))) (cmpB geG (vM 3) (cM (.int 12)))))) (retM (callG tupG (consM (vM 1) (consM (cM .non) (consM (vM 2) nilM))))) nxM)
  (seqM (ifSM (orB (cmpB eqG (vM 5) (cM (.str [46]))) (cmpB eqG (vM 5) (cM (.str [126])))) (seqM (asgM 6 (appM 4 φlaw_run (consM (vM 0) (consM (op2M addG (vM 1) (cM (.int 1))) (consM (vM 4) (consM (cM (.int 12)) nilM)))) []))
  (seqM (ifSM (andB (cmpB eqG (vM 5) (cM (.str [126]))) (cmpB eqG (vM 6) (op2M addG (vM 1) (cM (.int 1))))) (retM (callG tupG (consM (vM 6) (consM (cM .non) (consM (vM 2) nilM))))) nxM)
  (retM (callG tupG (consM (vM 6) (consM (callG tupG (consM (op2M ixG (callG lstG (consM (cM (.str [99, 97, 108, 108])) (consM (cM (.str [116, 117, 114, 110])) nilM))) (callG intG (consM (op2M eqG (vM 5) (cM (.str [126]))) nilM))) (consM (slM (vM 0) (soO (op2M addG (vM 1) (cM (.int 1)))) (soO (vM 6))) nilM))) (consM (op2M addG (vM 2) (cM (.int 1))) nilM))))))) nxM)
  (seqM (ifSM (cmpB eqG (vM 5) (cM (.str [60]))) (seqM (asgM 6 (appM 4 φlaw_run (consM (vM 0) (consM (op2M addG (vM 1) (cM (.int 1))) (consM (appM 0 φlaw_letters nilM []) (consM (cM (.int 8)) nilM)))) []))
  (seqM (ifSM (orB (cmpB eqG (vM 6) (op2M addG (vM 1) (cM (.int 1)))) (cmpB neG (slM (vM 0) (soO (vM 6)) (soO (op2M addG (vM 6) (cM (.int 1))))) (cM (.str [62])))) (retM (callG tupG (consM (vM 6) (consM (cM .non) (consM (vM 2) nilM))))) nxM)
  (retM (callG tupG (consM (op2M addG (vM 6) (cM (.int 1))) (consM (callG tupG (consM (cM (.str [114, 111, 119])) (consM (slM (vM 0) (soO (op2M addG (vM 1) (cM (.int 1)))) (soO (vM 6))) nilM))) (consM (op2M addG (vM 2) (cM (.int 1))) nilM))))))) nxM)
  (seqM (asgT (.tp [(.nm 6), (.nm 7), (.nm 2)]) (appM 4 φlaw_row_at (consM (vM 0) (consM (op2M addG (vM 1) (cM (.int 1))) (consM (op2M addG (vM 2) (cM (.int 1))) (consM (op2M addG (vM 3) (cM (.int 1))) nilM)))) []))
  (seqM (forM (srcV (cM (.str [41, 42]))) (.nm 8) (ifSM (andB (cmpB isntG (vM 7) (cM .non)) (cmpB eqG (slM (vM 0) (soO (vM 6)) (soO (op2M addG (vM 6) (cM (.int 1))))) (vM 8))) (asgM 6 (op2M addG (vM 6) (cM (.int 1)))) (retM (callG tupG (consM (vM 6) (consM (cM .non) (consM (vM 2) nilM)))))))
  (seqM (asgT (.tp [(.nm 6), (.nm 9), (.nm 10)]) (appM 2 φlaw_times_at (consM (vM 0) (consM (vM 6) nilM)) []))
  (retM (callG tupG (consM (vM 6) (consM (ifM (trM (vM 10)) (callG tupG (consM (cM (.str [116, 105, 109, 101, 115])) (consM (vM 9) (consM (vM 7) nilM)))) (cM .non)) (consM (vM 2) nilM)))))))))))))
/-- Reader.__init__ ['self', 'signs'] -/
noncomputable def m_Reader_init (A : Ad)  : MS := (seqM (setfM A.Reader "signs" (vM 0) (vM 1))
  (seqM (setfM A.Reader "now" (vM 0) (cM (.int 0)))
  (setfM A.Reader "many" (vM 0) (cM (.int 0)))))
/-- Reader.row ['self', 'deep', 'found'] -/
noncomputable def m_Reader_row (A : Ad) (φReader_here : Fn) (φReader_step : Fn) : MS := (seqM (ifSM (cmpB eqG (methM A.Reader "here" 1 φReader_here (vM 0) nilM []) (cM (.str [45]))) (seqM (fldaugM A.Reader "now" addI (vM 0) (cM (.int 1)))
  (retM (callG tupG (consM (cM (.str [115, 116, 101, 112, 115])) (consM (callG tupG nilM) nilM))))) nxM)
  (seqM (asgM 2 (lstLM (consM (methM A.Reader "step" 2 φReader_step (vM 0) (consM (vM 1) nilM) []) nilM)))
  (seqM (whileM (cmpB eqG (methM A.Reader "here" 1 φReader_here (vM 0) nilM []) (cM (.str [32]))) (seqM (fldaugM A.Reader "now" addI (vM 0) (cM (.int 1)))
  (exprM (lmM appendG (vM 2) (consM (methM A.Reader "step" 2 φReader_step (vM 0) (consM (vM 1) nilM) []) nilM)))))
  (retM (callG tupG (consM (cM (.str [115, 116, 101, 112, 115])) (consM (callG tupleG (consM (vM 2) nilM)) nilM)))))))
/-- Reader.here ['self'] -/
noncomputable def m_Reader_here (A : Ad)  : MS := (retM (slM (fldM A.Reader "signs" (vM 0)) (soO (fldM A.Reader "now" (vM 0))) (soO (op2M addG (fldM A.Reader "now" (vM 0)) (cM (.int 1))))))
/-- Reader.need ['self', 'good'] -/
noncomputable def m_Reader_need (A : Ad)  : MS := (ifSM (notB (trM (vM 1))) (raiseM (mkxM A.BadText 1 ["at", "word"] gx_BadText (consM (fldM A.Reader "now" (vM 0)) nilM))) nxM)
/-- _law_letters [] -/
noncomputable def m_law_letters (A : Ad)  : MS := (retM (cM (.str [97, 98, 99, 100, 101, 102, 103, 104, 105, 106, 107, 108, 109, 110, 111, 112, 113, 114, 115, 116, 117, 118, 119, 120, 121, 122])))
/-- _law_run ['_law_text_here', '_law_at', '_law_signs', '_law_most', '_law_end'] -/
noncomputable def m_law_run (A : Ad)  : MS := (seqM (asgM 4 (vM 1))
  (seqM (whileM (andB (cmpB ltG (vM 4) (callG lenG (consM (vM 0) nilM))) (andB (cmpB ltG (op2M subG (vM 4) (vM 1)) (vM 3)) (cmpB inG (op2M ixG (vM 0) (vM 4)) (vM 2)))) (asgM 4 (op2M addG (vM 4) (cM (.int 1)))))
  (retM (vM 4))))
/-- _law_times_at ['_law_text_here', '_law_at', '_law_end'] -/
noncomputable def m_law_times_at (A : Ad) (φlaw_run : Fn) : MS := (seqM (ifSM (cmpB eqG (slM (vM 0) (soO (vM 1)) (soO (op2M addG (vM 1) (cM (.int 1))))) (cM (.str [48]))) (retM (callG tupG (consM (op2M addG (vM 1) (cM (.int 1))) (consM (cM (.int 0)) (consM (cM (.bl true)) nilM))))) nxM)
  (seqM (asgM 2 (appM 4 φlaw_run (consM (vM 0) (consM (vM 1) (consM (cM (.str [48, 49, 50, 51, 52, 53, 54, 55, 56, 57])) (consM (cM (.int 31)) nilM)))) []))
  (seqM (ifSM (cmpB eqG (vM 2) (vM 1)) (retM (callG tupG (consM (vM 1) (consM (cM (.int 0)) (consM (cM (.bl false)) nilM))))) nxM)
  (seqM (ifSM (cmpB gtG (callG intG (consM (slM (vM 0) (soO (vM 1)) (soO (vM 2))) nilM)) (op2M powG (cM (.int 10)) (cM (.int 30)))) (retM (callG tupG (consM (op2M subG (vM 2) (cM (.int 1))) (consM (cM (.int 0)) (consM (cM (.bl false)) nilM))))) nxM)
  (retM (callG tupG (consM (vM 2) (consM (callG intG (consM (slM (vM 0) (soO (vM 1)) (soO (vM 2))) nilM)) (consM (cM (.bl true)) nilM)))))))))
/-- Reader.step ['self', 'deep', 'sign', 'name', 'inner'] -/
noncomputable def m_Reader_step (A : Ad) (φReader_here : Fn) (φReader_need : Fn) (φReader_run : Fn) (φReader_pass_by : Fn) (φReader_row : Fn) (φReader_number : Fn) : MS := (seqM (asgM 2 (methM A.Reader "here" 1 φReader_here (vM 0) nilM []))
  (seqM (exprM (methM A.Reader "need" 2 φReader_need (vM 0) (consM (andM (op2M neG (vM 2) (cM (.str []))) (andM (op2M inG (vM 2) (cM (.str [46, 126, 60, 40]))) (op2M ltG (fldM A.Reader "many" (vM 0)) (cM (.int 60))))) nilM) []))
  (seqM (exprM (methM A.Reader "need" 2 φReader_need (vM 0) (consM (orM (op2M neG (vM 2) (cM (.str [40]))) (op2M ltG (vM 1) (cM (.int 12)))) nilM) []))
  (seqM (fldaugM A.Reader "many" addI (vM 0) (cM (.int 1)))
  (seqM (fldaugM A.Reader "now" addI (vM 0) (cM (.int 1)))
  (seqM (ifSM (cmpB eqG (vM 2) (cM (.str [46]))) (retM (callG tupG (consM (cM (.str [99, 97, 108, 108])) (consM (methN A.Reader "run" 2 0 4 φReader_run gD_Reader_run_0 (vM 0) (consM (cM (.str s_LETTERS)) nilM) nilM) nilM)))) nxM)
  (seqM (ifSM (cmpB eqG (vM 2) (cM (.str [126]))) (retM (callG tupG (consM (cM (.str [116, 117, 114, 110])) (consM (methN A.Reader "run" 2 1 4 φReader_run gD_Reader_run_least (vM 0) (consM (cM (.str s_LETTERS)) nilM) (consM (cM (.int 1)) nilM)) nilM)))) nxM)
  (seqM (ifSM (cmpB eqG (vM 2) (cM (.str [60]))) (seqM (asgM 3 (methN A.Reader "run" 2 2 4 φReader_run gD_Reader_run_least_most (vM 0) (consM (cM (.str s_SMALL)) nilM) (consM (cM (.int 1)) (consM (cM (.int 8)) nilM))))
  (seqM (exprM (methM A.Reader "pass_by" 2 φReader_pass_by (vM 0) (consM (cM (.str [62])) nilM) []))
  (retM (callG tupG (consM (cM (.str [114, 111, 119])) (consM (vM 3) nilM)))))) nxM)
  (seqM (asgM 4 (methM A.Reader "row" 2 φReader_row (vM 0) (consM (op2M addG (vM 1) (cM (.int 1))) nilM) []))
  (seqM (exprM (methM A.Reader "pass_by" 2 φReader_pass_by (vM 0) (consM (cM (.str [41])) nilM) []))
  (seqM (exprM (methM A.Reader "pass_by" 2 φReader_pass_by (vM 0) (consM (cM (.str [42])) nilM) []))
  (retM (callG tupG (consM (cM (.str [116, 105, 109, 101, 115])) (consM (methM A.Reader "number" 1 φReader_number (vM 0) nilM []) (consM (vM 4) nilM))))))))))))))))
/-- Reader.run ['self', 'some', 'least', 'most', 'start'] -/
noncomputable def m_Reader_run (A : Ad) (φReader_here : Fn) (φReader_need : Fn) : MS := (seqM (asgM 4 (fldM A.Reader "now" (vM 0)))
  (seqM (whileM (andB (cmpB ltG (op2M subG (fldM A.Reader "now" (vM 0)) (vM 4)) (vM 3)) (andB (cmpB neG (methM A.Reader "here" 1 φReader_here (vM 0) nilM []) (cM (.str []))) (cmpB inG (methM A.Reader "here" 1 φReader_here (vM 0) nilM []) (vM 1)))) (fldaugM A.Reader "now" addI (vM 0) (cM (.int 1))))
  (seqM (exprM (methM A.Reader "need" 2 φReader_need (vM 0) (consM (op2M geG (op2M subG (fldM A.Reader "now" (vM 0)) (vM 4)) (vM 2)) nilM) []))
  (retM (slM (fldM A.Reader "signs" (vM 0)) (soO (vM 4)) (soO (fldM A.Reader "now" (vM 0))))))))
/-- Reader.pass_by ['self', 'sign'] -/
noncomputable def m_Reader_pass_by (A : Ad) (φReader_here : Fn) (φReader_need : Fn) : MS := (seqM (exprM (methM A.Reader "need" 2 φReader_need (vM 0) (consM (op2M eqG (methM A.Reader "here" 1 φReader_here (vM 0) nilM []) (vM 1)) nilM) []))
  (fldaugM A.Reader "now" addI (vM 0) (cM (.int 1))))
/-- Reader.number ['self', 'word'] -/
noncomputable def m_Reader_number (A : Ad) (φReader_here : Fn) (φReader_run : Fn) : MS := (seqM (ifSM (cmpB eqG (methM A.Reader "here" 1 φReader_here (vM 0) nilM []) (cM (.str [48]))) (seqM (fldaugM A.Reader "now" addI (vM 0) (cM (.int 1)))
  (retM (cM (.int 0)))) nxM)
  (seqM (asgM 1 (methN A.Reader "run" 2 2 4 φReader_run gD_Reader_run_least_most (vM 0) (consM (cM (.str s_FIGURES)) nilM) (consM (cM (.int 1)) (consM (cM (.int 31)) nilM))))
  (seqM (ifSM (cmpB gtG (callG intG (consM (vM 1) nilM)) (cM (.int 1000000000000000000000000000000))) (raiseM (mkxM A.BadText 1 ["at", "word"] gx_BadText (consM (op2M subG (fldM A.Reader "now" (vM 0)) (cM (.int 1))) nilM))) nxM)
  (retM (callG intG (consM (vM 1) nilM))))))
noncomputable def φlaw_draw (A : Ad) : Fn := defM 5 (m_law_draw A )
noncomputable def φlaw_of (A : Ad) : Fn := defM 2 (m_law_of A (φlaw_draw A))
noncomputable def φlaw_piece (A : Ad) : Fn := defM 4 (m_law_piece A (φlaw_of A))
noncomputable def φlaw_text (A : Ad) : Fn := defM 4 (m_law_text A (φlaw_draw A) (φlaw_piece A))
noncomputable def φlaw_spoilt (A : Ad) : Fn := defM 5 (m_law_spoilt A (φlaw_draw A) (φlaw_of A))
noncomputable def φlaw_letters (A : Ad) : Fn := defM 0 (m_law_letters A )
noncomputable def φlaw_run (A : Ad) : Fn := defM 5 (m_law_run A )
noncomputable def φlaw_times_at (A : Ad) : Fn := defM 3 (m_law_times_at A (φlaw_run A))
noncomputable def grp_law_step_at_law_row_at (A : Ad) : Nat → Fn × Fn
  | 0 => (stuckF, stuckF)
  | n + 1 => (defM 11 (m_law_step_at A (φlaw_letters A) (φlaw_run A) ((grp_law_step_at_law_row_at A n).2) (φlaw_times_at A)),
    defM 7 (m_law_row_at A ((grp_law_step_at_law_row_at A n).1)))
noncomputable def φn_law_step_at (A : Ad) (n : Nat) : Fn := (grp_law_step_at_law_row_at A n).1
noncomputable def φlaw_step_at (A : Ad) : Fn := φn_law_step_at A 40
noncomputable def φn_law_row_at (A : Ad) (n : Nat) : Fn := (grp_law_step_at_law_row_at A n).2
noncomputable def φlaw_row_at (A : Ad) : Fn := φn_law_row_at A 40
noncomputable def φlaw_due (A : Ad) : Fn := defM 4 (m_law_due A (φlaw_row_at A))
noncomputable def φReader_init (A : Ad) : Fn := defM 2 (m_Reader_init A )
noncomputable def φReader_here (A : Ad) : Fn := defM 1 (m_Reader_here A )
noncomputable def φReader_need (A : Ad) : Fn := defM 2 (m_Reader_need A )
noncomputable def φReader_run (A : Ad) : Fn := defM 5 (m_Reader_run A (φReader_here A) (φReader_need A))
noncomputable def φReader_pass_by (A : Ad) : Fn := defM 2 (m_Reader_pass_by A (φReader_here A) (φReader_need A))
noncomputable def φReader_number (A : Ad) : Fn := defM 2 (m_Reader_number A (φReader_here A) (φReader_run A))
noncomputable def grp_Reader_step_Reader_row (A : Ad) : Nat → Fn × Fn
  | 0 => (stuckF, stuckF)
  | n + 1 => (defM 5 (m_Reader_step A (φReader_here A) (φReader_need A) (φReader_run A) (φReader_pass_by A) ((grp_Reader_step_Reader_row A n).2) (φReader_number A)),
    defM 3 (m_Reader_row A (φReader_here A) ((grp_Reader_step_Reader_row A n).1)))
noncomputable def φn_Reader_step (A : Ad) (n : Nat) : Fn := (grp_Reader_step_Reader_row A n).1
noncomputable def φReader_step (A : Ad) : Fn := φn_Reader_step A 60
noncomputable def φn_Reader_row (A : Ad) (n : Nat) : Fn := (grp_Reader_step_Reader_row A n).2
noncomputable def φReader_row (A : Ad) : Fn := φn_Reader_row A 60
noncomputable def φread_row (A : Ad) : Fn := defM 3 (m_read_row A (φReader_init A) (φReader_row A) (φReader_here A) (φReader_need A))
noncomputable def φlaw_told (A : Ad) : Fn := defM 3 (m_law_told A (φread_row A))
noncomputable def grp_law_same (A : Ad) : Nat → Fn
  | 0 => (stuckF)
  | n + 1 => (defM 3 (m_law_same A ((grp_law_same A n))))
noncomputable def φn_law_same (A : Ad) (n : Nat) : Fn := (grp_law_same A n)
noncomputable def φlaw_same (A : Ad) : Fn := φn_law_same A 40
noncomputable def mlaw (A : Ad) : MS := m_law A (φlaw_text A) (φlaw_draw A) (φlaw_spoilt A) (φlaw_due A) (φlaw_told A) (φlaw_same A)
end K28

/-! The walks (printed by gen.py). -/
namespace K28
open PySem PySem.Spec L2 SL
open PyProof.Rows hiding St
def top (i : Nat) : Stmt := PySem.Challenge.pw_nearcall_k28_texts_that_are_no_row.main.body.getD i (.Pass ⟨0, 0, 0, 0⟩)
structure Fds where
  (d_law d_law_start d_law_text d_law_draw d_law_spoilt d_law_due d_law_told d_law_same d_law_piece d_law_of d_law_row_at d_read_row d_law_step_at d_Reader_init d_Reader_row d_Reader_here d_Reader_need d_law_letters d_law_run d_law_times_at d_Reader_step d_Reader_run d_Reader_pass_by d_Reader_number d_HallError_init d_BadText_init : FuncData)
abbrev adK (K : PySem.W.Frag) : Ad := ⟨He.ga K "HallError", He.ga K "BadText", He.ga K "Reader"⟩
/-- what is known of the head -/
structure Fx (K : PySem.W.Frag) (mg : Str → Option Value) (E : Fds) : Prop where
  F_law : FunD K "law" "law" (defArgs (top 29)) (defBody (top 29)) (defScope (top 29)) [] [] (He.fAd K ("law", none)) E.d_law
  F_law_start : FunD K "_law_start" "_law_start" (defArgs (top 16)) (defBody (top 16)) (defScope (top 16)) [] [] (He.fAd K ("_law_start", none)) E.d_law_start
  F_law_text : FunD K "_law_text" "_law_text" (defArgs (top 27)) (defBody (top 27)) (defScope (top 27)) [] [] (He.fAd K ("_law_text", none)) E.d_law_text
  F_law_draw : FunD K "_law_draw" "_law_draw" (defArgs (top 17)) (defBody (top 17)) (defScope (top 17)) [] [] (He.fAd K ("_law_draw", none)) E.d_law_draw
  F_law_spoilt : FunD K "_law_spoilt" "_law_spoilt" (defArgs (top 28)) (defBody (top 28)) (defScope (top 28)) [] [] (He.fAd K ("_law_spoilt", none)) E.d_law_spoilt
  F_law_due : FunD K "_law_due" "_law_due" (defArgs (top 24)) (defBody (top 24)) (defScope (top 24)) [] [] (He.fAd K ("_law_due", none)) E.d_law_due
  F_law_told : FunD K "_law_told" "_law_told" (defArgs (top 25)) (defBody (top 25)) (defScope (top 25)) [] [] (He.fAd K ("_law_told", none)) E.d_law_told
  F_law_same : FunD K "_law_same" "_law_same" (defArgs (top 15)) (defBody (top 15)) (defScope (top 15)) [] [] (He.fAd K ("_law_same", none)) E.d_law_same
  F_law_piece : FunD K "_law_piece" "_law_piece" (defArgs (top 26)) (defBody (top 26)) (defScope (top 26)) [] [] (He.fAd K ("_law_piece", none)) E.d_law_piece
  F_law_of : FunD K "_law_of" "_law_of" (defArgs (top 18)) (defBody (top 18)) (defScope (top 18)) [] [] (He.fAd K ("_law_of", none)) E.d_law_of
  F_law_row_at : FunD K "_law_row_at" "_law_row_at" (defArgs (top 23)) (defBody (top 23)) (defScope (top 23)) [] [] (He.fAd K ("_law_row_at", none)) E.d_law_row_at
  F_read_row : FunD K "read_row" "read_row" (defArgs (top 13)) (defBody (top 13)) (defScope (top 13)) [] [] (He.fAd K ("read_row", none)) E.d_read_row
  F_law_step_at : FunD K "_law_step_at" "_law_step_at" (defArgs (top 22)) (defBody (top 22)) (defScope (top 22)) [] [] (He.fAd K ("_law_step_at", none)) E.d_law_step_at
  F_Reader_init : FunD K "__init__" "Reader.__init__" (defArgs (clsDef (top 12) 0)) (defBody (clsDef (top 12) 0)) (defScope (clsDef (top 12) 0)) [] [] (He.fAd K ("Reader", some "__init__")) E.d_Reader_init
  F_Reader_row : FunD K "row" "Reader.row" (defArgs (clsDef (top 12) 7)) (defBody (clsDef (top 12) 7)) (defScope (clsDef (top 12) 7)) [] [] (He.fAd K ("Reader", some "row")) E.d_Reader_row
  F_Reader_here : FunD K "here" "Reader.here" (defArgs (clsDef (top 12) 1)) (defBody (clsDef (top 12) 1)) (defScope (clsDef (top 12) 1)) [] [] (He.fAd K ("Reader", some "here")) E.d_Reader_here
  F_Reader_need : FunD K "need" "Reader.need" (defArgs (clsDef (top 12) 2)) (defBody (clsDef (top 12) 2)) (defScope (clsDef (top 12) 2)) [] [] (He.fAd K ("Reader", some "need")) E.d_Reader_need
  F_law_letters : FunD K "_law_letters" "_law_letters" (defArgs (top 19)) (defBody (top 19)) (defScope (top 19)) [] [] (He.fAd K ("_law_letters", none)) E.d_law_letters
  F_law_run : FunD K "_law_run" "_law_run" (defArgs (top 20)) (defBody (top 20)) (defScope (top 20)) [] [] (He.fAd K ("_law_run", none)) E.d_law_run
  F_law_times_at : FunD K "_law_times_at" "_law_times_at" (defArgs (top 21)) (defBody (top 21)) (defScope (top 21)) [] [] (He.fAd K ("_law_times_at", none)) E.d_law_times_at
  F_Reader_step : FunD K "step" "Reader.step" (defArgs (clsDef (top 12) 6)) (defBody (clsDef (top 12) 6)) (defScope (clsDef (top 12) 6)) [] [] (He.fAd K ("Reader", some "step")) E.d_Reader_step
  F_Reader_run : FunD K "run" "Reader.run" (defArgs (clsDef (top 12) 4)) (defBody (clsDef (top 12) 4)) (defScope (clsDef (top 12) 4)) [] [("least", V.int 0), ("most", V.int 12)] (He.fAd K ("Reader", some "run")) E.d_Reader_run
  F_Reader_pass_by : FunD K "pass_by" "Reader.pass_by" (defArgs (clsDef (top 12) 3)) (defBody (clsDef (top 12) 3)) (defScope (clsDef (top 12) 3)) [] [] (He.fAd K ("Reader", some "pass_by")) E.d_Reader_pass_by
  F_Reader_number : FunD K "number" "Reader.number" (defArgs (clsDef (top 12) 5)) (defBody (clsDef (top 12) 5)) (defScope (clsDef (top 12) 5)) [] [] (He.fAd K ("Reader", some "number")) E.d_Reader_number
  F_HallError_init : FunD K "__init__" "HallError.__init__" (defArgs (clsDef (top 1) 0)) (defBody (clsDef (top 1) 0)) (defScope (clsDef (top 1) 0)) [] [] (He.fAd K ("HallError", some "__init__")) E.d_HallError_init
  F_BadText_init : FunD K "__init__" "BadText.__init__" (defArgs (clsDef (top 2) 0)) (defBody (clsDef (top 2) 0)) (defScope (clsDef (top 2) 0)) [] [] (He.fAd K ("BadText", some "__init__")) E.d_BadText_init
  m_law_start : mg "_law_start" = some (.ref (He.fAd K ("_law_start", none)))
  n_range : mg "range" = none
  m_law_text : mg "_law_text" = some (.ref (He.fAd K ("_law_text", none)))
  m_law_draw : mg "_law_draw" = some (.ref (He.fAd K ("_law_draw", none)))
  m_law_spoilt : mg "_law_spoilt" = some (.ref (He.fAd K ("_law_spoilt", none)))
  m_law_due : mg "_law_due" = some (.ref (He.fAd K ("_law_due", none)))
  m_law_told : mg "_law_told" = some (.ref (He.fAd K ("_law_told", none)))
  m_law_same : mg "_law_same" = some (.ref (He.fAd K ("_law_same", none)))
  n_list : mg "list" = none
  m_law_piece : mg "_law_piece" = some (.ref (He.fAd K ("_law_piece", none)))
  n_len : mg "len" = none
  m_law_of : mg "_law_of" = some (.ref (He.fAd K ("_law_of", none)))
  m_law_row_at : mg "_law_row_at" = some (.ref (He.fAd K ("_law_row_at", none)))
  t_law_told_0 : ctB K (He.ga K "BadText") [(He.ga K "BadText", true)] = true
  u_law_told_0 : xfAll K [(He.ga K "BadText", true)] ["at"] = true
  g_BadText : mg "BadText" = some (.ref (He.ga K "BadText"))
  m_read_row : mg "read_row" = some (.ref (He.fAd K ("read_row", none)))
  n_tuple : mg "tuple" = none
  n_isinstance : mg "isinstance" = none
  n_all : mg "all" = none
  n_bool : mg "bool" = none
  n_str : mg "str" = none
  m_law_step_at : mg "_law_step_at" = some (.ref (He.fAd K ("_law_step_at", none)))
  k_Reader : Mk K (He.ga K "Reader") (He.fAd K ("Reader", some "__init__"))
  g_Reader : mg "Reader" = some (.ref (He.ga K "Reader"))
  c_Reader : Cls K (He.ga K "Reader")
  h_Reader_row : Meth K (He.ga K "Reader") "row" (He.fAd K ("Reader", some "row"))
  h_Reader_here : Meth K (He.ga K "Reader") "here" (He.fAd K ("Reader", some "here"))
  h_Reader_need : Meth K (He.ga K "Reader") "need" (He.fAd K ("Reader", some "need"))
  m_law_letters : mg "_law_letters" = some (.ref (He.fAd K ("_law_letters", none)))
  m_law_run : mg "_law_run" = some (.ref (He.fAd K ("_law_run", none)))
  n_int : mg "int" = none
  m_law_times_at : mg "_law_times_at" = some (.ref (He.fAd K ("_law_times_at", none)))
  a_Reader_signs : NoAttr K (He.ga K "Reader") "signs"
  a_Reader_now : NoAttr K (He.ga K "Reader") "now"
  a_Reader_many : NoAttr K (He.ga K "Reader") "many"
  h_Reader_step : Meth K (He.ga K "Reader") "step" (He.fAd K ("Reader", some "step"))
  o_BadText : OexI K (He.ga K "BadText") (He.fAd K ("BadText", some "__init__")) E.d_BadText_init ["self", "at"] ["at", "word"]
  i_MOST_STEPS : ∃ t, mg "MOST_STEPS" = some (.int 60 t)
  i_MOST_DEEP : ∃ t, mg "MOST_DEEP" = some (.int 12 t)
  s_LETTERS : ∃ t, mg "LETTERS" = some (.str "abcdefghijklmnopqrstuvwxyzABCDEFGHIJKLMNOPQRSTUVWXYZ" t)
  h_Reader_run : Meth K (He.ga K "Reader") "run" (He.fAd K ("Reader", some "run"))
  s_SMALL : ∃ t, mg "SMALL" = some (.str "abcdefghijklmnopqrstuvwxyz" t)
  i_MOST_NAME : ∃ t, mg "MOST_NAME" = some (.int 8 t)
  h_Reader_pass_by : Meth K (He.ga K "Reader") "pass_by" (He.fAd K ("Reader", some "pass_by"))
  h_Reader_number : Meth K (He.ga K "Reader") "number" (He.fAd K ("Reader", some "number"))
  s_FIGURES : ∃ t, mg "FIGURES" = some (.str "0123456789" t)
  i_MOST_TIMES : ∃ t, mg "MOST_TIMES" = some (.int 1000000000000000000000000000000 t)
  n_ValueError : mg "ValueError" = none
  v_VE : PySem.W.findCls K (.type "ValueError") (.type "type") "__init__" = some (.val (.builtin "ValueError.__init__"))
  g_HallError : mg "HallError" = some (.ref (He.ga K "HallError"))
  r_HallError : ClX.CRead K (He.ga K "HallError") (.type "type") ∧ ClX.CVal K (He.ga K "HallError") (.type "type") "__init__" (.ref (He.fAd K ("HallError", some "__init__"))) (.ref (He.fAd K ("HallError", some "__init__")))
  m_law : mg "law" = some (.ref (He.fAd K ("law", none)))
theorem sc_law : FnScope ["_law_script", "_law_d", "_law_turn", "_law_text_here", "_law_k"] ["_law_script"] (defScope (top 29)) := ⟨rfl, rfl, rfl, by decide +kernel, rfl, by decide +kernel, by decide +kernel⟩
theorem sc_law_start : FnScope ["_law_script", "_law_seed", "_law_cell"] ["_law_script"] (defScope (top 16)) := ⟨rfl, rfl, rfl, by decide +kernel, rfl, by decide +kernel, by decide +kernel⟩
theorem sc_law_text : FnScope ["_law_d", "_law_how", "_law_many", "_law_k"] ["_law_d"] (defScope (top 27)) := ⟨rfl, rfl, rfl, by decide +kernel, rfl, by decide +kernel, by decide +kernel⟩
theorem sc_law_draw : FnScope ["_law_d", "_law_many", "_law_cell", "_law_digit", "_law_mix"] ["_law_d", "_law_many"] (defScope (top 17)) := ⟨rfl, rfl, rfl, by decide +kernel, rfl, by decide +kernel, by decide +kernel⟩
theorem sc_law_spoilt : FnScope ["_law_d", "_law_text_here", "_law_signs", "_law_at", "_law_sign"] ["_law_d", "_law_text_here"] (defScope (top 28)) := ⟨rfl, rfl, rfl, by decide +kernel, rfl, by decide +kernel, by decide +kernel⟩
theorem sc_law_due : FnScope ["_law_text_here", "_law_at", "_law_tree", "_law_many"] ["_law_text_here"] (defScope (top 24)) := ⟨rfl, rfl, rfl, by decide +kernel, rfl, by decide +kernel, by decide +kernel⟩
theorem sc_law_told : FnScope ["_law_text_here", "_law_found", "e"] ["_law_text_here"] (defScope (top 25)) := ⟨rfl, rfl, rfl, by decide +kernel, rfl, by decide +kernel, by decide +kernel⟩
theorem sc_law_same : FnScope ["_law_x", "_law_due_here", "_law_k"] ["_law_x", "_law_due_here"] (defScope (top 15)) := ⟨rfl, rfl, rfl, by decide +kernel, rfl, by decide +kernel, by decide +kernel⟩
theorem sc_law_piece : FnScope ["_law_d", "_law_name", "_law_some", "_law_number"] ["_law_d"] (defScope (top 26)) := ⟨rfl, rfl, rfl, by decide +kernel, rfl, by decide +kernel, by decide +kernel⟩
theorem sc_law_of : FnScope ["_law_d", "_law_some"] ["_law_d", "_law_some"] (defScope (top 18)) := ⟨rfl, rfl, rfl, by decide +kernel, rfl, by decide +kernel, by decide +kernel⟩
theorem sc_law_row_at : FnScope ["_law_text_here", "_law_at", "_law_many", "_law_deep", "_law_steps", "_law_turn", "_law_step"] ["_law_text_here", "_law_at", "_law_many", "_law_deep"] (defScope (top 23)) := ⟨rfl, rfl, rfl, by decide +kernel, rfl, by decide +kernel, by decide +kernel⟩
theorem sc_read_row : FnScope ["text", "reader", "found"] ["text"] (defScope (top 13)) := ⟨rfl, rfl, rfl, by decide +kernel, rfl, by decide +kernel, by decide +kernel⟩
theorem sc_law_step_at : FnScope ["_law_text_here", "_law_at", "_law_many", "_law_deep", "_law_letters_here", "_law_sign", "_law_end", "_law_inner", "_law_need", "_law_number", "_law_good"] ["_law_text_here", "_law_at", "_law_many", "_law_deep"] (defScope (top 22)) := ⟨rfl, rfl, rfl, by decide +kernel, rfl, by decide +kernel, by decide +kernel⟩
theorem sc_Reader_init : FnScope ["self", "signs"] ["self", "signs"] (defScope (clsDef (top 12) 0)) := ⟨rfl, rfl, rfl, by decide +kernel, rfl, by decide +kernel, by decide +kernel⟩
theorem sc_Reader_row : FnScope ["self", "deep", "found"] ["self", "deep"] (defScope (clsDef (top 12) 7)) := ⟨rfl, rfl, rfl, by decide +kernel, rfl, by decide +kernel, by decide +kernel⟩
theorem sc_Reader_here : FnScope ["self"] ["self"] (defScope (clsDef (top 12) 1)) := ⟨rfl, rfl, rfl, by decide +kernel, rfl, by decide +kernel, by decide +kernel⟩
theorem sc_Reader_need : FnScope ["self", "good"] ["self", "good"] (defScope (clsDef (top 12) 2)) := ⟨rfl, rfl, rfl, by decide +kernel, rfl, by decide +kernel, by decide +kernel⟩
theorem sc_law_letters : FnScope [] [] (defScope (top 19)) := ⟨rfl, rfl, rfl, by decide +kernel, rfl, by decide +kernel, by decide +kernel⟩
theorem sc_law_run : FnScope ["_law_text_here", "_law_at", "_law_signs", "_law_most", "_law_end"] ["_law_text_here", "_law_at", "_law_signs", "_law_most"] (defScope (top 20)) := ⟨rfl, rfl, rfl, by decide +kernel, rfl, by decide +kernel, by decide +kernel⟩
theorem sc_law_times_at : FnScope ["_law_text_here", "_law_at", "_law_end"] ["_law_text_here", "_law_at"] (defScope (top 21)) := ⟨rfl, rfl, rfl, by decide +kernel, rfl, by decide +kernel, by decide +kernel⟩
theorem sc_Reader_step : FnScope ["self", "deep", "sign", "name", "inner"] ["self", "deep"] (defScope (clsDef (top 12) 6)) := ⟨rfl, rfl, rfl, by decide +kernel, rfl, by decide +kernel, by decide +kernel⟩
theorem sc_Reader_run : FnScope ["self", "some", "least", "most", "start"] ["self", "some", "least", "most"] (defScope (clsDef (top 12) 4)) := ⟨rfl, rfl, rfl, by decide +kernel, rfl, by decide +kernel, by decide +kernel⟩
theorem sc_Reader_pass_by : FnScope ["self", "sign"] ["self", "sign"] (defScope (clsDef (top 12) 3)) := ⟨rfl, rfl, rfl, by decide +kernel, rfl, by decide +kernel, by decide +kernel⟩
theorem sc_Reader_number : FnScope ["self", "word"] ["self"] (defScope (clsDef (top 12) 5)) := ⟨rfl, rfl, rfl, by decide +kernel, rfl, by decide +kernel, by decide +kernel⟩
theorem sc_HallError_init : FnScope ["self", "word"] ["self", "word"] (defScope (clsDef (top 1) 0)) := ⟨rfl, rfl, rfl, by decide +kernel, rfl, by decide +kernel, by decide +kernel⟩
theorem sc_BadText_init : FnScope ["self", "at"] ["self", "at"] (defScope (clsDef (top 2) 0)) := ⟨rfl, rfl, rfl, by decide +kernel, rfl, by decide +kernel, by decide +kernel⟩
section
variable {P : Program} {w : World} {K : PySem.W.Frag} {mg : Str → Option Value} {base : Heap} {E : Fds} {k : Nat}
theorem bb_law {fd : FuncData} {kws : List (Str × V)} {f : Addr} (F : FunD K "law" "law" (defArgs (top 29)) (defBody (top 29)) (defScope (top 29)) [] kws f fd) : Binds K fd ["_law_script"] [] := F.bindsN fun _ _ _ _ _ _ us hl => match us, hl with | [_], _ => rfl
theorem b_law (x : Fx K mg E) : Binds K E.d_law ["_law_script"] [] := bb_law x.F_law
theorem bb_law_start {fd : FuncData} {kws : List (Str × V)} {f : Addr} (F : FunD K "_law_start" "_law_start" (defArgs (top 16)) (defBody (top 16)) (defScope (top 16)) [] kws f fd) : Binds K fd ["_law_script"] [] := F.bindsN fun _ _ _ _ _ _ us hl => match us, hl with | [_], _ => rfl
theorem b_law_start (x : Fx K mg E) : Binds K E.d_law_start ["_law_script"] [] := bb_law_start x.F_law_start
theorem bb_law_text {fd : FuncData} {kws : List (Str × V)} {f : Addr} (F : FunD K "_law_text" "_law_text" (defArgs (top 27)) (defBody (top 27)) (defScope (top 27)) [] kws f fd) : Binds K fd ["_law_d"] [] := F.bindsN fun _ _ _ _ _ _ us hl => match us, hl with | [_], _ => rfl
theorem b_law_text (x : Fx K mg E) : Binds K E.d_law_text ["_law_d"] [] := bb_law_text x.F_law_text
theorem bb_law_draw {fd : FuncData} {kws : List (Str × V)} {f : Addr} (F : FunD K "_law_draw" "_law_draw" (defArgs (top 17)) (defBody (top 17)) (defScope (top 17)) [] kws f fd) : Binds K fd ["_law_d", "_law_many"] [] := F.bindsN fun _ _ _ _ _ _ us hl => match us, hl with | [_, _], _ => rfl
theorem b_law_draw (x : Fx K mg E) : Binds K E.d_law_draw ["_law_d", "_law_many"] [] := bb_law_draw x.F_law_draw
theorem bb_law_spoilt {fd : FuncData} {kws : List (Str × V)} {f : Addr} (F : FunD K "_law_spoilt" "_law_spoilt" (defArgs (top 28)) (defBody (top 28)) (defScope (top 28)) [] kws f fd) : Binds K fd ["_law_d", "_law_text_here"] [] := F.bindsN fun _ _ _ _ _ _ us hl => match us, hl with | [_, _], _ => rfl
theorem b_law_spoilt (x : Fx K mg E) : Binds K E.d_law_spoilt ["_law_d", "_law_text_here"] [] := bb_law_spoilt x.F_law_spoilt
theorem bb_law_due {fd : FuncData} {kws : List (Str × V)} {f : Addr} (F : FunD K "_law_due" "_law_due" (defArgs (top 24)) (defBody (top 24)) (defScope (top 24)) [] kws f fd) : Binds K fd ["_law_text_here"] [] := F.bindsN fun _ _ _ _ _ _ us hl => match us, hl with | [_], _ => rfl
theorem b_law_due (x : Fx K mg E) : Binds K E.d_law_due ["_law_text_here"] [] := bb_law_due x.F_law_due
theorem bb_law_told {fd : FuncData} {kws : List (Str × V)} {f : Addr} (F : FunD K "_law_told" "_law_told" (defArgs (top 25)) (defBody (top 25)) (defScope (top 25)) [] kws f fd) : Binds K fd ["_law_text_here"] [] := F.bindsN fun _ _ _ _ _ _ us hl => match us, hl with | [_], _ => rfl
theorem b_law_told (x : Fx K mg E) : Binds K E.d_law_told ["_law_text_here"] [] := bb_law_told x.F_law_told
theorem bb_law_same {fd : FuncData} {kws : List (Str × V)} {f : Addr} (F : FunD K "_law_same" "_law_same" (defArgs (top 15)) (defBody (top 15)) (defScope (top 15)) [] kws f fd) : Binds K fd ["_law_x", "_law_due_here"] [] := F.bindsN fun _ _ _ _ _ _ us hl => match us, hl with | [_, _], _ => rfl
theorem b_law_same (x : Fx K mg E) : Binds K E.d_law_same ["_law_x", "_law_due_here"] [] := bb_law_same x.F_law_same
theorem bb_law_piece {fd : FuncData} {kws : List (Str × V)} {f : Addr} (F : FunD K "_law_piece" "_law_piece" (defArgs (top 26)) (defBody (top 26)) (defScope (top 26)) [] kws f fd) : Binds K fd ["_law_d"] [] := F.bindsN fun _ _ _ _ _ _ us hl => match us, hl with | [_], _ => rfl
theorem b_law_piece (x : Fx K mg E) : Binds K E.d_law_piece ["_law_d"] [] := bb_law_piece x.F_law_piece
theorem bb_law_of {fd : FuncData} {kws : List (Str × V)} {f : Addr} (F : FunD K "_law_of" "_law_of" (defArgs (top 18)) (defBody (top 18)) (defScope (top 18)) [] kws f fd) : Binds K fd ["_law_d", "_law_some"] [] := F.bindsN fun _ _ _ _ _ _ us hl => match us, hl with | [_, _], _ => rfl
theorem b_law_of (x : Fx K mg E) : Binds K E.d_law_of ["_law_d", "_law_some"] [] := bb_law_of x.F_law_of
theorem bb_law_row_at {fd : FuncData} {kws : List (Str × V)} {f : Addr} (F : FunD K "_law_row_at" "_law_row_at" (defArgs (top 23)) (defBody (top 23)) (defScope (top 23)) [] kws f fd) : Binds K fd ["_law_text_here", "_law_at", "_law_many", "_law_deep"] [] := F.bindsN fun _ _ _ _ _ _ us hl => match us, hl with | [_, _, _, _], _ => rfl
theorem b_law_row_at (x : Fx K mg E) : Binds K E.d_law_row_at ["_law_text_here", "_law_at", "_law_many", "_law_deep"] [] := bb_law_row_at x.F_law_row_at
theorem bb_read_row {fd : FuncData} {kws : List (Str × V)} {f : Addr} (F : FunD K "read_row" "read_row" (defArgs (top 13)) (defBody (top 13)) (defScope (top 13)) [] kws f fd) : Binds K fd ["text"] [] := F.bindsN fun _ _ _ _ _ _ us hl => match us, hl with | [_], _ => rfl
theorem b_read_row (x : Fx K mg E) : Binds K E.d_read_row ["text"] [] := bb_read_row x.F_read_row
theorem bb_law_step_at {fd : FuncData} {kws : List (Str × V)} {f : Addr} (F : FunD K "_law_step_at" "_law_step_at" (defArgs (top 22)) (defBody (top 22)) (defScope (top 22)) [] kws f fd) : Binds K fd ["_law_text_here", "_law_at", "_law_many", "_law_deep"] [] := F.bindsN fun _ _ _ _ _ _ us hl => match us, hl with | [_, _, _, _], _ => rfl
theorem b_law_step_at (x : Fx K mg E) : Binds K E.d_law_step_at ["_law_text_here", "_law_at", "_law_many", "_law_deep"] [] := bb_law_step_at x.F_law_step_at
theorem bb_Reader_init {fd : FuncData} {kws : List (Str × V)} {f : Addr} (F : FunD K "__init__" "Reader.__init__" (defArgs (clsDef (top 12) 0)) (defBody (clsDef (top 12) 0)) (defScope (clsDef (top 12) 0)) [] kws f fd) : Binds K fd ["self", "signs"] [] := F.bindsN fun _ _ _ _ _ _ us hl => match us, hl with | [_, _], _ => rfl
theorem b_Reader_init (x : Fx K mg E) : Binds K E.d_Reader_init ["self", "signs"] [] := bb_Reader_init x.F_Reader_init
theorem bb_Reader_row {fd : FuncData} {kws : List (Str × V)} {f : Addr} (F : FunD K "row" "Reader.row" (defArgs (clsDef (top 12) 7)) (defBody (clsDef (top 12) 7)) (defScope (clsDef (top 12) 7)) [] kws f fd) : Binds K fd ["self", "deep"] [] := F.bindsN fun _ _ _ _ _ _ us hl => match us, hl with | [_, _], _ => rfl
theorem b_Reader_row (x : Fx K mg E) : Binds K E.d_Reader_row ["self", "deep"] [] := bb_Reader_row x.F_Reader_row
theorem bb_Reader_here {fd : FuncData} {kws : List (Str × V)} {f : Addr} (F : FunD K "here" "Reader.here" (defArgs (clsDef (top 12) 1)) (defBody (clsDef (top 12) 1)) (defScope (clsDef (top 12) 1)) [] kws f fd) : Binds K fd ["self"] [] := F.bindsN fun _ _ _ _ _ _ us hl => match us, hl with | [_], _ => rfl
theorem b_Reader_here (x : Fx K mg E) : Binds K E.d_Reader_here ["self"] [] := bb_Reader_here x.F_Reader_here
theorem bb_Reader_need {fd : FuncData} {kws : List (Str × V)} {f : Addr} (F : FunD K "need" "Reader.need" (defArgs (clsDef (top 12) 2)) (defBody (clsDef (top 12) 2)) (defScope (clsDef (top 12) 2)) [] kws f fd) : Binds K fd ["self", "good"] [] := F.bindsN fun _ _ _ _ _ _ us hl => match us, hl with | [_, _], _ => rfl
theorem b_Reader_need (x : Fx K mg E) : Binds K E.d_Reader_need ["self", "good"] [] := bb_Reader_need x.F_Reader_need
theorem bb_law_letters {fd : FuncData} {kws : List (Str × V)} {f : Addr} (F : FunD K "_law_letters" "_law_letters" (defArgs (top 19)) (defBody (top 19)) (defScope (top 19)) [] kws f fd) : Binds K fd [] [] := F.bindsN fun _ _ _ _ _ _ us hl => match us, hl with | [], _ => rfl
theorem b_law_letters (x : Fx K mg E) : Binds K E.d_law_letters [] [] := bb_law_letters x.F_law_letters
theorem bb_law_run {fd : FuncData} {kws : List (Str × V)} {f : Addr} (F : FunD K "_law_run" "_law_run" (defArgs (top 20)) (defBody (top 20)) (defScope (top 20)) [] kws f fd) : Binds K fd ["_law_text_here", "_law_at", "_law_signs", "_law_most"] [] := F.bindsN fun _ _ _ _ _ _ us hl => match us, hl with | [_, _, _, _], _ => rfl
theorem b_law_run (x : Fx K mg E) : Binds K E.d_law_run ["_law_text_here", "_law_at", "_law_signs", "_law_most"] [] := bb_law_run x.F_law_run
theorem bb_law_times_at {fd : FuncData} {kws : List (Str × V)} {f : Addr} (F : FunD K "_law_times_at" "_law_times_at" (defArgs (top 21)) (defBody (top 21)) (defScope (top 21)) [] kws f fd) : Binds K fd ["_law_text_here", "_law_at"] [] := F.bindsN fun _ _ _ _ _ _ us hl => match us, hl with | [_, _], _ => rfl
theorem b_law_times_at (x : Fx K mg E) : Binds K E.d_law_times_at ["_law_text_here", "_law_at"] [] := bb_law_times_at x.F_law_times_at
theorem bb_Reader_step {fd : FuncData} {kws : List (Str × V)} {f : Addr} (F : FunD K "step" "Reader.step" (defArgs (clsDef (top 12) 6)) (defBody (clsDef (top 12) 6)) (defScope (clsDef (top 12) 6)) [] kws f fd) : Binds K fd ["self", "deep"] [] := F.bindsN fun _ _ _ _ _ _ us hl => match us, hl with | [_, _], _ => rfl
theorem b_Reader_step (x : Fx K mg E) : Binds K E.d_Reader_step ["self", "deep"] [] := bb_Reader_step x.F_Reader_step
theorem bb_Reader_pass_by {fd : FuncData} {kws : List (Str × V)} {f : Addr} (F : FunD K "pass_by" "Reader.pass_by" (defArgs (clsDef (top 12) 3)) (defBody (clsDef (top 12) 3)) (defScope (clsDef (top 12) 3)) [] kws f fd) : Binds K fd ["self", "sign"] [] := F.bindsN fun _ _ _ _ _ _ us hl => match us, hl with | [_, _], _ => rfl
theorem b_Reader_pass_by (x : Fx K mg E) : Binds K E.d_Reader_pass_by ["self", "sign"] [] := bb_Reader_pass_by x.F_Reader_pass_by
theorem bb_Reader_number {fd : FuncData} {kws : List (Str × V)} {f : Addr} (F : FunD K "number" "Reader.number" (defArgs (clsDef (top 12) 5)) (defBody (clsDef (top 12) 5)) (defScope (clsDef (top 12) 5)) [] kws f fd) : Binds K fd ["self"] [] := F.bindsN fun _ _ _ _ _ _ us hl => match us, hl with | [_], _ => rfl
theorem b_Reader_number (x : Fx K mg E) : Binds K E.d_Reader_number ["self"] [] := bb_Reader_number x.F_Reader_number
theorem bb_HallError_init {fd : FuncData} {kws : List (Str × V)} {f : Addr} (F : FunD K "__init__" "HallError.__init__" (defArgs (clsDef (top 1) 0)) (defBody (clsDef (top 1) 0)) (defScope (clsDef (top 1) 0)) [] kws f fd) : Binds K fd ["self", "word"] [] := F.bindsN fun _ _ _ _ _ _ us hl => match us, hl with | [_, _], _ => rfl
theorem b_HallError_init (x : Fx K mg E) : Binds K E.d_HallError_init ["self", "word"] [] := bb_HallError_init x.F_HallError_init
theorem bb_BadText_init {fd : FuncData} {kws : List (Str × V)} {f : Addr} (F : FunD K "__init__" "BadText.__init__" (defArgs (clsDef (top 2) 0)) (defBody (clsDef (top 2) 0)) (defScope (clsDef (top 2) 0)) [] kws f fd) : Binds K fd ["self", "at"] [] := F.bindsN fun _ _ _ _ _ _ us hl => match us, hl with | [_, _], _ => rfl
theorem b_BadText_init (x : Fx K mg E) : Binds K E.d_BadText_init ["self", "at"] [] := bb_BadText_init x.F_BadText_init
theorem kbx_Reader_run_0 (x : Fx K mg E) : ∃ mv : List Value, KBn K E.d_Reader_run ["self", "some", "least", "most"] 2 [] (fun us ws => (fun {α : Type} (vs ms ws : List α) => vs ++ ws ++ ms) us mv ws) (fun vs zs => (fun {α : Type} (vs ms ws : List α) => vs ++ ws ++ ms) vs [V.int 0, V.int 12] zs) :=
  kbindsK x.F_Reader_run 2 [] [("least", V.int 0), ("most", V.int 12)] (fun {α : Type} (vs ms ws : List α) => vs ++ ws ++ ms) (by simp) (by simp) (fun a b c => (a.append c).append b) fun D doc pm an cdv ct us mv ws l1 l2 l3 => match us, mv, ws, l1, l2, l3 with
    | [_, _], [_, _], [], _, _, _ => ⟨_, _, _, _, _, _, rfl, rfl, ⟨_, _, _, _, _, _, rfl, rfl, rfl⟩⟩
theorem gr_Reader_run_0 : GRel gD_Reader_run_0 (fun vs zs => vs ++ zs ++ [V.int 0, V.int 12]) := gr_end (dD := [.int 0, .int 12]) (dV := [V.int 0, V.int 12]) fun _ _ => (Reps.cons rfl (Reps.cons rfl Reps.nil))
theorem kbx_Reader_run_least (x : Fx K mg E) : ∃ mv : List Value, KBn K E.d_Reader_run ["self", "some", "least", "most"] 2 ["least"] (fun us ws => (fun {α : Type} (vs ms ws : List α) => vs ++ ws ++ ms) us mv ws) (fun vs zs => (fun {α : Type} (vs ms ws : List α) => vs ++ ws ++ ms) vs [V.int 12] zs) :=
  kbindsK x.F_Reader_run 2 ["least"] [("most", V.int 12)] (fun {α : Type} (vs ms ws : List α) => vs ++ ws ++ ms) (by simp) (by simp) (fun a b c => (a.append c).append b) fun D doc pm an cdv ct us mv ws l1 l2 l3 => match us, mv, ws, l1, l2, l3 with
    | [_, _], [_], [_], _, _, _ => ⟨_, _, _, _, _, _, rfl, rfl, rfl⟩
theorem gr_Reader_run_least : GRel gD_Reader_run_least (fun vs zs => vs ++ zs ++ [V.int 12]) := gr_end (dD := [.int 12]) (dV := [V.int 12]) fun _ _ => (Reps.cons rfl Reps.nil)
theorem kbx_Reader_run_least_most (x : Fx K mg E) : ∃ mv : List Value, KBn K E.d_Reader_run ["self", "some", "least", "most"] 2 ["least", "most"] (fun us ws => (fun {α : Type} (vs ms ws : List α) => vs ++ ws ++ ms) us mv ws) (fun vs zs => (fun {α : Type} (vs ms ws : List α) => vs ++ ws ++ ms) vs [] zs) :=
  kbindsK x.F_Reader_run 2 ["least", "most"] [] (fun {α : Type} (vs ms ws : List α) => vs ++ ws ++ ms) (by simp) (by simp) (fun a b c => (a.append c).append b) fun D doc pm an cdv ct us mv ws l1 l2 l3 => match us, mv, ws, l1, l2, l3 with
    | [_, _], [], [_, _], _, _, _ => rfl
theorem gr_Reader_run_least_most : GRel gD_Reader_run_least_most (fun vs zs => vs ++ zs ++ []) := gr_end (dD := []) (dV := []) fun _ _ => Reps.nil
abbrev gv_HallError : List V → List V := fun ws => ws
theorem grx_HallError : GRX gx_HallError gv_HallError := ⟨fun r => r⟩
theorem i_HallError_init (x : Fx K mg E) (hk : 1 ≤ k) : FnOk P w K mg base (L2.CX P w) k (He.fAd K ("HallError", some "__init__")) E.d_HallError_init ["self", "word"] (spI K 1 ["word"] gv_HallError) := by
  obtain ⟨k, rfl⟩ : ∃ j, k = j + 1 := ⟨k - 1, by omega⟩
  exact init_of x.F_HallError_init sc_HallError_init rfl (fun cdv A outer s H E hr => pss_cons (ps_expr (pe_veinit (by rfl) x.n_ValueError x.v_VE (pa_cons (pe_var (i := 0) rfl (Or.inl rfl)) (pa_cons (pe_var (i := 1) rfl (Or.inl rfl)) pa_nil)))) (pss_one (ps_ost (pe_var (i := 0) rfl (Or.inl rfl)) (pe_var (i := 1) rfl (Or.inl rfl))))) (fun vs H Q E h => shapeR h)
abbrev gv_BadText : List V → List V := fun ws => ws ++ gv_HallError [V.str "badtext"]
theorem grx_BadText : GRX gx_BadText gv_BadText := ⟨fun r => r.append (grx_HallError.rel (Reps.one (show V.str "badtext" = V.str ⟨[98, 97, 100, 116, 101, 120, 116].toArray⟩ from congrArg V.str (by decide +kernel))))⟩
theorem i_BadText_init (x : Fx K mg E) (hk : 2 ≤ k) : FnOk P w K mg base (L2.CX P w) k (He.fAd K ("BadText", some "__init__")) E.d_BadText_init ["self", "at"] (spI K 1 ["at", "word"] gv_BadText) := by
  obtain ⟨k, rfl⟩ : ∃ j, k = j + 1 := ⟨k - 1, by omega⟩
  exact init_of x.F_BadText_init sc_BadText_init rfl (fun cdv A outer s H E hr => pss_cons (ps_expr (pe_clsfn (i_HallError_init x (by omega)) hr x.g_HallError x.r_HallError.1 x.r_HallError.2 x.F_HallError_init.kp (b_HallError_init x) passNo (pa_cons (pe_var (i := 0) rfl (Or.inl rfl)) (pa_cons pe_str pa_nil)))) (pss_one (ps_ost (pe_var (i := 0) rfl (Or.inl rfl)) (pe_var (i := 1) rfl (Or.inl rfl))))) (fun vs H Q E h => shape1 h (by decide))
theorem d_law {φlaw_text : Fn} {φlaw_draw : Fn} {φlaw_spoilt : Fn} {φlaw_due : Fn} {φlaw_told : Fn} {φlaw_same : Fn} (x : Fx K mg E) (hk : 3 ≤ k) (GS : FnOk P w K mg base (L2.CX P w) (k + 1) (He.fAd K ("_law_start", none)) E.d_law_start ["_law_script"] (spStart K)) (Glaw_text : FnD P w K mg base (k + 1) (He.fAd K ("_law_text", none)) E.d_law_text ["_law_d"] φlaw_text) (Glaw_draw : FnD P w K mg base (k + 1) (He.fAd K ("_law_draw", none)) E.d_law_draw ["_law_d", "_law_many"] φlaw_draw) (Glaw_spoilt : FnD P w K mg base (k + 1) (He.fAd K ("_law_spoilt", none)) E.d_law_spoilt ["_law_d", "_law_text_here"] φlaw_spoilt) (Glaw_due : FnD P w K mg base (k + 1) (He.fAd K ("_law_due", none)) E.d_law_due ["_law_text_here"] φlaw_due) (Glaw_told : FnD P w K mg base (k + 1) (He.fAd K ("_law_told", none)) E.d_law_told ["_law_text_here"] φlaw_told) (Glaw_same : FnD P w K mg base (k + 1) (He.fAd K ("_law_same", none)) E.d_law_same ["_law_x", "_law_due_here"] φlaw_same) : FnOk P w K mg base (L2.CX P w) (k + 2) (He.fAd K ("law", none)) E.d_law ["_law_script"] (spLaw K 3 (m_law (adK K) φlaw_text φlaw_draw φlaw_spoilt φlaw_due φlaw_told φlaw_same)) := by
  exact law_ok x.F_law sc_law rfl rfl (fun cdv A outer s H E hr => ps_set (i := 1) sc_law.nd rfl (Or.inl rfl) (pe_callS GS hr rfl x.m_law_start x.F_law_start.kp (b_law_start x) passNo (pa_cons (pe_var (i := 0) rfl (Or.inl rfl)) pa_nil))) fun cdv A outer s H E hr =>
    have tk := takes_fn (P := P) (w := w) (K := K) (mg := mg) (base := base) (N := ["_law_script", "_law_d", "_law_turn", "_law_text_here", "_law_k"]) (qual := "law") (scope := defScope (top 29)) (f := He.fAd K ("law", none)) (cd := cdv) (A := A) (outer := outer) (s := s) (H := H) (E := E)
    (pss_dcons (ps_dfor (passes_of rfl) rfl (pi_drange1 x.n_range pd_int) (pg_dname sc_law.nd (i := 2) rfl (Or.inl rfl)) (pss_dcons (ps_dset (i := 3) sc_law.nd rfl (Or.inl rfl) (pd_call Glaw_text hr x.m_law_text x.F_law_text.kp (b_law_text x) (tk_of tk) (pd_cons (pd_var 1) pd_nil)))
  (pss_dcons (ps_dfor (passes_of rfl) rfl (pi_drange1 x.n_range (pd_call Glaw_draw hr x.m_law_draw x.F_law_draw.kp (b_law_draw x) (tk_of tk) (pd_cons (pd_var 1) (pd_cons pd_int pd_nil)))) (pg_dname sc_law.nd (i := 4) rfl (Or.inl rfl)) (pss_done (ps_dset (i := 3) sc_law.nd rfl (Or.inl rfl) (pd_call Glaw_spoilt hr x.m_law_spoilt x.F_law_spoilt.kp (b_law_spoilt x) (tk_of tk) (pd_cons (pd_var 1) (pd_cons (pd_var 3) pd_nil))))))
  (pss_done (ps_dif (pd_notT (pd_truth (pd_call Glaw_same hr x.m_law_same x.F_law_same.kp (b_law_same x) (tk_of tk) (pd_cons (pd_call Glaw_told hr x.m_law_told x.F_law_told.kp (b_law_told x) (tk_of tk) (pd_cons (pd_var 3) pd_nil)) (pd_cons (pd_call Glaw_due hr x.m_law_due x.F_law_due.kp (b_law_due x) (tk_of tk) (pd_cons (pd_var 3) pd_nil)) pd_nil))))) (pss_done (ps_dret pd_bl)) pss_dnil)))))
  (pss_done (ps_dret (pd_call Glaw_same hr x.m_law_same x.F_law_same.kp (b_law_same x) (tk_of tk) (pd_cons (pd_lst (pd_cons (pd_call Glaw_told hr x.m_law_told x.F_law_told.kp (b_law_told x) (tk_of tk) (pd_cons (pd_str []) pd_nil)) (pd_cons (pd_call Glaw_told hr x.m_law_told x.F_law_told.kp (b_law_told x) (tk_of tk) (pd_cons (pd_str [32]) pd_nil)) (pd_cons (pd_call Glaw_told hr x.m_law_told x.F_law_told.kp (b_law_told x) (tk_of tk) (pd_cons (pd_str [45, 45]) pd_nil)) pd_nil)))) (pd_cons (pd_lst (pd_cons pd_int (pd_cons pd_int (pd_cons pd_int pd_nil)))) pd_nil))))))
theorem d_law_text {φlaw_draw : Fn} {φlaw_piece : Fn} (x : Fx K mg E) (hk : 3 ≤ k) (Glaw_draw : FnD P w K mg base (k + 1) (He.fAd K ("_law_draw", none)) E.d_law_draw ["_law_d", "_law_many"] φlaw_draw) (Glaw_piece : FnD P w K mg base (k + 1) (He.fAd K ("_law_piece", none)) E.d_law_piece ["_law_d"] φlaw_piece) : FnD P w K mg base (k + 2) (He.fAd K ("_law_text", none)) E.d_law_text ["_law_d"] (defM 4 (m_law_text (adK K) φlaw_draw φlaw_piece)) := by
  exact FnD.mk x.F_law_text sc_law_text fun cdv A outer s H E hr =>
    have tk := takes_fn (P := P) (w := w) (K := K) (mg := mg) (base := base) (N := ["_law_d", "_law_how", "_law_many", "_law_k"]) (qual := "_law_text") (scope := defScope (top 27)) (f := He.fAd K ("_law_text", none)) (cd := cdv) (A := A) (outer := outer) (s := s) (H := H) (E := E)
    (pss_dcons (ps_dset (i := 1) sc_law_text.nd rfl (Or.inl rfl) (pd_call Glaw_draw hr x.m_law_draw x.F_law_draw.kp (b_law_draw x) (tk_of tk) (pd_cons (pd_var 0) (pd_cons pd_int pd_nil))))
  (pss_dcons (ps_dif (pd_cmpT (op_eqA hr.units) snd_eq (pd_var 1) pd_int) (pss_dcons (ps_dset (i := 2) sc_law_text.nd rfl (Or.inl rfl) (pd_op op_addA snd_add pd_int (pd_call Glaw_draw hr x.m_law_draw x.F_law_draw.kp (b_law_draw x) (tk_of tk) (pd_cons (pd_var 0) (pd_cons pd_int pd_nil)))))
  (pss_done (ps_dret (pd_op op_addA snd_add (pd_op op_addA snd_add (pd_op op_mulA snd_mul (pd_str [40]) (pd_var 2)) (pd_str [46, 97])) (pd_op op_mulA snd_mul (pd_str [41, 42, 50]) (pd_var 2)))))) pss_dnil)
  (pss_dcons (ps_dif (pd_cmpT (op_eqA hr.units) snd_eq (pd_var 1) pd_int) (pss_done (ps_dret (pd_strm PySem.F.slot_str_join PySem.F.type_str_join mt_join snd_join (pd_str [32]) (pd_cons (pd_op op_mulA snd_mul (pd_lst (pd_cons (pd_str [46, 97]) pd_nil)) (pd_op op_addA snd_add pd_int (pd_call Glaw_draw hr x.m_law_draw x.F_law_draw.kp (b_law_draw x) (tk_of tk) (pd_cons (pd_var 0) (pd_cons pd_int pd_nil))))) pd_nil)))) pss_dnil)
  (pss_done (ps_dret (pd_strm PySem.F.slot_str_join PySem.F.type_str_join mt_join snd_join (pd_str [32]) (pd_cons (pd_lc [("_law_k", 3)] rfl sc_law_text.nd (pi_drange1 x.n_range (pd_op op_addA snd_add pd_int (pd_call Glaw_draw hr x.m_law_draw x.F_law_draw.kp (b_law_draw x) (tk_of tk) (pd_cons (pd_var 0) (pd_cons pd_int pd_nil))))) (blk_of (N := ["_law_d", "_law_how", "_law_many", "_law_k"]) (sc := defScope (top 27)) (by decide +kernel) rfl rfl) (by decide) (fun _ _ _ _ _ => (pg_dname sc_law_text.nd (i := 3) rfl (Or.inl rfl))) (fun _ _ _ _ _ => pts_dnil) (fun _ _ _ _ _ => (pd_call Glaw_piece hr x.m_law_piece x.F_law_piece.kp (b_law_piece x) tk_no (pd_cons (pd_var 0) pd_nil)))) pd_nil)))))))
theorem d_law_draw  (x : Fx K mg E) (hk : 3 ≤ k) : FnD P w K mg base (k + 2) (He.fAd K ("_law_draw", none)) E.d_law_draw ["_law_d", "_law_many"] (defM 5 (m_law_draw (adK K) )) := by
  exact FnD.mk x.F_law_draw sc_law_draw fun cdv A outer s H E hr =>
    have tk := takes_fn (P := P) (w := w) (K := K) (mg := mg) (base := base) (N := ["_law_d", "_law_many", "_law_cell", "_law_digit", "_law_mix"]) (qual := "_law_draw") (scope := defScope (top 17)) (f := He.fAd K ("_law_draw", none)) (cd := cdv) (A := A) (outer := outer) (s := s) (H := H) (E := E)
    (pss_dcons (ps_dif (pd_bopT (pw_dand (pd_cmpT op_ltA snd_lt (pd_ix hr.units (pd_var 0) pd_int) (pd_var 1)) (pw_dand1 (pd_cmpT op_ltA snd_lt (pd_ix hr.units (pd_var 0) pd_int) (pd_callB call_lenA snd_len x.n_len (pd_cons (pd_ix hr.units (pd_var 0) pd_int) pd_nil)))))) (pss_dcons (ps_dset (i := 2) sc_law_draw.nd rfl (Or.inl rfl) (pd_ix hr.units (pd_ix hr.units (pd_var 0) pd_int) (pd_ix hr.units (pd_var 0) pd_int)))
  (pss_dcons (ps_dseti (pd_var 0) pd_int (pd_op op_addA snd_add (pd_ix hr.units (pd_var 0) pd_int) pd_int))
  (pss_dcons (ps_dseti (pd_var 0) pd_int (pd_ifExp (pd_cmpT op_geA snd_ge (pd_var 2) (pd_op op_pow snd_pow pd_int pd_int)) (pd_var 2) pd_int))
  (pss_done (ps_dseti (pd_var 0) pd_int (pd_op op_mod snd_mod (pd_op op_addA snd_add (pd_op op_addA snd_add (pd_op op_mulA snd_mul (pd_ix hr.units (pd_var 0) pd_int) pd_int) (pd_op op_mod snd_mod (pd_var 2) pd_int)) pd_int) pd_int)))))) pss_dnil)
  (pss_dcons (ps_dif (pd_cmpT op_geA snd_ge (pd_ix hr.units (pd_var 0) pd_int) (pd_var 1)) (pss_dcons (ps_dset (i := 3) sc_law_draw.nd rfl (Or.inl rfl) (pd_op op_mod snd_mod (pd_ix hr.units (pd_var 0) pd_int) (pd_var 1)))
  (pss_dcons (ps_dseti (pd_var 0) pd_int (pd_op op_fdivW snd_fdiv (pd_ix hr.units (pd_var 0) pd_int) (pd_var 1)))
  (pss_done (ps_dret (pd_var 3))))) pss_dnil)
  (pss_dcons (ps_dseti (pd_var 0) pd_int (pd_op op_addA snd_add (pd_ix hr.units (pd_var 0) pd_int) pd_int))
  (pss_dcons (ps_dset (i := 4) sc_law_draw.nd rfl (Or.inl rfl) (pd_op op_addA snd_add (pd_op op_addA snd_add (pd_op op_mulA snd_mul (pd_ix hr.units (pd_var 0) pd_int) pd_int) (pd_op op_mulA snd_mul (pd_ix hr.units (pd_var 0) pd_int) pd_int)) pd_int))
  (pss_dcons (ps_dset (i := 4) sc_law_draw.nd rfl (Or.inl rfl) (pd_op op_addA snd_add (pd_op op_mulA snd_mul (pd_var 4) (pd_op op_addA snd_add (pd_op op_mod snd_mod (pd_var 4) pd_int) pd_int)) (pd_op op_mulA snd_mul (pd_ix hr.units (pd_var 0) pd_int) pd_int)))
  (pss_dcons (ps_dseti (pd_var 0) pd_int (pd_op op_mod snd_mod (pd_var 4) pd_int))
  (pss_done (ps_dret (pd_op op_mod snd_mod (pd_op op_addA snd_add (pd_op op_fdivW snd_fdiv (pd_ix hr.units (pd_var 0) pd_int) pd_int) (pd_op op_mulA snd_mul (pd_op op_mod snd_mod (pd_ix hr.units (pd_var 0) pd_int) pd_int) pd_int)) (pd_var 1))))))))))
theorem d_law_spoilt {φlaw_draw : Fn} {φlaw_of : Fn} (x : Fx K mg E) (hk : 3 ≤ k) (Glaw_draw : FnD P w K mg base (k + 1) (He.fAd K ("_law_draw", none)) E.d_law_draw ["_law_d", "_law_many"] φlaw_draw) (Glaw_of : FnD P w K mg base (k + 1) (He.fAd K ("_law_of", none)) E.d_law_of ["_law_d", "_law_some"] φlaw_of) : FnD P w K mg base (k + 2) (He.fAd K ("_law_spoilt", none)) E.d_law_spoilt ["_law_d", "_law_text_here"] (defM 5 (m_law_spoilt (adK K) φlaw_draw φlaw_of)) := by
  exact FnD.mk x.F_law_spoilt sc_law_spoilt fun cdv A outer s H E hr =>
    have tk := takes_fn (P := P) (w := w) (K := K) (mg := mg) (base := base) (N := ["_law_d", "_law_text_here", "_law_signs", "_law_at", "_law_sign"]) (qual := "_law_spoilt") (scope := defScope (top 28)) (f := He.fAd K ("_law_spoilt", none)) (cd := cdv) (A := A) (outer := outer) (s := s) (H := H) (E := E)
    (pss_dcons (ps_dset (i := 2) sc_law_spoilt.nd rfl (Or.inl rfl) (pd_op op_addA snd_add (pd_str [32, 46, 126, 60, 62, 40, 41, 42, 45, 48, 49, 50, 51, 52, 53, 54, 55, 56, 57, 97, 98, 122, 65, 66, 90, 95, 64, 91, 123, 47, 58, 44, 59, 33, 35, 36, 38, 39, 43, 61, 63, 94, 124, 125]) (pd_str [10])))
  (pss_dcons (ps_dset (i := 3) sc_law_spoilt.nd rfl (Or.inl rfl) (pd_call Glaw_draw hr x.m_law_draw x.F_law_draw.kp (b_law_draw x) (tk_of tk) (pd_cons (pd_var 0) (pd_cons (pd_op op_addA snd_add (pd_callB call_lenA snd_len x.n_len (pd_cons (pd_var 1) pd_nil)) pd_int) pd_nil))))
  (pss_dcons (ps_dset (i := 4) sc_law_spoilt.nd rfl (Or.inl rfl) (pd_call Glaw_of hr x.m_law_of x.F_law_of.kp (b_law_of x) (tk_of tk) (pd_cons (pd_var 0) (pd_cons (pd_var 2) pd_nil))))
  (pss_done (ps_dret (pd_call Glaw_of hr x.m_law_of x.F_law_of.kp (b_law_of x) (tk_of tk) (pd_cons (pd_var 0) (pd_cons (pd_lst (pd_cons (pd_op op_addA snd_add (pd_op op_addA snd_add (pd_sl (pd_var 1) po_dno (po_dso (pd_var 3))) (pd_var 4)) (pd_sl (pd_var 1) (po_dso (pd_var 3)) po_dno)) (pd_cons (pd_op op_addA snd_add (pd_sl (pd_var 1) po_dno (po_dso (pd_var 3))) (pd_sl (pd_var 1) (po_dso (pd_op op_addA snd_add (pd_var 3) pd_int)) po_dno)) (pd_cons (pd_op op_addA snd_add (pd_op op_addA snd_add (pd_sl (pd_var 1) po_dno (po_dso (pd_var 3))) (pd_var 4)) (pd_sl (pd_var 1) (po_dso (pd_op op_addA snd_add (pd_var 3) pd_int)) po_dno)) (pd_cons (pd_sl (pd_var 1) po_dno (po_dso (pd_var 3))) (pd_cons (pd_op op_addA snd_add (pd_var 1) (pd_str [32])) (pd_cons (pd_var 1) pd_nil))))))) pd_nil))))))))
theorem d_law_due {φlaw_row_at : Fn} (x : Fx K mg E) (hk : 3 ≤ k) (Glaw_row_at : FnD P w K mg base (k + 1) (He.fAd K ("_law_row_at", none)) E.d_law_row_at ["_law_text_here", "_law_at", "_law_many", "_law_deep"] φlaw_row_at) : FnD P w K mg base (k + 2) (He.fAd K ("_law_due", none)) E.d_law_due ["_law_text_here"] (defM 4 (m_law_due (adK K) φlaw_row_at)) := by
  exact FnD.mk x.F_law_due sc_law_due fun cdv A outer s H E hr =>
    have tk := takes_fn (P := P) (w := w) (K := K) (mg := mg) (base := base) (N := ["_law_text_here", "_law_at", "_law_tree", "_law_many"]) (qual := "_law_due") (scope := defScope (top 24)) (f := He.fAd K ("_law_due", none)) (cd := cdv) (A := A) (outer := outer) (s := s) (H := H) (E := E)
    (pss_dcons (ps_dasg (pd_call Glaw_row_at hr x.m_law_row_at x.F_law_row_at.kp (b_law_row_at x) (tk_of tk) (pd_cons (pd_var 0) (pd_cons pd_int (pd_cons pd_int (pd_cons pd_int pd_nil))))) (pg_dtup rfl (pgs_dcons (pg_dname sc_law_due.nd (i := 1) rfl (Or.inl rfl)) (pgs_dcons (pg_dname sc_law_due.nd (i := 2) rfl (Or.inl rfl)) (pgs_dcons (pg_dname sc_law_due.nd (i := 3) rfl (Or.inl rfl)) pgs_dnil)))))
  (pss_done (ps_dret (pd_ifExp (pd_bopT (pw_dand (pd_cmpT op_isntA snd_isnt (pd_var 2) pd_non) (pw_dand1 (pd_cmpT (op_eqA hr.units) snd_eq (pd_var 1) (pd_callB call_lenA snd_len x.n_len (pd_cons (pd_var 0) pd_nil)))))) (pd_var 2) (pd_var 1)))))
theorem d_law_told {φread_row : Fn} (x : Fx K mg E) (hk : 3 ≤ k) (Gread_row : FnD P w K mg base (k + 1) (He.fAd K ("read_row", none)) E.d_read_row ["text"] φread_row) : FnD P w K mg base (k + 2) (He.fAd K ("_law_told", none)) E.d_law_told ["_law_text_here"] (defM 3 (m_law_told (adK K) φread_row)) := by
  exact FnD.mk x.F_law_told sc_law_told fun cdv A outer s H E hr =>
    have tk := takes_fn (P := P) (w := w) (K := K) (mg := mg) (base := base) (N := ["_law_text_here", "_law_found", "e"]) (qual := "_law_told") (scope := defScope (top 25)) (f := He.fAd K ("_law_told", none)) (cd := cdv) (A := A) (outer := outer) (s := s) (H := H) (E := E)
    (pss_dcons (ps_dtry (i := 2) (c := .ref (He.ga K "BadText")) rfl rfl sc_law_told.nd rfl rfl ⟨rfl, by decide, Or.inl x.g_BadText⟩ tk (ctB_ok x.t_law_told_0)
    (fun W pn xe tk hpo => (pss_done (ps_dset (i := 1) sc_law_told.nd rfl (Or.inl rfl) (pd_call Gread_row hr x.m_read_row x.F_read_row.kp (b_read_row x) (tk_of tk) (pd_cons (pd_var 0) pd_nil)))))
    (fun a oe C dd pn hC hz hfl => by
      have hx := xfAll_ok x.u_law_told_0
      exact (pss_done (ps_dset (i := 1) sc_law_told.nd rfl (Or.inl rfl) (pd_xf (hx _ hC).1 ((hx _ hC).2 _ (by simp)) hz hfl (pd_var 2)))))
    (by
      intro a dd ns ds δ S
      by_cases hi : 2 < δ.length
      · cases e0 : lookS ns ds "at" <;> simp [goneF, asgM, retM, seqM, callG, consM, nilM, cM, vM, xfM, tupG, bindS, RO, List.getElem?_set, hi, e0, set_out (show (2:Nat) ≠ 0 by decide), set_out (show (2:Nat) ≠ 1 by decide)]
      · simp [goneF, asgM, retM, seqM, callG, consM, nilM, cM, vM, xfM, tupG, bindS, RO, List.getElem?_set, hi]))
  (pss_done (ps_dret (pd_var 1))))
theorem d_law_same {φlaw_same : Fn} (x : Fx K mg E) (hk : 3 ≤ k) (Glaw_same : FnD P w K mg base (k + 1) (He.fAd K ("_law_same", none)) E.d_law_same ["_law_x", "_law_due_here"] φlaw_same) : FnD P w K mg base (k + 2) (He.fAd K ("_law_same", none)) E.d_law_same ["_law_x", "_law_due_here"] (defM 3 (m_law_same (adK K) φlaw_same)) := by
  exact FnD.mk x.F_law_same sc_law_same fun cdv A outer s H E hr =>
    have tk := takes_fn (P := P) (w := w) (K := K) (mg := mg) (base := base) (N := ["_law_x", "_law_due_here", "_law_k"]) (qual := "_law_same") (scope := defScope (top 15)) (f := He.fAd K ("_law_same", none)) (cd := cdv) (A := A) (outer := outer) (s := s) (H := H) (E := E)
    (pss_dcons (ps_dif (pd_truth (pd_callB call_isiA snd_isi x.n_isinstance (pd_cons (pd_var 1) (pd_cons (pd_tup (pd_cons (pd_ty x.n_list) (pd_cons (pd_ty x.n_tuple) pd_nil))) pd_nil)))) (pss_dcons (ps_dif (pd_bopT (pw_dor (pd_cmpT (op_neA hr.units) snd_ne (pd_callB call_isiA snd_isi x.n_isinstance (pd_cons (pd_var 1) (pd_cons (pd_ty x.n_list) pd_nil))) (pd_callB call_isiA snd_isi x.n_isinstance (pd_cons (pd_var 0) (pd_cons (pd_ty x.n_list) pd_nil)))) (pw_dor1 (pd_cmpT (op_neA hr.units) snd_ne (pd_callB call_isiA snd_isi x.n_isinstance (pd_cons (pd_var 1) (pd_cons (pd_ty x.n_tuple) pd_nil))) (pd_callB call_isiA snd_isi x.n_isinstance (pd_cons (pd_var 0) (pd_cons (pd_ty x.n_tuple) pd_nil))))))) (pss_done (ps_dret pd_bl)) pss_dnil)
  (pss_done (ps_dret (pd_and (pd_cmp (op_eqA hr.units) snd_eq (pd_callB call_lenA snd_len x.n_len (pd_cons (pd_var 0) pd_nil)) (pd_callB call_lenA snd_len x.n_len (pd_cons (pd_var 1) pd_nil))) (pd_one (pd_callB (cr_all rfl) snd_all x.n_all (pd_cons (pd_lc [("_law_k", 2)] rfl sc_law_same.nd (pi_drange1 x.n_range (pd_callB call_lenA snd_len x.n_len (pd_cons (pd_var 1) pd_nil))) (blk_of (N := ["_law_x", "_law_due_here", "_law_k"]) (sc := defScope (top 15)) (by decide +kernel) rfl rfl) (by decide) (fun _ _ _ _ _ => (pg_dname sc_law_same.nd (i := 2) rfl (Or.inl rfl))) (fun _ _ _ _ _ => pts_dnil) (fun _ _ _ _ _ => (pd_call Glaw_same hr x.m_law_same x.F_law_same.kp (b_law_same x) tk_no (pd_cons (pd_ix hr.units (pd_var 0) (pd_var 2)) (pd_cons (pd_ix hr.units (pd_var 1) (pd_var 2)) pd_nil))))) pd_nil))))))) pss_dnil)
  (pss_dcons (ps_dif (pd_bopT (pw_dor (pd_cmpT (op_neA hr.units) snd_ne (pd_callB call_isiA snd_isi x.n_isinstance (pd_cons (pd_var 0) (pd_cons (pd_ty x.n_bool) pd_nil))) (pd_callB call_isiA snd_isi x.n_isinstance (pd_cons (pd_var 1) (pd_cons (pd_ty x.n_bool) pd_nil)))) (pw_dor1 (pd_cmpT (op_neA hr.units) snd_ne (pd_callB call_isiA snd_isi x.n_isinstance (pd_cons (pd_var 0) (pd_cons (pd_ty x.n_str) pd_nil))) (pd_callB call_isiA snd_isi x.n_isinstance (pd_cons (pd_var 1) (pd_cons (pd_ty x.n_str) pd_nil))))))) (pss_done (ps_dret pd_bl)) pss_dnil)
  (pss_done (ps_dret (pd_and (pd_cmp (op_eqA hr.units) snd_eq (pd_cmp op_isA snd_is (pd_var 0) pd_non) (pd_cmp op_isA snd_is (pd_var 1) pd_non)) (pd_one (pd_cmp (op_eqA hr.units) snd_eq (pd_var 0) (pd_var 1))))))))
theorem d_law_piece {φlaw_of : Fn} (x : Fx K mg E) (hk : 3 ≤ k) (Glaw_of : FnD P w K mg base (k + 1) (He.fAd K ("_law_of", none)) E.d_law_of ["_law_d", "_law_some"] φlaw_of) : FnD P w K mg base (k + 2) (He.fAd K ("_law_piece", none)) E.d_law_piece ["_law_d"] (defM 4 (m_law_piece (adK K) φlaw_of)) := by
  exact FnD.mk x.F_law_piece sc_law_piece fun cdv A outer s H E hr =>
    have tk := takes_fn (P := P) (w := w) (K := K) (mg := mg) (base := base) (N := ["_law_d", "_law_name", "_law_some", "_law_number"]) (qual := "_law_piece") (scope := defScope (top 26)) (f := He.fAd K ("_law_piece", none)) (cd := cdv) (A := A) (outer := outer) (s := s) (H := H) (E := E)
    (pss_dcons (ps_dset (i := 1) sc_law_piece.nd rfl (Or.inl rfl) (pd_call Glaw_of hr x.m_law_of x.F_law_of.kp (b_law_of x) (tk_of tk) (pd_cons (pd_var 0) (pd_cons (pd_lst (pd_cons (pd_str [103, 111]) (pd_cons (pd_str [97, 98, 99, 100, 101, 102, 103, 104]) (pd_cons (pd_str [97, 98, 99, 100, 101, 102, 103, 104, 105]) (pd_cons (pd_str [120]) (pd_cons (pd_str [97, 66]) pd_nil)))))) pd_nil))))
  (pss_dcons (ps_dset (i := 2) sc_law_piece.nd rfl (Or.inl rfl) (pd_lst (pd_cons (pd_str [46]) (pd_cons (pd_str [46, 97, 66]) (pd_cons (pd_str [46, 97, 98, 99, 100, 101, 102, 103, 104, 105, 106, 107, 108]) (pd_cons (pd_str [46, 97, 98, 99, 100, 101, 102, 103, 104, 105, 106, 107, 108, 109]) (pd_cons (pd_str [126, 97]) (pd_cons (pd_str [126]) (pd_cons (pd_op op_addA snd_add (pd_op op_addA snd_add (pd_str [60]) (pd_var 1)) (pd_str [62])) (pd_cons (pd_str [45]) (pd_cons (pd_str [40, 41, 42, 51]) pd_nil)))))))))))
  (pss_dcons (ps_dset (i := 3) sc_law_piece.nd rfl (Or.inl rfl) (pd_call Glaw_of hr x.m_law_of x.F_law_of.kp (b_law_of x) (tk_of tk) (pd_cons (pd_var 0) (pd_cons (pd_lst (pd_cons (pd_str [48]) (pd_cons (pd_str [49]) (pd_cons (pd_str [48, 55]) (pd_cons (pd_str [49, 48]) (pd_cons (pd_callTy call_str_int snd_str x.n_str (pd_cons (pd_op op_pow snd_pow pd_int pd_int) pd_nil)) (pd_cons (pd_callTy call_str_int snd_str x.n_str (pd_cons (pd_op op_addA snd_add (pd_op op_pow snd_pow pd_int pd_int) pd_int) pd_nil)) (pd_cons (pd_op op_addA snd_add (pd_callTy call_str_int snd_str x.n_str (pd_cons (pd_op op_pow snd_pow pd_int pd_int) pd_nil)) (pd_str [48])) (pd_cons (pd_op op_mulA snd_mul (pd_str [57]) pd_int) (pd_cons (pd_str []) pd_nil)))))))))) pd_nil))))
  (pss_done (ps_dret (pd_call Glaw_of hr x.m_law_of x.F_law_of.kp (b_law_of x) (tk_of tk) (pd_cons (pd_var 0) (pd_cons (pd_op op_addA snd_add (pd_var 2) (pd_lst (pd_cons (pd_op op_addA snd_add (pd_str [40, 46, 97, 32, 60, 98, 62, 41, 42]) (pd_var 3)) (pd_cons (pd_op op_addA snd_add (pd_str [40, 45, 41, 42]) (pd_var 3)) (pd_cons (pd_op op_addA snd_add (pd_str [40, 40, 46, 97, 41, 42, 50, 32, 126, 98, 41, 42]) (pd_var 3)) pd_nil))))) pd_nil))))))))
theorem d_law_of {φlaw_draw : Fn} (x : Fx K mg E) (hk : 3 ≤ k) (Glaw_draw : FnD P w K mg base (k + 1) (He.fAd K ("_law_draw", none)) E.d_law_draw ["_law_d", "_law_many"] φlaw_draw) : FnD P w K mg base (k + 2) (He.fAd K ("_law_of", none)) E.d_law_of ["_law_d", "_law_some"] (defM 2 (m_law_of (adK K) φlaw_draw)) := by
  exact FnD.mk x.F_law_of sc_law_of fun cdv A outer s H E hr =>
    have tk := takes_fn (P := P) (w := w) (K := K) (mg := mg) (base := base) (N := ["_law_d", "_law_some"]) (qual := "_law_of") (scope := defScope (top 18)) (f := He.fAd K ("_law_of", none)) (cd := cdv) (A := A) (outer := outer) (s := s) (H := H) (E := E)
    (pss_done (ps_dret (pd_ix hr.units (pd_var 1) (pd_call Glaw_draw hr x.m_law_draw x.F_law_draw.kp (b_law_draw x) (tk_of tk) (pd_cons (pd_var 0) (pd_cons (pd_callB call_lenA snd_len x.n_len (pd_cons (pd_var 1) pd_nil)) pd_nil))))))
theorem d_law_row_at {φlaw_step_at : Fn} (x : Fx K mg E) (hk : 3 ≤ k) (Glaw_step_at : FnD P w K mg base (k + 1) (He.fAd K ("_law_step_at", none)) E.d_law_step_at ["_law_text_here", "_law_at", "_law_many", "_law_deep"] φlaw_step_at) : FnD P w K mg base (k + 2) (He.fAd K ("_law_row_at", none)) E.d_law_row_at ["_law_text_here", "_law_at", "_law_many", "_law_deep"] (defM 7 (m_law_row_at (adK K) φlaw_step_at)) := by
  exact FnD.mk x.F_law_row_at sc_law_row_at fun cdv A outer s H E hr =>
    have tk := takes_fn (P := P) (w := w) (K := K) (mg := mg) (base := base) (N := ["_law_text_here", "_law_at", "_law_many", "_law_deep", "_law_steps", "_law_turn", "_law_step"]) (qual := "_law_row_at") (scope := defScope (top 23)) (f := He.fAd K ("_law_row_at", none)) (cd := cdv) (A := A) (outer := outer) (s := s) (H := H) (E := E)
    (pss_dcons (ps_dif (pd_cmpT (op_eqA hr.units) snd_eq (pd_sl (pd_var 0) (po_dso (pd_var 1)) (po_dso (pd_op op_addA snd_add (pd_var 1) pd_int))) (pd_str [45])) (pss_done (ps_dret (pd_tup (pd_cons (pd_op op_addA snd_add (pd_var 1) pd_int) (pd_cons (pd_tup (pd_cons (pd_str [115, 116, 101, 112, 115]) (pd_cons (pd_tup pd_nil) pd_nil))) (pd_cons (pd_var 2) pd_nil)))))) pss_dnil)
  (pss_dcons (ps_dset (i := 4) sc_law_row_at.nd rfl (Or.inl rfl) (pd_lstL pd_nil))
  (pss_dcons (ps_dfor (passes_of rfl) rfl (pi_drange1 x.n_range pd_int) (pg_dname sc_law_row_at.nd (i := 5) rfl (Or.inl rfl)) (pss_dcons (ps_dasg (pd_call Glaw_step_at hr x.m_law_step_at x.F_law_step_at.kp (b_law_step_at x) (tk_of tk) (pd_cons (pd_var 0) (pd_cons (pd_var 1) (pd_cons (pd_var 2) (pd_cons (pd_var 3) pd_nil))))) (pg_dtup rfl (pgs_dcons (pg_dname sc_law_row_at.nd (i := 1) rfl (Or.inl rfl)) (pgs_dcons (pg_dname sc_law_row_at.nd (i := 6) rfl (Or.inl rfl)) (pgs_dcons (pg_dname sc_law_row_at.nd (i := 2) rfl (Or.inl rfl)) pgs_dnil)))))
  (pss_dcons (ps_dif (pd_cmpT op_isA snd_is (pd_var 6) pd_non) (pss_done (ps_dret (pd_tup (pd_cons (pd_var 1) (pd_cons pd_non (pd_cons (pd_var 2) pd_nil)))))) pss_dnil)
  (pss_dcons (ps_dexpr (pd_lm PySem.F.slot_list_append PySem.F.type_list_append mt_append snd_append (pd_var 4) (pd_cons (pd_var 6) pd_nil)))
  (pss_dcons (ps_dif (pd_cmpT (op_neA hr.units) snd_ne (pd_sl (pd_var 0) (po_dso (pd_var 1)) (po_dso (pd_op op_addA snd_add (pd_var 1) pd_int))) (pd_str [32])) (pss_done (ps_dret (pd_tup (pd_cons (pd_var 1) (pd_cons (pd_tup (pd_cons (pd_str [115, 116, 101, 112, 115]) (pd_cons (pd_callTy call_tuple_of snd_tuple x.n_tuple (pd_cons (pd_var 4) pd_nil)) pd_nil))) (pd_cons (pd_var 2) pd_nil)))))) pss_dnil)
  (pss_done (ps_dset (i := 1) sc_law_row_at.nd rfl (Or.inl rfl) (pd_op op_addA snd_add (pd_var 1) pd_int))))))))
  (pss_done (ps_dret (pd_tup (pd_cons (pd_var 1) (pd_cons pd_non (pd_cons (pd_var 2) pd_nil)))))))))
theorem d_read_row {φReader_init : Fn} {φReader_row : Fn} {φReader_here : Fn} {φReader_need : Fn} (x : Fx K mg E) (hk : 3 ≤ k) (MReader_init : FnD P w K mg base k (He.fAd K ("Reader", some "__init__")) E.d_Reader_init ["self", "signs"] φReader_init) (GReader_row : FnD P w K mg base (k + 1) (He.fAd K ("Reader", some "row")) E.d_Reader_row ["self", "deep"] φReader_row) (GReader_here : FnD P w K mg base (k + 1) (He.fAd K ("Reader", some "here")) E.d_Reader_here ["self"] φReader_here) (GReader_need : FnD P w K mg base (k + 1) (He.fAd K ("Reader", some "need")) E.d_Reader_need ["self", "good"] φReader_need) : FnD P w K mg base (k + 2) (He.fAd K ("read_row", none)) E.d_read_row ["text"] (defM 3 (m_read_row (adK K) φReader_init φReader_row φReader_here φReader_need)) := by
  exact FnD.mk x.F_read_row sc_read_row fun cdv A outer s H E hr =>
    have tk := takes_fn (P := P) (w := w) (K := K) (mg := mg) (base := base) (N := ["text", "reader", "found"]) (qual := "read_row") (scope := defScope (top 13)) (f := He.fAd K ("read_row", none)) (cd := cdv) (A := A) (outer := outer) (s := s) (H := H) (E := E)
    (pss_dcons (ps_dset (i := 1) sc_read_row.nd rfl (Or.inl rfl) (pd_make x.k_Reader MReader_init hr x.g_Reader (b_Reader_init x) (tk_of tk) (pd_cons (pd_var 0) pd_nil)))
  (pss_dcons (ps_dset (i := 2) sc_read_row.nd rfl (Or.inl rfl) (pd_meth x.c_Reader x.h_Reader_row GReader_row hr (b_Reader_row x) (tk_of tk) (pd_var 1) (pd_cons pd_int pd_nil)))
  (pss_dcons (ps_dexpr (pd_meth x.c_Reader x.h_Reader_need GReader_need hr (b_Reader_need x) (tk_of tk) (pd_var 1) (pd_cons (pd_cmp (op_eqA hr.units) snd_eq (pd_meth0 x.c_Reader x.h_Reader_here GReader_here hr (b_Reader_here x) (tk_of tk) (pd_var 1)) (pd_str [])) pd_nil)))
  (pss_done (ps_dret (pd_var 2))))))
theorem d_law_step_at {φlaw_letters : Fn} {φlaw_run : Fn} {φlaw_row_at : Fn} {φlaw_times_at : Fn} (x : Fx K mg E) (hk : 3 ≤ k) (Glaw_letters : FnD P w K mg base (k + 1) (He.fAd K ("_law_letters", none)) E.d_law_letters [] φlaw_letters) (Glaw_run : FnD P w K mg base (k + 1) (He.fAd K ("_law_run", none)) E.d_law_run ["_law_text_here", "_law_at", "_law_signs", "_law_most"] φlaw_run) (Glaw_row_at : FnD P w K mg base (k + 1) (He.fAd K ("_law_row_at", none)) E.d_law_row_at ["_law_text_here", "_law_at", "_law_many", "_law_deep"] φlaw_row_at) (Glaw_times_at : FnD P w K mg base (k + 1) (He.fAd K ("_law_times_at", none)) E.d_law_times_at ["_law_text_here", "_law_at"] φlaw_times_at) : FnD P w K mg base (k + 2) (He.fAd K ("_law_step_at", none)) E.d_law_step_at ["_law_text_here", "_law_at", "_law_many", "_law_deep"] (defM 11 (m_law_step_at (adK K) φlaw_letters φlaw_run φlaw_row_at φlaw_times_at)) := by
  exact FnD.mk x.F_law_step_at sc_law_step_at fun cdv A outer s H E hr =>
    have tk := takes_fn (P := P) (w := w) (K := K) (mg := mg) (base := base) (N := ["_law_text_here", "_law_at", "_law_many", "_law_deep", "_law_letters_here", "_law_sign", "_law_end", "_law_inner", "_law_need", "_law_number", "_law_good"]) (qual := "_law_step_at") (scope := defScope (top 22)) (f := He.fAd K ("_law_step_at", none)) (cd := cdv) (A := A) (outer := outer) (s := s) (H := H) (E := E)
    (pss_dcons (ps_dset (i := 4) sc_law_step_at.nd rfl (Or.inl rfl) (pd_op op_addA snd_add (pd_call0 Glaw_letters hr x.m_law_letters x.F_law_letters.kp (b_law_letters x) (tk_of tk)) (pd_strm0 PySem.F.slot_str_upper PySem.F.type_str_upper mt_upper snd_upper (pd_call0 Glaw_letters hr x.m_law_letters x.F_law_letters.kp (b_law_letters x) (tk_of tk)))))
  (pss_dcons (ps_dset (i := 5) sc_law_step_at.nd rfl (Or.inl rfl) (pd_sl (pd_var 0) (po_dso (pd_var 1)) (po_dso (pd_op op_addA snd_add (pd_var 1) pd_int))))
  (pss_dcons (ps_dif (pd_bopT (pw_dor (pd_cmpT (op_ninA hr.units) snd_nin (pd_var 5) (pd_tup (pd_cons (pd_str [46]) (pd_cons (pd_str [126]) (pd_cons (pd_str [60]) (pd_cons (pd_str [40]) pd_nil)))))) (pw_dor (pd_cmpT op_geA snd_ge (pd_var 2) pd_int) (pw_dor1 (pd_bopT (pw_dand (pd_cmpT (op_eqA hr.units) snd_eq (pd_var 5) (pd_str [40])) (pw_dand1 (pd_cmpT op_geA snd_ge (pd_var 3) pd_int)))))))) (pss_done (ps_dret (pd_tup (pd_cons (pd_var 1) (pd_cons pd_non (pd_cons (pd_var 2) pd_nil)))))) pss_dnil)
  (pss_dcons (ps_dif (pd_bopT (pw_dor (pd_cmpT (op_eqA hr.units) snd_eq (pd_var 5) (pd_str [46])) (pw_dor1 (pd_cmpT (op_eqA hr.units) snd_eq (pd_var 5) (pd_str [126]))))) (pss_dcons (ps_dset (i := 6) sc_law_step_at.nd rfl (Or.inl rfl) (pd_call Glaw_run hr x.m_law_run x.F_law_run.kp (b_law_run x) (tk_of tk) (pd_cons (pd_var 0) (pd_cons (pd_op op_addA snd_add (pd_var 1) pd_int) (pd_cons (pd_var 4) (pd_cons pd_int pd_nil))))))
  (pss_dcons (ps_dif (pd_bopT (pw_dand (pd_cmpT (op_eqA hr.units) snd_eq (pd_var 5) (pd_str [126])) (pw_dand1 (pd_cmpT (op_eqA hr.units) snd_eq (pd_var 6) (pd_op op_addA snd_add (pd_var 1) pd_int))))) (pss_done (ps_dret (pd_tup (pd_cons (pd_var 6) (pd_cons pd_non (pd_cons (pd_var 2) pd_nil)))))) pss_dnil)
  (pss_done (ps_dret (pd_tup (pd_cons (pd_var 6) (pd_cons (pd_tup (pd_cons (pd_ix hr.units (pd_lst (pd_cons (pd_str [99, 97, 108, 108]) (pd_cons (pd_str [116, 117, 114, 110]) pd_nil))) (pd_callTy call_intA snd_int x.n_int (pd_cons (pd_cmp (op_eqA hr.units) snd_eq (pd_var 5) (pd_str [126])) pd_nil))) (pd_cons (pd_sl (pd_var 0) (po_dso (pd_op op_addA snd_add (pd_var 1) pd_int)) (po_dso (pd_var 6))) pd_nil))) (pd_cons (pd_op op_addA snd_add (pd_var 2) pd_int) pd_nil)))))))) pss_dnil)
  (pss_dcons (ps_dif (pd_cmpT (op_eqA hr.units) snd_eq (pd_var 5) (pd_str [60])) (pss_dcons (ps_dset (i := 6) sc_law_step_at.nd rfl (Or.inl rfl) (pd_call Glaw_run hr x.m_law_run x.F_law_run.kp (b_law_run x) (tk_of tk) (pd_cons (pd_var 0) (pd_cons (pd_op op_addA snd_add (pd_var 1) pd_int) (pd_cons (pd_call0 Glaw_letters hr x.m_law_letters x.F_law_letters.kp (b_law_letters x) (tk_of tk)) (pd_cons pd_int pd_nil))))))
  (pss_dcons (ps_dif (pd_bopT (pw_dor (pd_cmpT (op_eqA hr.units) snd_eq (pd_var 6) (pd_op op_addA snd_add (pd_var 1) pd_int)) (pw_dor1 (pd_cmpT (op_neA hr.units) snd_ne (pd_sl (pd_var 0) (po_dso (pd_var 6)) (po_dso (pd_op op_addA snd_add (pd_var 6) pd_int))) (pd_str [62]))))) (pss_done (ps_dret (pd_tup (pd_cons (pd_var 6) (pd_cons pd_non (pd_cons (pd_var 2) pd_nil)))))) pss_dnil)
  (pss_done (ps_dret (pd_tup (pd_cons (pd_op op_addA snd_add (pd_var 6) pd_int) (pd_cons (pd_tup (pd_cons (pd_str [114, 111, 119]) (pd_cons (pd_sl (pd_var 0) (po_dso (pd_op op_addA snd_add (pd_var 1) pd_int)) (po_dso (pd_var 6))) pd_nil))) (pd_cons (pd_op op_addA snd_add (pd_var 2) pd_int) pd_nil)))))))) pss_dnil)
  (pss_dcons (ps_dasg (pd_call Glaw_row_at hr x.m_law_row_at x.F_law_row_at.kp (b_law_row_at x) (tk_of tk) (pd_cons (pd_var 0) (pd_cons (pd_op op_addA snd_add (pd_var 1) pd_int) (pd_cons (pd_op op_addA snd_add (pd_var 2) pd_int) (pd_cons (pd_op op_addA snd_add (pd_var 3) pd_int) pd_nil))))) (pg_dtup rfl (pgs_dcons (pg_dname sc_law_step_at.nd (i := 6) rfl (Or.inl rfl)) (pgs_dcons (pg_dname sc_law_step_at.nd (i := 7) rfl (Or.inl rfl)) (pgs_dcons (pg_dname sc_law_step_at.nd (i := 2) rfl (Or.inl rfl)) pgs_dnil)))))
  (pss_dcons (ps_dfor (passes_of rfl) rfl (pi_dvals (pd_str [41, 42])) (pg_dname sc_law_step_at.nd (i := 8) rfl (Or.inl rfl)) (pss_done (ps_dif (pd_bopT (pw_dand (pd_cmpT op_isntA snd_isnt (pd_var 7) pd_non) (pw_dand1 (pd_cmpT (op_eqA hr.units) snd_eq (pd_sl (pd_var 0) (po_dso (pd_var 6)) (po_dso (pd_op op_addA snd_add (pd_var 6) pd_int))) (pd_var 8))))) (pss_done (ps_dset (i := 6) sc_law_step_at.nd rfl (Or.inl rfl) (pd_op op_addA snd_add (pd_var 6) pd_int))) (pss_done (ps_dret (pd_tup (pd_cons (pd_var 6) (pd_cons pd_non (pd_cons (pd_var 2) pd_nil)))))))))
  (pss_dcons (ps_dasg (pd_call Glaw_times_at hr x.m_law_times_at x.F_law_times_at.kp (b_law_times_at x) (tk_of tk) (pd_cons (pd_var 0) (pd_cons (pd_var 6) pd_nil))) (pg_dtup rfl (pgs_dcons (pg_dname sc_law_step_at.nd (i := 6) rfl (Or.inl rfl)) (pgs_dcons (pg_dname sc_law_step_at.nd (i := 9) rfl (Or.inl rfl)) (pgs_dcons (pg_dname sc_law_step_at.nd (i := 10) rfl (Or.inl rfl)) pgs_dnil)))))
  (pss_done (ps_dret (pd_tup (pd_cons (pd_var 6) (pd_cons (pd_ifExp (pd_truth (pd_var 10)) (pd_tup (pd_cons (pd_str [116, 105, 109, 101, 115]) (pd_cons (pd_var 9) (pd_cons (pd_var 7) pd_nil)))) pd_non) (pd_cons (pd_var 2) pd_nil))))))))))))))
theorem d_Reader_init  (x : Fx K mg E) (hk : 3 ≤ k) : FnD P w K mg base (k + 2) (He.fAd K ("Reader", some "__init__")) E.d_Reader_init ["self", "signs"] (defM 2 (m_Reader_init (adK K) )) := by
  exact FnD.mk x.F_Reader_init sc_Reader_init fun cdv A outer s H E hr =>
    have tk := takes_fn (P := P) (w := w) (K := K) (mg := mg) (base := base) (N := ["self", "signs"]) (qual := "Reader.__init__") (scope := defScope (clsDef (top 12) 0)) (f := He.fAd K ("Reader", some "__init__")) (cd := cdv) (A := A) (outer := outer) (s := s) (H := H) (E := E)
    (pss_dcons (ps_dfld x.c_Reader x.a_Reader_signs (pd_var 0) (pd_var 1))
  (pss_dcons (ps_dfld x.c_Reader x.a_Reader_now (pd_var 0) pd_int)
  (pss_done (ps_dfld x.c_Reader x.a_Reader_many (pd_var 0) pd_int))))
theorem d_Reader_row {φReader_here : Fn} {φReader_step : Fn} (x : Fx K mg E) (hk : 3 ≤ k) (GReader_here : FnD P w K mg base (k + 1) (He.fAd K ("Reader", some "here")) E.d_Reader_here ["self"] φReader_here) (GReader_step : FnD P w K mg base (k + 1) (He.fAd K ("Reader", some "step")) E.d_Reader_step ["self", "deep"] φReader_step) : FnD P w K mg base (k + 2) (He.fAd K ("Reader", some "row")) E.d_Reader_row ["self", "deep"] (defM 3 (m_Reader_row (adK K) φReader_here φReader_step)) := by
  exact FnD.mk x.F_Reader_row sc_Reader_row fun cdv A outer s H E hr =>
    have tk := takes_fn (P := P) (w := w) (K := K) (mg := mg) (base := base) (N := ["self", "deep", "found"]) (qual := "Reader.row") (scope := defScope (clsDef (top 12) 7)) (f := He.fAd K ("Reader", some "row")) (cd := cdv) (A := A) (outer := outer) (s := s) (H := H) (E := E)
    (pss_dcons (ps_dif (pd_cmpT (op_eqA hr.units) snd_eq (pd_meth0 x.c_Reader x.h_Reader_here GReader_here hr (b_Reader_here x) (tk_of tk) (pd_var 0)) (pd_str [45])) (pss_dcons (ps_dfldaug x.c_Reader x.a_Reader_now iop_add snd_addI (pd_var 0) pd_int)
  (pss_done (ps_dret (pd_tup (pd_cons (pd_str [115, 116, 101, 112, 115]) (pd_cons (pd_tup pd_nil) pd_nil)))))) pss_dnil)
  (pss_dcons (ps_dset (i := 2) sc_Reader_row.nd rfl (Or.inl rfl) (pd_lstL (pd_cons (pd_meth x.c_Reader x.h_Reader_step GReader_step hr (b_Reader_step x) (tk_of tk) (pd_var 0) (pd_cons (pd_var 1) pd_nil)) pd_nil)))
  (pss_dcons (ps_dwhile (passes_of rfl) (pd_cmpT (op_eqA hr.units) snd_eq (pd_meth0 x.c_Reader x.h_Reader_here GReader_here hr (b_Reader_here x) (tk_of tk) (pd_var 0)) (pd_str [32])) (pss_dcons (ps_dfldaug x.c_Reader x.a_Reader_now iop_add snd_addI (pd_var 0) pd_int)
  (pss_done (ps_dexpr (pd_lm PySem.F.slot_list_append PySem.F.type_list_append mt_append snd_append (pd_var 2) (pd_cons (pd_meth x.c_Reader x.h_Reader_step GReader_step hr (b_Reader_step x) (tk_of tk) (pd_var 0) (pd_cons (pd_var 1) pd_nil)) pd_nil))))))
  (pss_done (ps_dret (pd_tup (pd_cons (pd_str [115, 116, 101, 112, 115]) (pd_cons (pd_callTy call_tuple_of snd_tuple x.n_tuple (pd_cons (pd_var 2) pd_nil)) pd_nil))))))))
theorem d_Reader_here  (x : Fx K mg E) (hk : 3 ≤ k) : FnD P w K mg base (k + 2) (He.fAd K ("Reader", some "here")) E.d_Reader_here ["self"] (defM 1 (m_Reader_here (adK K) )) := by
  exact FnD.mk x.F_Reader_here sc_Reader_here fun cdv A outer s H E hr =>
    have tk := takes_fn (P := P) (w := w) (K := K) (mg := mg) (base := base) (N := ["self"]) (qual := "Reader.here") (scope := defScope (clsDef (top 12) 1)) (f := He.fAd K ("Reader", some "here")) (cd := cdv) (A := A) (outer := outer) (s := s) (H := H) (E := E)
    (pss_done (ps_dret (pd_sl (pd_fld x.c_Reader x.a_Reader_signs (pd_var 0)) (po_dso (pd_fld x.c_Reader x.a_Reader_now (pd_var 0))) (po_dso (pd_op op_addA snd_add (pd_fld x.c_Reader x.a_Reader_now (pd_var 0)) pd_int)))))
theorem d_Reader_need  (x : Fx K mg E) (hk : 3 ≤ k) : FnD P w K mg base (k + 2) (He.fAd K ("Reader", some "need")) E.d_Reader_need ["self", "good"] (defM 2 (m_Reader_need (adK K) )) := by
  exact FnD.mk x.F_Reader_need sc_Reader_need fun cdv A outer s H E hr =>
    have tk := takes_fn (P := P) (w := w) (K := K) (mg := mg) (base := base) (N := ["self", "good"]) (qual := "Reader.need") (scope := defScope (clsDef (top 12) 2)) (f := He.fAd K ("Reader", some "need")) (cd := cdv) (A := A) (outer := outer) (s := s) (H := H) (E := E)
    (pss_done (ps_dif (pd_notT (pd_truth (pd_var 1))) (pss_done (ps_draise rfl tk (pmd_mk (x.o_BadText) grx_BadText (i_BadText_init x (by omega)) hr x.g_BadText (pd_cons (pd_fld x.c_Reader x.a_Reader_now (pd_var 0)) pd_nil)))) pss_dnil))
theorem d_law_letters  (x : Fx K mg E) (hk : 3 ≤ k) : FnD P w K mg base (k + 2) (He.fAd K ("_law_letters", none)) E.d_law_letters [] (defM 0 (m_law_letters (adK K) )) := by
  exact FnD.mk x.F_law_letters sc_law_letters fun cdv A outer s H E hr =>
    have tk := takes_fn (P := P) (w := w) (K := K) (mg := mg) (base := base) (N := []) (qual := "_law_letters") (scope := defScope (top 19)) (f := He.fAd K ("_law_letters", none)) (cd := cdv) (A := A) (outer := outer) (s := s) (H := H) (E := E)
    (pss_done (ps_dret (pd_str [97, 98, 99, 100, 101, 102, 103, 104, 105, 106, 107, 108, 109, 110, 111, 112, 113, 114, 115, 116, 117, 118, 119, 120, 121, 122])))
theorem d_law_run  (x : Fx K mg E) (hk : 3 ≤ k) : FnD P w K mg base (k + 2) (He.fAd K ("_law_run", none)) E.d_law_run ["_law_text_here", "_law_at", "_law_signs", "_law_most"] (defM 5 (m_law_run (adK K) )) := by
  exact FnD.mk x.F_law_run sc_law_run fun cdv A outer s H E hr =>
    have tk := takes_fn (P := P) (w := w) (K := K) (mg := mg) (base := base) (N := ["_law_text_here", "_law_at", "_law_signs", "_law_most", "_law_end"]) (qual := "_law_run") (scope := defScope (top 20)) (f := He.fAd K ("_law_run", none)) (cd := cdv) (A := A) (outer := outer) (s := s) (H := H) (E := E)
    (pss_dcons (ps_dset (i := 4) sc_law_run.nd rfl (Or.inl rfl) (pd_var 1))
  (pss_dcons (ps_dwhile (passes_of rfl) (pd_bopT (pw_dand (pd_cmpT op_ltA snd_lt (pd_var 4) (pd_callB call_lenA snd_len x.n_len (pd_cons (pd_var 0) pd_nil))) (pw_dand (pd_cmpT op_ltA snd_lt (pd_op op_sub snd_sub (pd_var 4) (pd_var 1)) (pd_var 3)) (pw_dand1 (pd_cmpT (op_inA hr.units) snd_in (pd_ix hr.units (pd_var 0) (pd_var 4)) (pd_var 2)))))) (pss_done (ps_dset (i := 4) sc_law_run.nd rfl (Or.inl rfl) (pd_op op_addA snd_add (pd_var 4) pd_int))))
  (pss_done (ps_dret (pd_var 4)))))
theorem d_law_times_at {φlaw_run : Fn} (x : Fx K mg E) (hk : 3 ≤ k) (Glaw_run : FnD P w K mg base (k + 1) (He.fAd K ("_law_run", none)) E.d_law_run ["_law_text_here", "_law_at", "_law_signs", "_law_most"] φlaw_run) : FnD P w K mg base (k + 2) (He.fAd K ("_law_times_at", none)) E.d_law_times_at ["_law_text_here", "_law_at"] (defM 3 (m_law_times_at (adK K) φlaw_run)) := by
  exact FnD.mk x.F_law_times_at sc_law_times_at fun cdv A outer s H E hr =>
    have tk := takes_fn (P := P) (w := w) (K := K) (mg := mg) (base := base) (N := ["_law_text_here", "_law_at", "_law_end"]) (qual := "_law_times_at") (scope := defScope (top 21)) (f := He.fAd K ("_law_times_at", none)) (cd := cdv) (A := A) (outer := outer) (s := s) (H := H) (E := E)
    (pss_dcons (ps_dif (pd_cmpT (op_eqA hr.units) snd_eq (pd_sl (pd_var 0) (po_dso (pd_var 1)) (po_dso (pd_op op_addA snd_add (pd_var 1) pd_int))) (pd_str [48])) (pss_done (ps_dret (pd_tup (pd_cons (pd_op op_addA snd_add (pd_var 1) pd_int) (pd_cons pd_int (pd_cons pd_bl pd_nil)))))) pss_dnil)
  (pss_dcons (ps_dset (i := 2) sc_law_times_at.nd rfl (Or.inl rfl) (pd_call Glaw_run hr x.m_law_run x.F_law_run.kp (b_law_run x) (tk_of tk) (pd_cons (pd_var 0) (pd_cons (pd_var 1) (pd_cons (pd_str [48, 49, 50, 51, 52, 53, 54, 55, 56, 57]) (pd_cons pd_int pd_nil))))))
  (pss_dcons (ps_dif (pd_cmpT (op_eqA hr.units) snd_eq (pd_var 2) (pd_var 1)) (pss_done (ps_dret (pd_tup (pd_cons (pd_var 1) (pd_cons pd_int (pd_cons pd_bl pd_nil)))))) pss_dnil)
  (pss_dcons (ps_dif (pd_cmpT op_gtA snd_gt (pd_callTy call_intA snd_int x.n_int (pd_cons (pd_sl (pd_var 0) (po_dso (pd_var 1)) (po_dso (pd_var 2))) pd_nil)) (pd_op op_pow snd_pow pd_int pd_int)) (pss_done (ps_dret (pd_tup (pd_cons (pd_op op_sub snd_sub (pd_var 2) pd_int) (pd_cons pd_int (pd_cons pd_bl pd_nil)))))) pss_dnil)
  (pss_done (ps_dret (pd_tup (pd_cons (pd_var 2) (pd_cons (pd_callTy call_intA snd_int x.n_int (pd_cons (pd_sl (pd_var 0) (po_dso (pd_var 1)) (po_dso (pd_var 2))) pd_nil)) (pd_cons pd_bl pd_nil))))))))))
theorem d_Reader_step {φReader_here : Fn} {φReader_need : Fn} {φReader_run : Fn} {φReader_pass_by : Fn} {φReader_row : Fn} {φReader_number : Fn} (x : Fx K mg E) (hk : 3 ≤ k) (GReader_here : FnD P w K mg base (k + 1) (He.fAd K ("Reader", some "here")) E.d_Reader_here ["self"] φReader_here) (GReader_need : FnD P w K mg base (k + 1) (He.fAd K ("Reader", some "need")) E.d_Reader_need ["self", "good"] φReader_need) (GReader_run : FnD P w K mg base (k + 1) (He.fAd K ("Reader", some "run")) E.d_Reader_run ["self", "some", "least", "most"] φReader_run) (GReader_pass_by : FnD P w K mg base (k + 1) (He.fAd K ("Reader", some "pass_by")) E.d_Reader_pass_by ["self", "sign"] φReader_pass_by) (GReader_row : FnD P w K mg base (k + 1) (He.fAd K ("Reader", some "row")) E.d_Reader_row ["self", "deep"] φReader_row) (GReader_number : FnD P w K mg base (k + 1) (He.fAd K ("Reader", some "number")) E.d_Reader_number ["self"] φReader_number) : FnD P w K mg base (k + 2) (He.fAd K ("Reader", some "step")) E.d_Reader_step ["self", "deep"] (defM 5 (m_Reader_step (adK K) φReader_here φReader_need φReader_run φReader_pass_by φReader_row φReader_number)) := by
  obtain ⟨mv_Reader_run_0, kb_Reader_run_0⟩ := kbx_Reader_run_0 x
  obtain ⟨mv_Reader_run_least, kb_Reader_run_least⟩ := kbx_Reader_run_least x
  obtain ⟨mv_Reader_run_least_most, kb_Reader_run_least_most⟩ := kbx_Reader_run_least_most x
  exact FnD.mk x.F_Reader_step sc_Reader_step fun cdv A outer s H E hr =>
    have tk := takes_fn (P := P) (w := w) (K := K) (mg := mg) (base := base) (N := ["self", "deep", "sign", "name", "inner"]) (qual := "Reader.step") (scope := defScope (clsDef (top 12) 6)) (f := He.fAd K ("Reader", some "step")) (cd := cdv) (A := A) (outer := outer) (s := s) (H := H) (E := E)
    (pss_dcons (ps_dset (i := 2) sc_Reader_step.nd rfl (Or.inl rfl) (pd_meth0 x.c_Reader x.h_Reader_here GReader_here hr (b_Reader_here x) (tk_of tk) (pd_var 0)))
  (pss_dcons (ps_dexpr (pd_meth x.c_Reader x.h_Reader_need GReader_need hr (b_Reader_need x) (tk_of tk) (pd_var 0) (pd_cons (pd_and (pd_cmp (op_neA hr.units) snd_ne (pd_var 2) (pd_str [])) (pd_and (pd_cmp (op_inA hr.units) snd_in (pd_var 2) (pd_str [46, 126, 60, 40])) (pd_one (pd_cmp op_ltA snd_lt (pd_fld x.c_Reader x.a_Reader_many (pd_var 0)) (pd_globI x.i_MOST_STEPS.choose_spec))))) pd_nil)))
  (pss_dcons (ps_dexpr (pd_meth x.c_Reader x.h_Reader_need GReader_need hr (b_Reader_need x) (tk_of tk) (pd_var 0) (pd_cons (pd_or (pd_cmp (op_neA hr.units) snd_ne (pd_var 2) (pd_str [40])) (pd_one (pd_cmp op_ltA snd_lt (pd_var 1) (pd_globI x.i_MOST_DEEP.choose_spec)))) pd_nil)))
  (pss_dcons (ps_dfldaug x.c_Reader x.a_Reader_many iop_add snd_addI (pd_var 0) pd_int)
  (pss_dcons (ps_dfldaug x.c_Reader x.a_Reader_now iop_add snd_addI (pd_var 0) pd_int)
  (pss_dcons (ps_dif (pd_cmpT (op_eqA hr.units) snd_eq (pd_var 2) (pd_str [46])) (pss_done (ps_dret (pd_tup (pd_cons (pd_str [99, 97, 108, 108]) (pd_cons (pd_methN x.c_Reader x.h_Reader_run GReader_run hr kb_Reader_run_0 gr_Reader_run_0 (tk_of tk) (pd_var 0) (pd_cons (pd_globS s_LETTERS x.s_LETTERS.choose_spec) pd_nil) pk_dnil) pd_nil))))) pss_dnil)
  (pss_dcons (ps_dif (pd_cmpT (op_eqA hr.units) snd_eq (pd_var 2) (pd_str [126])) (pss_done (ps_dret (pd_tup (pd_cons (pd_str [116, 117, 114, 110]) (pd_cons (pd_methN x.c_Reader x.h_Reader_run GReader_run hr kb_Reader_run_least gr_Reader_run_least (tk_of tk) (pd_var 0) (pd_cons (pd_globS s_LETTERS x.s_LETTERS.choose_spec) pd_nil) (pk_dcons pd_int pk_dnil)) pd_nil))))) pss_dnil)
  (pss_dcons (ps_dif (pd_cmpT (op_eqA hr.units) snd_eq (pd_var 2) (pd_str [60])) (pss_dcons (ps_dset (i := 3) sc_Reader_step.nd rfl (Or.inl rfl) (pd_methN x.c_Reader x.h_Reader_run GReader_run hr kb_Reader_run_least_most gr_Reader_run_least_most (tk_of tk) (pd_var 0) (pd_cons (pd_globS s_SMALL x.s_SMALL.choose_spec) pd_nil) (pk_dcons pd_int (pk_dcons (pd_globI x.i_MOST_NAME.choose_spec) pk_dnil))))
  (pss_dcons (ps_dexpr (pd_meth x.c_Reader x.h_Reader_pass_by GReader_pass_by hr (b_Reader_pass_by x) (tk_of tk) (pd_var 0) (pd_cons (pd_str [62]) pd_nil)))
  (pss_done (ps_dret (pd_tup (pd_cons (pd_str [114, 111, 119]) (pd_cons (pd_var 3) pd_nil))))))) pss_dnil)
  (pss_dcons (ps_dset (i := 4) sc_Reader_step.nd rfl (Or.inl rfl) (pd_meth x.c_Reader x.h_Reader_row GReader_row hr (b_Reader_row x) (tk_of tk) (pd_var 0) (pd_cons (pd_op op_addA snd_add (pd_var 1) pd_int) pd_nil)))
  (pss_dcons (ps_dexpr (pd_meth x.c_Reader x.h_Reader_pass_by GReader_pass_by hr (b_Reader_pass_by x) (tk_of tk) (pd_var 0) (pd_cons (pd_str [41]) pd_nil)))
  (pss_dcons (ps_dexpr (pd_meth x.c_Reader x.h_Reader_pass_by GReader_pass_by hr (b_Reader_pass_by x) (tk_of tk) (pd_var 0) (pd_cons (pd_str [42]) pd_nil)))
  (pss_done (ps_dret (pd_tup (pd_cons (pd_str [116, 105, 109, 101, 115]) (pd_cons (pd_meth0 x.c_Reader x.h_Reader_number GReader_number hr (b_Reader_number x) (tk_of tk) (pd_var 0)) (pd_cons (pd_var 4) pd_nil)))))))))))))))))
theorem d_Reader_run {φReader_here : Fn} {φReader_need : Fn} (x : Fx K mg E) (hk : 3 ≤ k) (GReader_here : FnD P w K mg base (k + 1) (He.fAd K ("Reader", some "here")) E.d_Reader_here ["self"] φReader_here) (GReader_need : FnD P w K mg base (k + 1) (He.fAd K ("Reader", some "need")) E.d_Reader_need ["self", "good"] φReader_need) : FnD P w K mg base (k + 2) (He.fAd K ("Reader", some "run")) E.d_Reader_run ["self", "some", "least", "most"] (defM 5 (m_Reader_run (adK K) φReader_here φReader_need)) := by
  exact FnD.mk x.F_Reader_run sc_Reader_run fun cdv A outer s H E hr =>
    have tk := takes_fn (P := P) (w := w) (K := K) (mg := mg) (base := base) (N := ["self", "some", "least", "most", "start"]) (qual := "Reader.run") (scope := defScope (clsDef (top 12) 4)) (f := He.fAd K ("Reader", some "run")) (cd := cdv) (A := A) (outer := outer) (s := s) (H := H) (E := E)
    (pss_dcons (ps_dset (i := 4) sc_Reader_run.nd rfl (Or.inl rfl) (pd_fld x.c_Reader x.a_Reader_now (pd_var 0)))
  (pss_dcons (ps_dwhile (passes_of rfl) (pd_bopT (pw_dand (pd_cmpT op_ltA snd_lt (pd_op op_sub snd_sub (pd_fld x.c_Reader x.a_Reader_now (pd_var 0)) (pd_var 4)) (pd_var 3)) (pw_dand (pd_cmpT (op_neA hr.units) snd_ne (pd_meth0 x.c_Reader x.h_Reader_here GReader_here hr (b_Reader_here x) (tk_of tk) (pd_var 0)) (pd_str [])) (pw_dand1 (pd_cmpT (op_inA hr.units) snd_in (pd_meth0 x.c_Reader x.h_Reader_here GReader_here hr (b_Reader_here x) (tk_of tk) (pd_var 0)) (pd_var 1)))))) (pss_done (ps_dfldaug x.c_Reader x.a_Reader_now iop_add snd_addI (pd_var 0) pd_int)))
  (pss_dcons (ps_dexpr (pd_meth x.c_Reader x.h_Reader_need GReader_need hr (b_Reader_need x) (tk_of tk) (pd_var 0) (pd_cons (pd_cmp op_geA snd_ge (pd_op op_sub snd_sub (pd_fld x.c_Reader x.a_Reader_now (pd_var 0)) (pd_var 4)) (pd_var 2)) pd_nil)))
  (pss_done (ps_dret (pd_sl (pd_fld x.c_Reader x.a_Reader_signs (pd_var 0)) (po_dso (pd_var 4)) (po_dso (pd_fld x.c_Reader x.a_Reader_now (pd_var 0)))))))))
theorem d_Reader_pass_by {φReader_here : Fn} {φReader_need : Fn} (x : Fx K mg E) (hk : 3 ≤ k) (GReader_here : FnD P w K mg base (k + 1) (He.fAd K ("Reader", some "here")) E.d_Reader_here ["self"] φReader_here) (GReader_need : FnD P w K mg base (k + 1) (He.fAd K ("Reader", some "need")) E.d_Reader_need ["self", "good"] φReader_need) : FnD P w K mg base (k + 2) (He.fAd K ("Reader", some "pass_by")) E.d_Reader_pass_by ["self", "sign"] (defM 2 (m_Reader_pass_by (adK K) φReader_here φReader_need)) := by
  exact FnD.mk x.F_Reader_pass_by sc_Reader_pass_by fun cdv A outer s H E hr =>
    have tk := takes_fn (P := P) (w := w) (K := K) (mg := mg) (base := base) (N := ["self", "sign"]) (qual := "Reader.pass_by") (scope := defScope (clsDef (top 12) 3)) (f := He.fAd K ("Reader", some "pass_by")) (cd := cdv) (A := A) (outer := outer) (s := s) (H := H) (E := E)
    (pss_dcons (ps_dexpr (pd_meth x.c_Reader x.h_Reader_need GReader_need hr (b_Reader_need x) (tk_of tk) (pd_var 0) (pd_cons (pd_cmp (op_eqA hr.units) snd_eq (pd_meth0 x.c_Reader x.h_Reader_here GReader_here hr (b_Reader_here x) (tk_of tk) (pd_var 0)) (pd_var 1)) pd_nil)))
  (pss_done (ps_dfldaug x.c_Reader x.a_Reader_now iop_add snd_addI (pd_var 0) pd_int)))
theorem d_Reader_number {φReader_here : Fn} {φReader_run : Fn} (x : Fx K mg E) (hk : 3 ≤ k) (GReader_here : FnD P w K mg base (k + 1) (He.fAd K ("Reader", some "here")) E.d_Reader_here ["self"] φReader_here) (GReader_run : FnD P w K mg base (k + 1) (He.fAd K ("Reader", some "run")) E.d_Reader_run ["self", "some", "least", "most"] φReader_run) : FnD P w K mg base (k + 2) (He.fAd K ("Reader", some "number")) E.d_Reader_number ["self"] (defM 2 (m_Reader_number (adK K) φReader_here φReader_run)) := by
  obtain ⟨mv_Reader_run_least_most, kb_Reader_run_least_most⟩ := kbx_Reader_run_least_most x
  exact FnD.mk x.F_Reader_number sc_Reader_number fun cdv A outer s H E hr =>
    have tk := takes_fn (P := P) (w := w) (K := K) (mg := mg) (base := base) (N := ["self", "word"]) (qual := "Reader.number") (scope := defScope (clsDef (top 12) 5)) (f := He.fAd K ("Reader", some "number")) (cd := cdv) (A := A) (outer := outer) (s := s) (H := H) (E := E)
    (pss_dcons (ps_dif (pd_cmpT (op_eqA hr.units) snd_eq (pd_meth0 x.c_Reader x.h_Reader_here GReader_here hr (b_Reader_here x) (tk_of tk) (pd_var 0)) (pd_str [48])) (pss_dcons (ps_dfldaug x.c_Reader x.a_Reader_now iop_add snd_addI (pd_var 0) pd_int)
  (pss_done (ps_dret pd_int))) pss_dnil)
  (pss_dcons (ps_dset (i := 1) sc_Reader_number.nd rfl (Or.inl rfl) (pd_methN x.c_Reader x.h_Reader_run GReader_run hr kb_Reader_run_least_most gr_Reader_run_least_most (tk_of tk) (pd_var 0) (pd_cons (pd_globS s_FIGURES x.s_FIGURES.choose_spec) pd_nil) (pk_dcons pd_int (pk_dcons pd_int pk_dnil))))
  (pss_dcons (ps_dif (pd_cmpT op_gtA snd_gt (pd_callTy call_intA snd_int x.n_int (pd_cons (pd_var 1) pd_nil)) (pd_globI x.i_MOST_TIMES.choose_spec)) (pss_done (ps_draise rfl tk (pmd_mk (x.o_BadText) grx_BadText (i_BadText_init x (by omega)) hr x.g_BadText (pd_cons (pd_op op_sub snd_sub (pd_fld x.c_Reader x.a_Reader_now (pd_var 0)) pd_int) pd_nil)))) pss_dnil)
  (pss_done (ps_dret (pd_callTy call_intA snd_int x.n_int (pd_cons (pd_var 1) pd_nil)))))))
theorem p_law_start (x : Fx K mg E) (h : 5 ≤ k) : FnOk P w K mg base (L2.CX P w) k (He.fAd K ("_law_start", none)) E.d_law_start ["_law_script"] (spStart K) := by
  obtain ⟨k, rfl⟩ : ∃ j, k = j + 1 := ⟨k - 1, by omega⟩
  exact start_ok x.F_law_start sc_law_start fun cdv A outer s H E hr => pss_cons (ps_set (i := 1) sc_law_start.nd rfl (Or.inl rfl) pe_int) (pss_cons (ps_for (passes_of rfl) rfl (pi_list (pe_slice sl_list (pe_var (i := 0) rfl (Or.inl rfl)) po_none (po_some pe_int))) (pg_name (i := 2) sc_law_start.nd rfl (Or.inl rfl)) (pss_one (ps_set (i := 1) sc_law_start.nd rfl (Or.inl rfl) (pe_op op_mod (pe_op op_add (pe_op op_add (pe_op op_mul (pe_var (i := 1) rfl (Or.inl rfl)) pe_int) (pe_op op_mod (pe_var (i := 2) rfl (Or.inl rfl)) pe_int)) pe_int) pe_int)))) (pss_one (ps_ret (pe_lst (pa_cons (pe_callTy call_list_of rfl x.n_list (by decide +kernel) (pa_cons (pe_slice sl_list (pe_var (i := 0) rfl (Or.inl rfl)) po_none (po_some pe_int)) pa_nil)) (pa_cons pe_int (pa_cons pe_int (pa_cons (pe_var (i := 1) rfl (Or.inl rfl)) (pa_cons pe_int pa_nil)))))))))
theorem p_law_draw (x : Fx K mg E) (h : 5 ≤ k) : FnD P w K mg base k (He.fAd K ("_law_draw", none)) E.d_law_draw ["_law_d", "_law_many"] (φlaw_draw (adK K)) := by
  obtain ⟨k, rfl⟩ : ∃ j, k = j + 2 := ⟨k - 2, by omega⟩
  exact d_law_draw x (by omega) 
theorem p_law_of (x : Fx K mg E) (h : 6 ≤ k) : FnD P w K mg base k (He.fAd K ("_law_of", none)) E.d_law_of ["_law_d", "_law_some"] (φlaw_of (adK K)) := by
  obtain ⟨k, rfl⟩ : ∃ j, k = j + 2 := ⟨k - 2, by omega⟩
  exact d_law_of x (by omega) (p_law_draw x (by omega))
theorem p_law_piece (x : Fx K mg E) (h : 7 ≤ k) : FnD P w K mg base k (He.fAd K ("_law_piece", none)) E.d_law_piece ["_law_d"] (φlaw_piece (adK K)) := by
  obtain ⟨k, rfl⟩ : ∃ j, k = j + 2 := ⟨k - 2, by omega⟩
  exact d_law_piece x (by omega) (p_law_of x (by omega))
theorem p_law_text (x : Fx K mg E) (h : 8 ≤ k) : FnD P w K mg base k (He.fAd K ("_law_text", none)) E.d_law_text ["_law_d"] (φlaw_text (adK K)) := by
  obtain ⟨k, rfl⟩ : ∃ j, k = j + 2 := ⟨k - 2, by omega⟩
  exact d_law_text x (by omega) (p_law_draw x (by omega)) (p_law_piece x (by omega))
theorem p_law_spoilt (x : Fx K mg E) (h : 7 ≤ k) : FnD P w K mg base k (He.fAd K ("_law_spoilt", none)) E.d_law_spoilt ["_law_d", "_law_text_here"] (φlaw_spoilt (adK K)) := by
  obtain ⟨k, rfl⟩ : ∃ j, k = j + 2 := ⟨k - 2, by omega⟩
  exact d_law_spoilt x (by omega) (p_law_draw x (by omega)) (p_law_of x (by omega))
theorem p_law_letters (x : Fx K mg E) (h : 5 ≤ k) : FnD P w K mg base k (He.fAd K ("_law_letters", none)) E.d_law_letters [] (φlaw_letters (adK K)) := by
  obtain ⟨k, rfl⟩ : ∃ j, k = j + 2 := ⟨k - 2, by omega⟩
  exact d_law_letters x (by omega) 
theorem p_law_run (x : Fx K mg E) (h : 5 ≤ k) : FnD P w K mg base k (He.fAd K ("_law_run", none)) E.d_law_run ["_law_text_here", "_law_at", "_law_signs", "_law_most"] (φlaw_run (adK K)) := by
  obtain ⟨k, rfl⟩ : ∃ j, k = j + 2 := ⟨k - 2, by omega⟩
  exact d_law_run x (by omega) 
theorem p_law_times_at (x : Fx K mg E) (h : 6 ≤ k) : FnD P w K mg base k (He.fAd K ("_law_times_at", none)) E.d_law_times_at ["_law_text_here", "_law_at"] (φlaw_times_at (adK K)) := by
  obtain ⟨k, rfl⟩ : ∃ j, k = j + 2 := ⟨k - 2, by omega⟩
  exact d_law_times_at x (by omega) (p_law_run x (by omega))
theorem pg_law_step_at_law_row_at (x : Fx K mg E) : ∀ (n k : Nat), 7 + n ≤ k → FnD P w K mg base k (He.fAd K ("_law_step_at", none)) E.d_law_step_at ["_law_text_here", "_law_at", "_law_many", "_law_deep"] (φn_law_step_at (adK K) n) ∧ FnD P w K mg base k (He.fAd K ("_law_row_at", none)) E.d_law_row_at ["_law_text_here", "_law_at", "_law_many", "_law_deep"] (φn_law_row_at (adK K) n)
  | 0, k, h => ⟨FnD.stuck, FnD.stuck⟩
  | n + 1, k, h => by
    obtain ⟨k, rfl⟩ : ∃ j, k = j + 2 := ⟨k - 2, by omega⟩
    have ih := pg_law_step_at_law_row_at x n (k + 1) (by omega)
    exact ⟨d_law_step_at x (by omega) (p_law_letters x (by omega)) (p_law_run x (by omega)) ih.2 (p_law_times_at x (by omega)), d_law_row_at x (by omega) ih.1⟩
theorem p_law_step_at (x : Fx K mg E) (h : 47 ≤ k) : FnD P w K mg base k (He.fAd K ("_law_step_at", none)) E.d_law_step_at ["_law_text_here", "_law_at", "_law_many", "_law_deep"] (φlaw_step_at (adK K)) := (pg_law_step_at_law_row_at x 40 k (by omega)).1
theorem p_law_row_at (x : Fx K mg E) (h : 47 ≤ k) : FnD P w K mg base k (He.fAd K ("_law_row_at", none)) E.d_law_row_at ["_law_text_here", "_law_at", "_law_many", "_law_deep"] (φlaw_row_at (adK K)) := (pg_law_step_at_law_row_at x 40 k (by omega)).2
theorem p_law_due (x : Fx K mg E) (h : 48 ≤ k) : FnD P w K mg base k (He.fAd K ("_law_due", none)) E.d_law_due ["_law_text_here"] (φlaw_due (adK K)) := by
  obtain ⟨k, rfl⟩ : ∃ j, k = j + 2 := ⟨k - 2, by omega⟩
  exact d_law_due x (by omega) (p_law_row_at x (by omega))
theorem p_Reader_init (x : Fx K mg E) (h : 5 ≤ k) : FnD P w K mg base k (He.fAd K ("Reader", some "__init__")) E.d_Reader_init ["self", "signs"] (φReader_init (adK K)) := by
  obtain ⟨k, rfl⟩ : ∃ j, k = j + 2 := ⟨k - 2, by omega⟩
  exact d_Reader_init x (by omega) 
theorem p_Reader_here (x : Fx K mg E) (h : 5 ≤ k) : FnD P w K mg base k (He.fAd K ("Reader", some "here")) E.d_Reader_here ["self"] (φReader_here (adK K)) := by
  obtain ⟨k, rfl⟩ : ∃ j, k = j + 2 := ⟨k - 2, by omega⟩
  exact d_Reader_here x (by omega) 
theorem p_Reader_need (x : Fx K mg E) (h : 5 ≤ k) : FnD P w K mg base k (He.fAd K ("Reader", some "need")) E.d_Reader_need ["self", "good"] (φReader_need (adK K)) := by
  obtain ⟨k, rfl⟩ : ∃ j, k = j + 2 := ⟨k - 2, by omega⟩
  exact d_Reader_need x (by omega) 
theorem p_Reader_run (x : Fx K mg E) (h : 6 ≤ k) : FnD P w K mg base k (He.fAd K ("Reader", some "run")) E.d_Reader_run ["self", "some", "least", "most"] (φReader_run (adK K)) := by
  obtain ⟨k, rfl⟩ : ∃ j, k = j + 2 := ⟨k - 2, by omega⟩
  exact d_Reader_run x (by omega) (p_Reader_here x (by omega)) (p_Reader_need x (by omega))
theorem p_Reader_pass_by (x : Fx K mg E) (h : 6 ≤ k) : FnD P w K mg base k (He.fAd K ("Reader", some "pass_by")) E.d_Reader_pass_by ["self", "sign"] (φReader_pass_by (adK K)) := by
  obtain ⟨k, rfl⟩ : ∃ j, k = j + 2 := ⟨k - 2, by omega⟩
  exact d_Reader_pass_by x (by omega) (p_Reader_here x (by omega)) (p_Reader_need x (by omega))
theorem p_Reader_number (x : Fx K mg E) (h : 7 ≤ k) : FnD P w K mg base k (He.fAd K ("Reader", some "number")) E.d_Reader_number ["self"] (φReader_number (adK K)) := by
  obtain ⟨k, rfl⟩ : ∃ j, k = j + 2 := ⟨k - 2, by omega⟩
  exact d_Reader_number x (by omega) (p_Reader_here x (by omega)) (p_Reader_run x (by omega))
theorem pg_Reader_step_Reader_row (x : Fx K mg E) : ∀ (n k : Nat), 8 + n ≤ k → FnD P w K mg base k (He.fAd K ("Reader", some "step")) E.d_Reader_step ["self", "deep"] (φn_Reader_step (adK K) n) ∧ FnD P w K mg base k (He.fAd K ("Reader", some "row")) E.d_Reader_row ["self", "deep"] (φn_Reader_row (adK K) n)
  | 0, k, h => ⟨FnD.stuck, FnD.stuck⟩
  | n + 1, k, h => by
    obtain ⟨k, rfl⟩ : ∃ j, k = j + 2 := ⟨k - 2, by omega⟩
    have ih := pg_Reader_step_Reader_row x n (k + 1) (by omega)
    exact ⟨d_Reader_step x (by omega) (p_Reader_here x (by omega)) (p_Reader_need x (by omega)) (p_Reader_run x (by omega)) (p_Reader_pass_by x (by omega)) ih.2 (p_Reader_number x (by omega)), d_Reader_row x (by omega) (p_Reader_here x (by omega)) ih.1⟩
theorem p_Reader_step (x : Fx K mg E) (h : 68 ≤ k) : FnD P w K mg base k (He.fAd K ("Reader", some "step")) E.d_Reader_step ["self", "deep"] (φReader_step (adK K)) := (pg_Reader_step_Reader_row x 60 k (by omega)).1
theorem p_Reader_row (x : Fx K mg E) (h : 68 ≤ k) : FnD P w K mg base k (He.fAd K ("Reader", some "row")) E.d_Reader_row ["self", "deep"] (φReader_row (adK K)) := (pg_Reader_step_Reader_row x 60 k (by omega)).2
theorem p_read_row (x : Fx K mg E) (h : 69 ≤ k) : FnD P w K mg base k (He.fAd K ("read_row", none)) E.d_read_row ["text"] (φread_row (adK K)) := by
  obtain ⟨k, rfl⟩ : ∃ j, k = j + 2 := ⟨k - 2, by omega⟩
  exact d_read_row x (by omega) (p_Reader_init x (by omega)) (p_Reader_row x (by omega)) (p_Reader_here x (by omega)) (p_Reader_need x (by omega))
theorem p_law_told (x : Fx K mg E) (h : 70 ≤ k) : FnD P w K mg base k (He.fAd K ("_law_told", none)) E.d_law_told ["_law_text_here"] (φlaw_told (adK K)) := by
  obtain ⟨k, rfl⟩ : ∃ j, k = j + 2 := ⟨k - 2, by omega⟩
  exact d_law_told x (by omega) (p_read_row x (by omega))
theorem pg_law_same (x : Fx K mg E) : ∀ (n k : Nat), 5 + n ≤ k → FnD P w K mg base k (He.fAd K ("_law_same", none)) E.d_law_same ["_law_x", "_law_due_here"] (φn_law_same (adK K) n)
  | 0, k, h => FnD.stuck
  | n + 1, k, h => by
    obtain ⟨k, rfl⟩ : ∃ j, k = j + 2 := ⟨k - 2, by omega⟩
    have ih := pg_law_same x n (k + 1) (by omega)
    exact d_law_same x (by omega) ih
theorem p_law_same (x : Fx K mg E) (h : 45 ≤ k) : FnD P w K mg base k (He.fAd K ("_law_same", none)) E.d_law_same ["_law_x", "_law_due_here"] (φlaw_same (adK K)) := (pg_law_same x 40 k (by omega))
theorem p_law (x : Fx K mg E) (h : 71 ≤ k) : FnOk P w K mg base (L2.CX P w) k (He.fAd K ("law", none)) E.d_law ["_law_script"] (spLaw K 3 (mlaw (adK K))) := by
  obtain ⟨k, rfl⟩ : ∃ j, k = j + 2 := ⟨k - 2, by omega⟩
  exact d_law x (by omega) (p_law_start x (by omega)) (p_law_text x (by omega)) (p_law_draw x (by omega)) (p_law_spoilt x (by omega)) (p_law_due x (by omega)) (p_law_told x (by omega)) (p_law_same x (by omega))
end
end K28

/-! The head: facts by names, the run (printed by gen.py). -/
namespace K28
open PySem PySem.Spec L2 SL
open PyProof.Rows hiding St
def dd_law : He.DefD := ⟨("law", none), "law", "law", defArgs (top 29), defBody (top 29), defScope (top 29), [], []⟩
def dd_law_start : He.DefD := ⟨("_law_start", none), "_law_start", "_law_start", defArgs (top 16), defBody (top 16), defScope (top 16), [], []⟩
def dd_law_text : He.DefD := ⟨("_law_text", none), "_law_text", "_law_text", defArgs (top 27), defBody (top 27), defScope (top 27), [], []⟩
def dd_law_draw : He.DefD := ⟨("_law_draw", none), "_law_draw", "_law_draw", defArgs (top 17), defBody (top 17), defScope (top 17), [], []⟩
def dd_law_spoilt : He.DefD := ⟨("_law_spoilt", none), "_law_spoilt", "_law_spoilt", defArgs (top 28), defBody (top 28), defScope (top 28), [], []⟩
def dd_law_due : He.DefD := ⟨("_law_due", none), "_law_due", "_law_due", defArgs (top 24), defBody (top 24), defScope (top 24), [], []⟩
def dd_law_told : He.DefD := ⟨("_law_told", none), "_law_told", "_law_told", defArgs (top 25), defBody (top 25), defScope (top 25), [], []⟩
def dd_law_same : He.DefD := ⟨("_law_same", none), "_law_same", "_law_same", defArgs (top 15), defBody (top 15), defScope (top 15), [], []⟩
def dd_law_piece : He.DefD := ⟨("_law_piece", none), "_law_piece", "_law_piece", defArgs (top 26), defBody (top 26), defScope (top 26), [], []⟩
def dd_law_of : He.DefD := ⟨("_law_of", none), "_law_of", "_law_of", defArgs (top 18), defBody (top 18), defScope (top 18), [], []⟩
def dd_law_row_at : He.DefD := ⟨("_law_row_at", none), "_law_row_at", "_law_row_at", defArgs (top 23), defBody (top 23), defScope (top 23), [], []⟩
def dd_read_row : He.DefD := ⟨("read_row", none), "read_row", "read_row", defArgs (top 13), defBody (top 13), defScope (top 13), [], []⟩
def dd_law_step_at : He.DefD := ⟨("_law_step_at", none), "_law_step_at", "_law_step_at", defArgs (top 22), defBody (top 22), defScope (top 22), [], []⟩
def dd_Reader_init : He.DefD := ⟨("Reader", some "__init__"), "__init__", "Reader.__init__", defArgs (clsDef (top 12) 0), defBody (clsDef (top 12) 0), defScope (clsDef (top 12) 0), [], []⟩
def dd_Reader_row : He.DefD := ⟨("Reader", some "row"), "row", "Reader.row", defArgs (clsDef (top 12) 7), defBody (clsDef (top 12) 7), defScope (clsDef (top 12) 7), [], []⟩
def dd_Reader_here : He.DefD := ⟨("Reader", some "here"), "here", "Reader.here", defArgs (clsDef (top 12) 1), defBody (clsDef (top 12) 1), defScope (clsDef (top 12) 1), [], []⟩
def dd_Reader_need : He.DefD := ⟨("Reader", some "need"), "need", "Reader.need", defArgs (clsDef (top 12) 2), defBody (clsDef (top 12) 2), defScope (clsDef (top 12) 2), [], []⟩
def dd_law_letters : He.DefD := ⟨("_law_letters", none), "_law_letters", "_law_letters", defArgs (top 19), defBody (top 19), defScope (top 19), [], []⟩
def dd_law_run : He.DefD := ⟨("_law_run", none), "_law_run", "_law_run", defArgs (top 20), defBody (top 20), defScope (top 20), [], []⟩
def dd_law_times_at : He.DefD := ⟨("_law_times_at", none), "_law_times_at", "_law_times_at", defArgs (top 21), defBody (top 21), defScope (top 21), [], []⟩
def dd_Reader_step : He.DefD := ⟨("Reader", some "step"), "step", "Reader.step", defArgs (clsDef (top 12) 6), defBody (clsDef (top 12) 6), defScope (clsDef (top 12) 6), [], []⟩
def dd_Reader_run : He.DefD := ⟨("Reader", some "run"), "run", "Reader.run", defArgs (clsDef (top 12) 4), defBody (clsDef (top 12) 4), defScope (clsDef (top 12) 4), [], [("least", .int 0), ("most", .int 12)]⟩
def dd_Reader_pass_by : He.DefD := ⟨("Reader", some "pass_by"), "pass_by", "Reader.pass_by", defArgs (clsDef (top 12) 3), defBody (clsDef (top 12) 3), defScope (clsDef (top 12) 3), [], []⟩
def dd_Reader_number : He.DefD := ⟨("Reader", some "number"), "number", "Reader.number", defArgs (clsDef (top 12) 5), defBody (clsDef (top 12) 5), defScope (clsDef (top 12) 5), [], []⟩
def dd_HallError_init : He.DefD := ⟨("HallError", some "__init__"), "__init__", "HallError.__init__", defArgs (clsDef (top 1) 0), defBody (clsDef (top 1) 0), defScope (clsDef (top 1) 0), [], []⟩
def dd_BadText_init : He.DefD := ⟨("BadText", some "__init__"), "__init__", "BadText.__init__", defArgs (clsDef (top 2) 0), defBody (clsDef (top 2) 0), defScope (clsDef (top 2) 0), [], []⟩
def fn : List He.DefD := [dd_law, dd_law_start, dd_law_text, dd_law_draw, dd_law_spoilt, dd_law_due, dd_law_told, dd_law_same, dd_law_piece, dd_law_of, dd_law_row_at, dd_read_row, dd_law_step_at, dd_Reader_init, dd_Reader_row, dd_Reader_here, dd_Reader_need, dd_law_letters, dd_law_run, dd_law_times_at, dd_Reader_step, dd_Reader_run, dd_Reader_pass_by, dd_Reader_number, dd_HallError_init, dd_BadText_init]
def fa : List He.Fa := [.glo "_law_start", .free "range", .glo "_law_text", .glo "_law_draw", .glo "_law_spoilt", .glo "_law_due", .glo "_law_told", .glo "_law_same", .free "list", .glo "_law_piece", .free "len", .glo "_law_of", .glo "_law_row_at", .glo "BadText", .glo "read_row", .free "tuple", .free "isinstance", .free "all", .free "bool", .free "str", .glo "_law_step_at", .mkr "Reader", .glo "Reader", .cls "Reader", .meth "Reader" "row", .meth "Reader" "here", .meth "Reader" "need", .glo "_law_letters", .glo "_law_run", .free "int", .glo "_law_times_at", .noat "Reader" "signs", .noat "Reader" "now", .noat "Reader" "many", .meth "Reader" "step", .int "MOST_STEPS" 60, .int "MOST_DEEP" 12, .str "LETTERS" "abcdefghijklmnopqrstuvwxyzABCDEFGHIJKLMNOPQRSTUVWXYZ", .meth "Reader" "run", .str "SMALL" "abcdefghijklmnopqrstuvwxyz", .int "MOST_NAME" 8, .meth "Reader" "pass_by", .meth "Reader" "number", .str "FIGURES" "0123456789", .int "MOST_TIMES" 1000000000000000000000000000000, .free "ValueError", .glo "HallError", .glo "law"]
def ex (K : PySem.W.Frag) : Bool := (ctB K (He.ga K "BadText") [(He.ga K "BadText", true)]) && ((xfAll K [(He.ga K "BadText", true)] ["at"]) && ((oexIB K (He.ga K "BadText") (He.fAd K ("BadText", some "__init__")) ["at", "word"]) && ((veiB K) && ((crB K (He.ga K "HallError") (He.fAd K ("HallError", some "__init__"))) && (true)))))
def loose0 : List Str := ["HallError", "BadText", "SMALL", "MOST_STEPS", "MOST_DEEP", "MOST_TIMES", "MOST_NAME", "MOST_SIDES", "LETTERS", "FIGURES", "Reader", "read_row", "_law_same", "_law_start", "_law_draw", "_law_of", "_law_letters", "_law_run", "_law_times_at", "_law_step_at", "_law_row_at", "_law_due", "_law_told", "_law_piece", "_law_text", "_law_spoilt"]
def loose : List Str := loose0
abbrev R : PySem.W.OpenRow := PySem.W.OpenLaw.row PySem.Challenge.rw_nearcall_k28_texts_that_are_no_row
abbrev hk : PySem.W.Hook := hookY 5 [PySem.cStatics] fa fn ex
def ob (s : PySem.W.SharedT) : He.AlD × Bool := obsY 5 [PySem.cStatics] fa fn ex (HandSHeadRun.getT s)
theorem ob_eq (s : PySem.W.SharedT) : ob s = hk.obs s.abs := obsY_eq (HandSHeadRun.getT_eq s)
theorem run (w : World) : HandSHeadRun.RunEq R (PySem.W.view R.prog [29]) hk ob 4000 loose w := by
  intro os
  kernel_rfl
theorem fx_of {K : PySem.W.Frag} {h : Heap} {mg : Str → Option Value} (X : K.In h) (G : h.Ns mainGlobals mg) (c : SaysY fa fn ex K) : ∃ E, Fx K mg E := by
  have cd := c.d
  have r := c.more
  unfold ex at r
  obtain ⟨e0, r⟩ := Bool.and_eq_true_iff.mp r
  obtain ⟨e1, r⟩ := Bool.and_eq_true_iff.mp r
  obtain ⟨e2, r⟩ := Bool.and_eq_true_iff.mp r
  obtain ⟨e3, r⟩ := Bool.and_eq_true_iff.mp r
  obtain ⟨e4, r⟩ := Bool.and_eq_true_iff.mp r
  obtain ⟨fd_0, F_law⟩ := cd.def_ 0 (d := dd_law) rfl
  obtain ⟨fd_1, F_law_start⟩ := cd.def_ 1 (d := dd_law_start) rfl
  obtain ⟨fd_2, F_law_text⟩ := cd.def_ 2 (d := dd_law_text) rfl
  obtain ⟨fd_3, F_law_draw⟩ := cd.def_ 3 (d := dd_law_draw) rfl
  obtain ⟨fd_4, F_law_spoilt⟩ := cd.def_ 4 (d := dd_law_spoilt) rfl
  obtain ⟨fd_5, F_law_due⟩ := cd.def_ 5 (d := dd_law_due) rfl
  obtain ⟨fd_6, F_law_told⟩ := cd.def_ 6 (d := dd_law_told) rfl
  obtain ⟨fd_7, F_law_same⟩ := cd.def_ 7 (d := dd_law_same) rfl
  obtain ⟨fd_8, F_law_piece⟩ := cd.def_ 8 (d := dd_law_piece) rfl
  obtain ⟨fd_9, F_law_of⟩ := cd.def_ 9 (d := dd_law_of) rfl
  obtain ⟨fd_10, F_law_row_at⟩ := cd.def_ 10 (d := dd_law_row_at) rfl
  obtain ⟨fd_11, F_read_row⟩ := cd.def_ 11 (d := dd_read_row) rfl
  obtain ⟨fd_12, F_law_step_at⟩ := cd.def_ 12 (d := dd_law_step_at) rfl
  obtain ⟨fd_13, F_Reader_init⟩ := cd.def_ 13 (d := dd_Reader_init) rfl
  obtain ⟨fd_14, F_Reader_row⟩ := cd.def_ 14 (d := dd_Reader_row) rfl
  obtain ⟨fd_15, F_Reader_here⟩ := cd.def_ 15 (d := dd_Reader_here) rfl
  obtain ⟨fd_16, F_Reader_need⟩ := cd.def_ 16 (d := dd_Reader_need) rfl
  obtain ⟨fd_17, F_law_letters⟩ := cd.def_ 17 (d := dd_law_letters) rfl
  obtain ⟨fd_18, F_law_run⟩ := cd.def_ 18 (d := dd_law_run) rfl
  obtain ⟨fd_19, F_law_times_at⟩ := cd.def_ 19 (d := dd_law_times_at) rfl
  obtain ⟨fd_20, F_Reader_step⟩ := cd.def_ 20 (d := dd_Reader_step) rfl
  obtain ⟨fd_21, F_Reader_run⟩ := cd.def_ 21 (d := dd_Reader_run) rfl
  obtain ⟨fd_22, F_Reader_pass_by⟩ := cd.def_ 22 (d := dd_Reader_pass_by) rfl
  obtain ⟨fd_23, F_Reader_number⟩ := cd.def_ 23 (d := dd_Reader_number) rfl
  obtain ⟨fd_24, F_HallError_init⟩ := cd.def_ 24 (d := dd_HallError_init) rfl
  obtain ⟨fd_25, F_BadText_init⟩ := cd.def_ 25 (d := dd_BadText_init) rfl
  exact ⟨⟨fd_0, fd_1, fd_2, fd_3, fd_4, fd_5, fd_6, fd_7, fd_8, fd_9, fd_10, fd_11, fd_12, fd_13, fd_14, fd_15, fd_16, fd_17, fd_18, fd_19, fd_20, fd_21, fd_22, fd_23, fd_24, fd_25⟩, {
    F_law := F_law
    F_law_start := F_law_start
    F_law_text := F_law_text
    F_law_draw := F_law_draw
    F_law_spoilt := F_law_spoilt
    F_law_due := F_law_due
    F_law_told := F_law_told
    F_law_same := F_law_same
    F_law_piece := F_law_piece
    F_law_of := F_law_of
    F_law_row_at := F_law_row_at
    F_read_row := F_read_row
    F_law_step_at := F_law_step_at
    F_Reader_init := F_Reader_init
    F_Reader_row := F_Reader_row
    F_Reader_here := F_Reader_here
    F_Reader_need := F_Reader_need
    F_law_letters := F_law_letters
    F_law_run := F_law_run
    F_law_times_at := F_law_times_at
    F_Reader_step := F_Reader_step
    F_Reader_run := F_Reader_run
    F_Reader_pass_by := F_Reader_pass_by
    F_Reader_number := F_Reader_number
    F_HallError_init := F_HallError_init
    F_BadText_init := F_BadText_init
    m_law_start := He.glo_ok X G (cd.fact 0 (f := .glo "_law_start") rfl)
    n_range := He.free_ok X G (cd.fact 1 (f := .free "range") rfl)
    m_law_text := He.glo_ok X G (cd.fact 2 (f := .glo "_law_text") rfl)
    m_law_draw := He.glo_ok X G (cd.fact 3 (f := .glo "_law_draw") rfl)
    m_law_spoilt := He.glo_ok X G (cd.fact 4 (f := .glo "_law_spoilt") rfl)
    m_law_due := He.glo_ok X G (cd.fact 5 (f := .glo "_law_due") rfl)
    m_law_told := He.glo_ok X G (cd.fact 6 (f := .glo "_law_told") rfl)
    m_law_same := He.glo_ok X G (cd.fact 7 (f := .glo "_law_same") rfl)
    n_list := He.free_ok X G (cd.fact 8 (f := .free "list") rfl)
    m_law_piece := He.glo_ok X G (cd.fact 9 (f := .glo "_law_piece") rfl)
    n_len := He.free_ok X G (cd.fact 10 (f := .free "len") rfl)
    m_law_of := He.glo_ok X G (cd.fact 11 (f := .glo "_law_of") rfl)
    m_law_row_at := He.glo_ok X G (cd.fact 12 (f := .glo "_law_row_at") rfl)
    g_BadText := He.glo_ok X G (cd.fact 13 (f := .glo "BadText") rfl)
    m_read_row := He.glo_ok X G (cd.fact 14 (f := .glo "read_row") rfl)
    n_tuple := He.free_ok X G (cd.fact 15 (f := .free "tuple") rfl)
    n_isinstance := He.free_ok X G (cd.fact 16 (f := .free "isinstance") rfl)
    n_all := He.free_ok X G (cd.fact 17 (f := .free "all") rfl)
    n_bool := He.free_ok X G (cd.fact 18 (f := .free "bool") rfl)
    n_str := He.free_ok X G (cd.fact 19 (f := .free "str") rfl)
    m_law_step_at := He.glo_ok X G (cd.fact 20 (f := .glo "_law_step_at") rfl)
    k_Reader := He.mkr_ok (cd.fact 21 (f := .mkr "Reader") rfl)
    g_Reader := He.glo_ok X G (cd.fact 22 (f := .glo "Reader") rfl)
    c_Reader := He.cls_ok (cd.fact 23 (f := .cls "Reader") rfl)
    h_Reader_row := He.meth_ok (cd.fact 24 (f := .meth "Reader" "row") rfl)
    h_Reader_here := He.meth_ok (cd.fact 25 (f := .meth "Reader" "here") rfl)
    h_Reader_need := He.meth_ok (cd.fact 26 (f := .meth "Reader" "need") rfl)
    m_law_letters := He.glo_ok X G (cd.fact 27 (f := .glo "_law_letters") rfl)
    m_law_run := He.glo_ok X G (cd.fact 28 (f := .glo "_law_run") rfl)
    n_int := He.free_ok X G (cd.fact 29 (f := .free "int") rfl)
    m_law_times_at := He.glo_ok X G (cd.fact 30 (f := .glo "_law_times_at") rfl)
    a_Reader_signs := He.noat_ok (cd.fact 31 (f := .noat "Reader" "signs") rfl)
    a_Reader_now := He.noat_ok (cd.fact 32 (f := .noat "Reader" "now") rfl)
    a_Reader_many := He.noat_ok (cd.fact 33 (f := .noat "Reader" "many") rfl)
    h_Reader_step := He.meth_ok (cd.fact 34 (f := .meth "Reader" "step") rfl)
    i_MOST_STEPS := He.int_ok X G (cd.fact 35 (f := .int "MOST_STEPS" 60) rfl)
    i_MOST_DEEP := He.int_ok X G (cd.fact 36 (f := .int "MOST_DEEP" 12) rfl)
    s_LETTERS := He.str_ok X G (cd.fact 37 (f := .str "LETTERS" "abcdefghijklmnopqrstuvwxyzABCDEFGHIJKLMNOPQRSTUVWXYZ") rfl)
    h_Reader_run := He.meth_ok (cd.fact 38 (f := .meth "Reader" "run") rfl)
    s_SMALL := He.str_ok X G (cd.fact 39 (f := .str "SMALL" "abcdefghijklmnopqrstuvwxyz") rfl)
    i_MOST_NAME := He.int_ok X G (cd.fact 40 (f := .int "MOST_NAME" 8) rfl)
    h_Reader_pass_by := He.meth_ok (cd.fact 41 (f := .meth "Reader" "pass_by") rfl)
    h_Reader_number := He.meth_ok (cd.fact 42 (f := .meth "Reader" "number") rfl)
    s_FIGURES := He.str_ok X G (cd.fact 43 (f := .str "FIGURES" "0123456789") rfl)
    i_MOST_TIMES := He.int_ok X G (cd.fact 44 (f := .int "MOST_TIMES" 1000000000000000000000000000000) rfl)
    n_ValueError := He.free_ok X G (cd.fact 45 (f := .free "ValueError") rfl)
    g_HallError := He.glo_ok X G (cd.fact 46 (f := .glo "HallError") rfl)
    m_law := He.glo_ok X G (cd.fact 47 (f := .glo "law") rfl)
    t_law_told_0 := e0
    u_law_told_0 := e1
    o_BadText := oexIB_ok e2 (bb_BadText_init F_BadText_init)
    v_VE := veiB_ok e3
    r_HallError := crB_ok e4 }⟩
end K28

/-! k28: the grammar in plain Lean. -/
namespace K28
open PySem PySem.Spec L2 SL
def ch (l : List Nat) (p : Nat) : List Nat := (l.drop p).take 1
def runN (ok l : List Nat) : Nat → Nat → Nat
  | 0, p => p
  | k + 1, p => match l[p]? with
    | some c => if c ∈ ok then runN ok l k (p + 1) else p
    | none => p
def cutN (l : List Nat) (p e : Nat) : List Nat := (l.drop p).take (e - p)
abbrev Out := Nat × Option (List SL.D) × Int
def numV (ds : List Nat) : Int := (intText? ⟨ds.toArray⟩).getD 0
def pTimes (l : List Nat) (p : Nat) : Nat × Option Int :=
  if ch l p = [48] then (p + 1, some 0)
  else if runN s_FIGURES l 31 p = p then (p, none)
  else if 10 ^ 30 < numV (cutN l p (runN s_FIGURES l 31 p)) then (runN s_FIGURES l 31 p - 1, none)
  else (runN s_FIGURES l 31 p, some (numV (cutN l p (runN s_FIGURES l 31 p))))
def w_call : List Nat := [99, 97, 108, 108]
def w_turn : List Nat := [116, 117, 114, 110]
def w_row : List Nat := [114, 111, 119]
def w_times : List Nat := [116, 105, 109, 101, 115]
def w_steps : List Nat := [115, 116, 101, 112, 115]
def pStep (row : Nat → Int → Int → Out) (l : List Nat) (p : Nat) (m d : Int) : Out :=
  if ch l p = [46] ∧ m < 60 then (runN s_LETTERS l 12 (p + 1), some [.str w_call, .str (cutN l (p + 1) (runN s_LETTERS l 12 (p + 1)))], m + 1)
  else if ch l p = [126] ∧ m < 60 then (if runN s_LETTERS l 12 (p + 1) = p + 1 then (p + 1, none, m) else (runN s_LETTERS l 12 (p + 1), some [.str w_turn, .str (cutN l (p + 1) (runN s_LETTERS l 12 (p + 1)))], m + 1))
  else if ch l p = [60] ∧ m < 60 then (if runN s_SMALL l 8 (p + 1) = p + 1 ∨ ch l (runN s_SMALL l 8 (p + 1)) ≠ [62] then (runN s_SMALL l 8 (p + 1), none, m) else (runN s_SMALL l 8 (p + 1) + 1, some [.str w_row, .str (cutN l (p + 1) (runN s_SMALL l 8 (p + 1)))], m + 1))
  else if ch l p = [40] ∧ m < 60 ∧ d < 12 then (match row (p + 1) (m + 1) (d + 1) with
    | (e, none, m') => (e, none, m')
    | (e, some t, m') => if ch l e = [41] then (if ch l (e + 1) = [42] then (match pTimes l (e + 2) with
        | (e', none) => (e', none, m')
        | (e', some v) => (e', some [.str w_times, .int v, .tup t], m')) else (e + 1, none, m')) else (e, none, m'))
  else (p, none, m)
def pSteps (step : Nat → Int → Out) (l : List Nat) : Nat → Nat → Int → List SL.D → Out
  | 0, p, m, _ => (p, none, m)
  | k + 1, p, m, acc => match step p m with
    | (e, none, m') => (e, none, m')
    | (e, some t, m') => if ch l e = [32] then pSteps step l k (e + 1) m' (acc ++ [.tup t]) else (e, some [.str w_steps, .tup (acc ++ [.tup t])], m')
def pRow (l : List Nat) : Nat → Nat → Int → Int → Out
  | 0, p, m, _ => (p, none, m)
  | f + 1, p, m, d => if ch l p = [45] then (p + 1, some [.str w_steps, .tup []], m) else pSteps (fun p m => pStep (pRow l f) l p m d) l 62 p m []
def oD : Option (List SL.D) → SL.D
  | none => .non
  | some t => .tup t
/-! ### small facts -/
theorem ch_nil {l : List Nat} {p : Nat} (h : l[p]? = none) : ch l p = [] := by
  unfold ch
  rw [List.drop_of_length_le (List.getElem?_eq_none_iff.mp h)]
  rfl
theorem ch_some {l : List Nat} {p c : Nat} (h : l[p]? = some c) : ch l p = [c] := by
  obtain ⟨hl, e⟩ := List.getElem?_eq_some_iff.mp h
  unfold ch
  rw [List.drop_eq_getElem_cons hl, e]
  rfl
theorem ch_cut (l : List Nat) (p : Nat) : cutL l (some (p : Int)) (some ((p : Int) + 1)) = ch l p := by
  have := cut_nat l p (p + 1)
  rw [show ((p + 1 : Nat) : Int) = (p : Int) + 1 from rfl] at this
  rw [this]
  unfold ch
  congr 1
  omega
theorem run_ge (ok l : List Nat) : ∀ (k p : Nat), p ≤ runN ok l k p
  | 0, p => Nat.le_refl _
  | k + 1, p => by
    unfold runN
    split
    · split
      · exact Nat.le_trans (Nat.le_succ p) (run_ge ok l k (p + 1))
      · exact Nat.le_refl _
    · exact Nat.le_refl _
theorem run_le (ok l : List Nat) : ∀ (k p : Nat), runN ok l k p ≤ p + k
  | 0, p => Nat.le_refl _
  | k + 1, p => by
    unfold runN
    split
    · split
      · have := run_le ok l k (p + 1)
        omega
      · omega
    · omega
theorem run_len (ok l : List Nat) : ∀ (k p : Nat), p ≤ l.length → runN ok l k p ≤ l.length
  | 0, p, h => h
  | k + 1, p, h => by
    unfold runN
    split
    · rename_i c e
      have := (List.getElem?_eq_some_iff.mp e).1
      split
      · exact run_len ok l k (p + 1) this
      · exact h
    · exact h
theorem run_all (ok l : List Nat) : ∀ (k p i : Nat), p ≤ i → i < runN ok l k p → ∃ c, l[i]? = some c ∧ c ∈ ok
  | 0, p, i, h1, h2 => by simp only [runN] at h2; omega
  | k + 1, p, i, h1, h2 => by
    unfold runN at h2
    split at h2
    · rename_i c e
      split at h2
      · rename_i hc
        by_cases hi : i = p
        · subst hi
          exact ⟨c, e, hc⟩
        · exact run_all ok l k (p + 1) i (by omega) h2
      · omega
    · omega
theorem cut_all {ok l : List Nat} {k p c : Nat} (h : c ∈ cutN l p (runN ok l k p)) : c ∈ ok := by
  unfold cutN at h
  obtain ⟨j, hj, e⟩ := List.getElem_of_mem h
  have hj2 : j < runN ok l k p - p := by
    rw [List.length_take] at hj
    omega
  have e1 : ((l.drop p).take (runN ok l k p - p))[j]? = some c := by rw [List.getElem?_eq_getElem hj, e]
  rw [List.getElem?_take_of_lt hj2, List.getElem?_drop] at e1
  obtain ⟨c', e2, e3⟩ := run_all ok l k p (p + j) (by omega) (by omega)
  rw [e1] at e2
  cases e2
  exact e3
theorem cut_len {ok l : List Nat} {k p : Nat} (hp : p ≤ l.length) : (cutN l p (runN ok l k p)).length = runN ok l k p - p := by
  unfold cutN
  rw [List.length_take, List.length_drop]
  have := run_len ok l k p hp
  omega
/-- digits are a number -/
theorem num_some {l : List Nat} {p : Nat} (hp : p ≤ l.length) (hne : runN s_FIGURES l 31 p ≠ p) : intText? ⟨(cutN l p (runN s_FIGURES l 31 p)).toArray⟩ = some (numV (cutN l p (runN s_FIGURES l 31 p))) := by
  have hlen := cut_len (ok := s_FIGURES) (k := 31) hp
  have h1 := run_ge s_FIGURES l 31 p
  have h2 := run_le s_FIGURES l 31 p
  have hd : PySem.NumText.AllDigits (cutN l p (runN s_FIGURES l 31 p)) := by
    intro c hc
    have := cut_all hc
    simp only [s_FIGURES, List.mem_cons, List.not_mem_nil, or_false] at this
    omega
  have := intText_digits (x := ⟨(cutN l p (runN s_FIGURES l 31 p)).toArray⟩) (by simpa using hd) (by
    intro z
    have z' : (cutN l p (runN s_FIGURES l 31 p)) = [] := by simpa using z
    rw [z'] at hlen
    simp at hlen
    omega) (by
    rw [str_len]
    omega)
  rw [numV, this]
  rfl
end K28

/-! k28: what the law's own reading computes. -/
namespace K28
open PySem PySem.Spec L2 SL
theorem castS (p : Nat) : (p : Int) + 1 = ((p + 1 : Nat) : Int) := rfl
theorem while_step {nc : MB} {b : MS} {n : Nat} {δ δ2 : DEnv} {S S1 S2 : Store} {r : Flw} (h1 : nc δ S = .ok true S1) (h2 : b δ S1 = .nx δ2 S2) (h3 : whileN nc b n δ2 S2 = r) : whileN nc b (n + 1) δ S = r := by
  unfold whileN
  rw [h1]
  simp only [bindS_ok, if_true, h2]
  exact h3
theorem while_end {nc : MB} {b : MS} {n : Nat} {δ : DEnv} {S S1 : Store} (h1 : nc δ S = .ok false S1) : whileN nc b (n + 1) δ S = .nx δ S1 := by
  unfold whileN
  rw [h1]
  simp only [bindS_ok, Bool.false_eq_true, if_false]
noncomputable def runC : MB := andB (cmpB ltG (vM 4) (callG lenG (consM (vM 0) nilM))) (andB (cmpB ltG (op2M subG (vM 4) (vM 1)) (vM 3)) (cmpB inG (op2M ixG (vM 0) (vM 4)) (vM 2)))
noncomputable def runB : MS := asgM 4 (op2M addG (vM 4) (cM (.int 1)))
theorem run_while {l ok : List Nat} {p k : Nat} {S : Store} (hl : l.length ≤ 1000000) : ∀ (j e : Nat), p ≤ e → e - p + j = k →
    whileN runC runB (j + 1) [some (.str l), some (.int p), some (.str ok), some (.int k), some (.int e)] S = .nx [some (.str l), some (.int p), some (.str ok), some (.int k), some (.int (runN ok l j e))] S := by
  intro j
  induction j with
  | zero =>
    intro e h1 h2
    refine while_end ?_
    have hlen : lenG S [.str l] = some (.int l.length) := gLenS hl
    by_cases he : (e : Int) < l.length
    · have hk : ¬ ((e : Int) - p < k) := by omega
      simp only [runC, andB, cmpB, callG, consM, nilM, op2M, vM, hlen, gLtI, gSubI, asB, bind_ok, RO_some, he, hk, decide_true, decide_false, if_true, Bool.false_eq_true, if_false, List.getElem?_cons_zero, List.getElem?_cons_succ]
    · simp only [runC, andB, cmpB, callG, consM, nilM, op2M, vM, hlen, gLtI, gSubI, asB, bind_ok, RO_some, he, decide_true, decide_false, if_true, Bool.false_eq_true, if_false, List.getElem?_cons_zero, List.getElem?_cons_succ]
  | succ j ih =>
    intro e h1 h2
    have hlen : lenG S [.str l] = some (.int l.length) := gLenS hl
    unfold runN
    cases ec : l[e]? with
    | none =>
      have he : ¬ ((e : Int) < l.length) := by have := List.getElem?_eq_none_iff.mp ec; omega
      refine while_end ?_
      simp only [runC, andB, cmpB, callG, consM, nilM, op2M, vM, hlen, gLtI, gSubI, asB, bind_ok, RO_some, he, decide_true, decide_false, if_true, Bool.false_eq_true, if_false, List.getElem?_cons_zero, List.getElem?_cons_succ]
    | some c =>
      have he : ((e : Int) < l.length) := by have := (List.getElem?_eq_some_iff.mp ec).1; omega
      have hk : ((e : Int) - p < k) := by omega
      have hix := gIxS (S := S) hl ec
      by_cases hc : c ∈ ok
      · simp only [hc, if_true]
        refine while_step (S1 := S) (S2 := S) ?_ ?_ (ih (e + 1) (by omega) (by omega))
        · simp only [runC, andB, cmpB, callG, consM, nilM, op2M, vM, hlen, hix, gLtI, gSubI, gInC, asB, bind_ok, RO_some, he, hk, hc, decide_true, if_true, List.getElem?_cons_zero, List.getElem?_cons_succ]
        · rfl
      · simp only [hc, if_false]
        refine while_end ?_
        simp only [runC, andB, cmpB, callG, consM, nilM, op2M, vM, hlen, hix, gLtI, gSubI, gInC, asB, bind_ok, RO_some, he, hk, hc, decide_true, decide_false, if_true, List.getElem?_cons_zero, List.getElem?_cons_succ]
theorem law_run_ok {A : Ad} {l ok : List Nat} {p k : Nat} {S : Store} (hl : l.length ≤ 1000000) : φlaw_run A [.str l, .int p, .str ok, .int k] S = .ok (.int (runN ok l k p)) S := by
  have h := run_while (ok := ok) (p := p) (k := k) (S := S) hl k p (Nat.le_refl p) (by omega)
  have h2 := whileM_is (k + 1) h (by intro z; cases z)
  show finD S (m_law_run A [some (.str l), some (.int p), some (.str ok), some (.int k), none] S) = _
  have : m_law_run A [some (.str l), some (.int p), some (.str ok), some (.int k), none] S = .rt (.int (runN ok l k p)) S := by
    have e : m_law_run A = seqM (asgM 4 (vM 1)) (seqM (whileM runC runB) (retM (vM 4))) := rfl
    rw [e]
    have a1 : asgM 4 (vM 1) [some (.str l), some (.int p), some (.str ok), some (.int k), none] S = .nx [some (.str l), some (.int p), some (.str ok), some (.int k), some (.int p)] S := rfl
    rw [seqM, a1]
    simp only
    rw [seqM, h2]
    rfl
  rw [this]
  exact fin_cl (d := .int _) rfl rfl
/-! ### _law_times_at -/
def tOut : Nat × Option Int → SL.D
  | (e, some v) => .tup [.int e, .int v, .bl true]
  | (e, none) => .tup [.int e, .int 0, .bl false]
theorem gSl {S : Store} {l : List Nat} {p : Nat} (hl : l.length ≤ 1000000) : slG S (.str l) (some (p : Int)) (some ((p : Int) + 1)) = some (.str (ch l p)) := by
  rw [gSlS hl, ch_cut]
theorem gSl2 {S : Store} {l : List Nat} {p e : Nat} (hl : l.length ≤ 1000000) : slG S (.str l) (some (p : Int)) (some (e : Int)) = some (.str (cutN l p e)) := by
  rw [gSlS hl, cut_nat]
  rfl
theorem law_times_ok {A : Ad} {l : List Nat} {p : Nat} {S : Store} (hl : l.length ≤ 1000000) (hp : p ≤ l.length) : φlaw_times_at A [.str l, .int p] S = .ok (tOut (pTimes l p)) S := by
  show finD S (m_law_times_at A (φlaw_run A) [some (.str l), some (.int p), none] S) = _
  have hrun := law_run_ok (A := A) (ok := s_FIGURES) (p := p) (k := 31) (S := S) hl
  have hrun' : φlaw_run A [.str l, .int p, .str [48, 49, 50, 51, 52, 53, 54, 55, 56, 57], .int 31] S = .ok (.int (runN s_FIGURES l 31 p)) S := hrun
  have hsl := gSl (S := S) (p := p) hl
  have hge := run_ge s_FIGURES l 31 p
  have key : m_law_times_at A (φlaw_run A) [some (.str l), some (.int p), none] S = .rt (tOut (pTimes l p)) S := by
    unfold pTimes m_law_times_at
    by_cases h0 : ch l p = [48]
    · rw [if_pos h0]
      have t3 : tupG S [.int ((p : Int) + 1), .int 0, .bl true] = some (.tup [.int ((p : Int) + 1), .int 0, .bl true]) := rfl
      simp only [seqM, ifSM, cmpB, slM, soO, asI, callG, consM, nilM, op2M, retM, vM, cM, gAddI, hsl, gEqS, h0, asB, t3, bindS_ok, bind_ok, RO_some, decide_true, if_true, List.getElem?_cons_zero, List.getElem?_cons_succ]
      rfl
    · rw [if_neg h0]
      by_cases h1 : runN s_FIGURES l 31 p = p
      · rw [if_pos h1]
        have h1i : ((runN s_FIGURES l 31 p : Nat) : Int) = (p : Int) := by rw [h1]
        have t3 : tupG S [.int (p : Int), .int 0, .bl false] = some (.tup [.int (p : Int), .int 0, .bl false]) := rfl
        simp only [seqM, ifSM, cmpB, slM, soO, asI, callG, consM, nilM, op2M, retM, asgM, appM, nxM, vM, cM, gAddI, hsl, gEqS, gEqI, h0, h1i, hrun', asB, t3, bindS_ok, bind_ok, RO_some, decide_true, decide_false, if_true, Bool.false_eq_true, if_false, List.append_nil, List.length_cons, List.length_nil, Nat.reduceAdd, List.set_cons_zero, List.set_cons_succ, List.getElem?_cons_zero, List.getElem?_cons_succ]
        rfl
      · rw [if_neg h1]
        have h1i : ¬ ((runN s_FIGURES l 31 p : Nat) : Int) = (p : Int) := by omega
        have hsl2 := gSl2 (S := S) (p := p) (e := runN s_FIGURES l 31 p) hl
        have hnum := num_some hp h1
        have hlen31 := cut_len (ok := s_FIGURES) (k := 31) hp
        have hle := run_le s_FIGURES l 31 p
        have hint : intG S [.str (cutN l p (runN s_FIGURES l 31 p))] = some (.int (numV (cutN l p (runN s_FIGURES l 31 p)))) := by
          show (if (cutN l p (runN s_FIGURES l 31 p)).length ≤ 640 then (match PySem.intText? ⟨(cutN l p (runN s_FIGURES l 31 p)).toArray⟩ with | some n => some (SL.D.int n) | none => none) else none) = _
          rw [if_pos (by omega), hnum]
        have hpow : powG S (.int 10) (.int 30) = some (.int (10 ^ 30)) := gPow (by decide)
        by_cases h2 : (10 : Int) ^ 30 < numV (cutN l p (runN s_FIGURES l 31 p))
        · rw [if_pos h2]
          have t3 : tupG S [.int ((runN s_FIGURES l 31 p : Nat) - 1 : Int), .int 0, .bl false] = some (.tup [.int ((runN s_FIGURES l 31 p : Nat) - 1 : Int), .int 0, .bl false]) := rfl
          simp only [seqM, ifSM, cmpB, slM, soO, asI, callG, consM, nilM, op2M, retM, asgM, appM, nxM, vM, cM, gAddI, gSubI, hsl, hsl2, hint, hpow, gEqS, gEqI, gGtI, h0, h1i, h2, hrun', asB, t3, bindS_ok, bind_ok, RO_some, decide_true, decide_false, if_true, Bool.false_eq_true, if_false, List.append_nil, List.length_cons, List.length_nil, Nat.reduceAdd, List.set_cons_zero, List.set_cons_succ, List.getElem?_cons_zero, List.getElem?_cons_succ]
          show Flw.rt _ _ = Flw.rt (.tup [.int ((runN s_FIGURES l 31 p - 1 : Nat) : Int), .int 0, .bl false]) S
          rw [show ((runN s_FIGURES l 31 p - 1 : Nat) : Int) = (runN s_FIGURES l 31 p : Int) - 1 by omega]
        · rw [if_neg h2]
          have t3 : tupG S [.int (runN s_FIGURES l 31 p : Nat), .int (numV (cutN l p (runN s_FIGURES l 31 p))), .bl true] = some (.tup [.int (runN s_FIGURES l 31 p : Nat), .int (numV (cutN l p (runN s_FIGURES l 31 p))), .bl true]) := rfl
          simp only [seqM, ifSM, cmpB, slM, soO, asI, callG, consM, nilM, op2M, retM, asgM, appM, nxM, vM, cM, gAddI, gSubI, hsl, hsl2, hint, hpow, gEqS, gEqI, gGtI, h0, h1i, h2, hrun', asB, t3, bindS_ok, bind_ok, RO_some, decide_true, decide_false, if_true, Bool.false_eq_true, if_false, List.append_nil, List.length_cons, List.length_nil, Nat.reduceAdd, List.set_cons_zero, List.set_cons_succ, List.getElem?_cons_zero, List.getElem?_cons_succ]
          rfl
  rw [key]
  cases e : pTimes l p with
  | mk a b => exact rt_fin (by cases b <;> rfl)
end K28

/-! k28: what the law's own reading computes: a step, a row. -/
namespace K28
open PySem PySem.Spec L2 SL
theorem beq_str (x y : List Nat) : ((⟨x.toArray⟩ : Str) == ⟨y.toArray⟩) = decide (x = y) := by
  by_cases h : x = y
  · subst h
    simp
  · rw [decide_eq_false h]
    refine beq_eq_false_iff_ne.mpr fun z => h (str_inj.mp z)
theorem gNin4 {S : Store} {a x1 x2 x3 x4 : List Nat} : ninG S (.str a) (.tup [.str x1, .str x2, .str x3, .str x4]) = some (.bl (!(decide (x1 = a) || (decide (x2 = a) || (decide (x3 = a) || (decide (x4 = a) || false)))))) := by
  rw [← beq_str, ← beq_str, ← beq_str, ← beq_str]
  rfl
def rOut (o : Out) : SL.D := .tup [.int o.1, oD o.2.1, .int o.2.2]
def oOk (n : Nat) (o : Out) : Prop := ∀ t, o.2.1 = some t → pl n (.tup t)
theorem rOut_cl {n : Nat} {o : Out} (h : oOk n o) : okD 0 (rOut o) = true := by
  obtain ⟨e, t, m⟩ := o
  cases t with
  | none => rfl
  | some t =>
    have := pl_cl (h t rfl)
    simp [rOut, oD, okD, okL]
    simpa [okD] using this
theorem pStep_ok {n : Nat} {row : Nat → Int → Int → Out} {l : List Nat} {p : Nat} {m d : Int} (h : ∀ p m d, oOk (n + 1) (row p m d)) : oOk (n + 2) (pStep row l p m d) := by
  have s2 : ∀ a b : List Nat, pl (n + 2) (.tup [.str a, .str b]) := fun a b => ⟨by simp, fun d hd => by
    simp only [List.mem_cons, List.not_mem_nil, or_false] at hd
    rcases hd with rfl | rfl <;> trivial⟩
  unfold pStep
  intro t ht
  split at ht
  · cases ht; exact s2 _ _
  · split at ht
    · split at ht
      · cases ht
      · cases ht; exact s2 _ _
    · split at ht
      · split at ht
        · cases ht
        · cases ht; exact s2 _ _
      · split at ht
        · split at ht
          · cases ht
          · rename_i e t' m' er
            split at ht
            · split at ht
              · split at ht
                · cases ht
                · cases ht
                  have := h (p + 1) (m + 1) (d + 1) t' (by rw [er])
                  refine ⟨by simp, fun d hd => ?_⟩
                  simp only [List.mem_cons, List.not_mem_nil, or_false] at hd
                  rcases hd with rfl | rfl | rfl
                  · trivial
                  · trivial
                  · exact this
              · cases ht
            · cases ht
        · cases ht
theorem pSteps_ok {n : Nat} {step : Nat → Int → Out} {l : List Nat} (h : ∀ p m, oOk (n + 2) (step p m)) : ∀ (k p : Nat) (m : Int) (acc : List SL.D), acc.length + k ≤ 1000 → (∀ x ∈ acc, pl (n + 2) x) → oOk (n + 4) (pSteps step l k p m acc)
  | 0, p, m, acc, _, _ => fun t ht => by cases ht
  | k + 1, p, m, acc, hl, ha => fun t ht => by
    unfold pSteps at ht
    split at ht
    · cases ht
    · rename_i e t' m' es
      have h1 := h p m t' (by rw [es])
      have ha2 : ∀ x ∈ acc ++ [D.tup t'], pl (n + 2) x := fun x hx => by
        rcases List.mem_append.mp hx with hx | hx
        · exact ha x hx
        · rw [List.mem_singleton.mp hx]; exact h1
      split at ht
      · exact pSteps_ok h k _ _ _ (by simp; omega) ha2 t ht
      · cases ht
        refine ⟨by simp, fun d hd => ?_⟩
        simp only [List.mem_cons, List.not_mem_nil, or_false] at hd
        rcases hd with rfl | rfl
        · trivial
        · exact ⟨by simp; omega, ha2⟩
theorem pRow_ok {l : List Nat} : ∀ (f p : Nat) (m d : Int), oOk (3 * f + 1) (pRow l f p m d)
  | 0, p, m, d => fun t ht => by cases ht
  | f + 1, p, m, d => fun t ht => by
    unfold pRow at ht
    split at ht
    · cases ht
      refine pl_up (n := 3) ?_ _ (by omega)
      refine ⟨by simp, fun d hd => ?_⟩
      simp only [List.mem_cons, List.not_mem_nil, or_false] at hd
      rcases hd with rfl | rfl
      · trivial
      · exact ⟨by simp, fun d hd => by cases hd⟩
    · have := pSteps_ok (n := 3 * f) (l := l) (step := fun p m => pStep (pRow l f) l p m d) (fun p m => pStep_ok fun p m d => pRow_ok f p m d) 62 p m [] (by simp) (fun x hx => by cases hx) t ht
      rwa [show 3 * (f + 1) + 1 = 3 * f + 4 by omega]
/-! ### the step -/
noncomputable def forB : MS := ifSM (andB (cmpB isntG (vM 7) (cM .non)) (cmpB eqG (slM (vM 0) (soO (vM 6)) (soO (op2M addG (vM 6) (cM (.int 1))))) (vM 8))) (asgM 6 (op2M addG (vM 6) (cM (.int 1)))) (retM (callG tupG (consM (vM 6) (consM (cM .non) (consM (vM 2) nilM)))))
noncomputable def tailS (φrow φtimes : Fn) : MS := (seqM (asgT (.tp [(.nm 6), (.nm 7), (.nm 2)]) (appM 4 φrow (consM (vM 0) (consM (op2M addG (vM 1) (cM (.int 1))) (consM (op2M addG (vM 2) (cM (.int 1))) (consM (op2M addG (vM 3) (cM (.int 1))) nilM)))) []))
  (seqM (SL.forM (srcV (cM (.str [41, 42]))) (.nm 8) forB)
  (seqM (asgT (.tp [(.nm 6), (.nm 9), (.nm 10)]) (appM 2 φtimes (consM (vM 0) (consM (vM 6) nilM)) []))
  (retM (callG tupG (consM (vM 6) (consM (ifM (trM (vM 10)) (callG tupG (consM (cM (.str [116, 105, 109, 101, 115])) (consM (vM 9) (consM (vM 7) nilM)))) (cM .non)) (consM (vM 2) nilM))))))))
noncomputable def headS (φl φr : Fn) (t : MS) : MS := (seqM (asgM 4 (op2M addG (appM 0 φl nilM []) (mtS upperG (appM 0 φl nilM []) nilM)))
  (seqM (asgM 5 (slM (vM 0) (soO (vM 1)) (soO (op2M addG (vM 1) (cM (.int 1))))))
  (seqM (ifSM (orB (cmpB ninG (vM 5) (callG tupG (consM (cM (.str [46])) (consM (cM (.str [126])) (consM (cM (.str [60])) (consM (cM (.str [40])) nilM)))))) (orB (cmpB geG (vM 2) (cM (.int 60))) (andB (cmpB eqG (vM 5) (cM (.str [40]))) (cmpB geG (vM 3) (cM (.int 12)))))) (retM (callG tupG (consM (vM 1) (consM (cM .non) (consM (vM 2) nilM))))) nxM)
  (seqM (ifSM (orB (cmpB eqG (vM 5) (cM (.str [46]))) (cmpB eqG (vM 5) (cM (.str [126])))) (seqM (asgM 6 (appM 4 φr (consM (vM 0) (consM (op2M addG (vM 1) (cM (.int 1))) (consM (vM 4) (consM (cM (.int 12)) nilM)))) []))
  (seqM (ifSM (andB (cmpB eqG (vM 5) (cM (.str [126]))) (cmpB eqG (vM 6) (op2M addG (vM 1) (cM (.int 1))))) (retM (callG tupG (consM (vM 6) (consM (cM .non) (consM (vM 2) nilM))))) nxM)
  (retM (callG tupG (consM (vM 6) (consM (callG tupG (consM (op2M ixG (callG lstG (consM (cM (.str [99, 97, 108, 108])) (consM (cM (.str [116, 117, 114, 110])) nilM))) (callG intG (consM (op2M eqG (vM 5) (cM (.str [126]))) nilM))) (consM (slM (vM 0) (soO (op2M addG (vM 1) (cM (.int 1)))) (soO (vM 6))) nilM))) (consM (op2M addG (vM 2) (cM (.int 1))) nilM))))))) nxM)
  (seqM (ifSM (cmpB eqG (vM 5) (cM (.str [60]))) (seqM (asgM 6 (appM 4 φr (consM (vM 0) (consM (op2M addG (vM 1) (cM (.int 1))) (consM (appM 0 φl nilM []) (consM (cM (.int 8)) nilM)))) []))
  (seqM (ifSM (orB (cmpB eqG (vM 6) (op2M addG (vM 1) (cM (.int 1)))) (cmpB neG (slM (vM 0) (soO (vM 6)) (soO (op2M addG (vM 6) (cM (.int 1))))) (cM (.str [62])))) (retM (callG tupG (consM (vM 6) (consM (cM .non) (consM (vM 2) nilM))))) nxM)
  (retM (callG tupG (consM (op2M addG (vM 6) (cM (.int 1))) (consM (callG tupG (consM (cM (.str [114, 111, 119])) (consM (slM (vM 0) (soO (op2M addG (vM 1) (cM (.int 1)))) (soO (vM 6))) nilM))) (consM (op2M addG (vM 2) (cM (.int 1))) nilM))))))) nxM)
  t)))))
theorem ch_at {l : List Nat} {p c : Nat} (h : ch l p = [c]) : p < l.length := by
  cases e : l[p]? with
  | none => rw [ch_nil e] at h; cases h
  | some _ => exact (List.getElem?_eq_some_iff.mp e).1
theorem lets_up : ∀ S : Store, addG S (.str s_SMALL) (.str (s_SMALL.map upL)) = some (.str s_LETTERS) := fun S => rfl
theorem letters_ok {A : Ad} {S : Store} : φlaw_letters A [] S = .ok (.str s_SMALL) S := fin_cl (d := .str _) rfl rfl
theorem upper_ok {S : Store} : upperG S (.str s_SMALL) [] = some (.str (s_SMALL.map upL)) := rfl
def pTail (o : Out) (l : List Nat) : Out := match o with
    | (e, none, m') => (e, none, m')
    | (e, some t, m') => if ch l e = [41] then (if ch l (e + 1) = [42] then (match pTimes l (e + 2) with
        | (e', none) => (e', none, m')
        | (e', some v) => (e', some [.str w_times, .int v, .tup t], m')) else (e + 1, none, m')) else (e, none, m')
theorem tail_ok {A : Ad} {φrow : Fn} {o : Out} {l : List Nat} {p : Nat} {m d : Int} {S : Store} {x4 x5 : Option SL.D} (hl : l.length ≤ 1000000) (hr : φrow [.str l, .int ((p + 1 : Nat) : Int), .int (m + 1), .int (d + 1)] S = .ok (rOut o) S) :
    tailS φrow (φlaw_times_at A) [some (.str l), some (.int p), some (.int m), some (.int d), x4, x5, none, none, none, none, none] S = .rt (rOut (pTail o l)) S := by
  have in0 : isntG S .non .non = some (.bl false) := rfl
  have in1 : ∀ t : List SL.D, isntG S (.tup t) .non = some (.bl true) := fun t => rfl
  have t3 : ∀ a b c : SL.D, tupG S [a, b, c] = some (.tup [a, b, c]) := fun a b c => rfl
  have it : items S (.vals (.str [41, 42])) = some [.str [41], .str [42]] := rfl
  have hsrc : ∀ δ : DEnv, srcV (cM (.str [41, 42])) δ S = .ok (.vals (.str [41, 42])) S := fun δ => rfl
  obtain ⟨e, t, m'⟩ := o
  unfold tailS
  have h1 : asgT (.tp [(.nm 6), (.nm 7), (.nm 2)]) (appM 4 φrow (consM (vM 0) (consM (op2M addG (vM 1) (cM (.int 1))) (consM (op2M addG (vM 2) (cM (.int 1))) (consM (op2M addG (vM 3) (cM (.int 1))) nilM)))) []) [some (.str l), some (.int p), some (.int m), some (.int d), x4, x5, none, none, none, none, none] S =
      .nx [some (.str l), some (.int p), some (.int m'), some (.int d), x4, x5, some (.int e), some (oD t), none, none, none] S := by
    refine asgT_ok (d := rOut (e, t, m')) ?_ rfl
    simp only [appM, consM, nilM, op2M, vM, cM, gAddI, bind_ok, RO_some, List.append_nil, List.length_cons, List.length_nil, Nat.reduceAdd, if_true, List.getElem?_cons_zero, List.getElem?_cons_succ, castS, hr]
  rw [seq_nx h1]
  cases t with
  | none =>
    have hb : forB ([some (.str l), some (.int p), some (.int m'), some (.int d), x4, x5, some (.int e), some .non, some (.str [41]), none, none]) S = .rt (.tup [.int e, .non, .int m']) S := by
      unfold forB
      simp only [ifSM, andB, cmpB, slM, soO, asI, op2M, retM, asgM, callG, consM, nilM, vM, cM, in0, in1, t3, gAddI, gEqS, asB, bindS_ok, bind_ok, RO_some, decide_true, decide_false, if_true, Bool.false_eq_true, if_false, List.set_cons_zero, List.set_cons_succ, List.getElem?_cons_zero, List.getElem?_cons_succ, castS]
    refine seq_rt ?_
    rw [forM_is (hsrc _) it]
    exact forL_rt it rfl hb
  | some t =>
    have hsl2 : slG S (.str l) (some (e : Int)) (some ((e + 1 : Nat) : Int)) = some (.str (ch l e)) := gSl (S := S) (p := e) hl
    have hsl3 : slG S (.str l) (some ((e + 1 : Nat) : Int)) (some ((e + 1 + 1 : Nat) : Int)) = some (.str (ch l (e + 1))) := gSl (S := S) (p := e + 1) hl
    unfold pTail
    by_cases k1 : ch l e = [41]
    · have hb1 : forB ([some (.str l), some (.int p), some (.int m'), some (.int d), x4, x5, some (.int e), some (.tup t), some (.str [41]), none, none]) S = .nx [some (.str l), some (.int p), some (.int m'), some (.int d), x4, x5, some (.int ((e + 1 : Nat) : Int)), some (.tup t), some (.str [41]), none, none] S := by
        unfold forB
        simp only [ifSM, andB, cmpB, slM, soO, asI, op2M, retM, asgM, callG, consM, nilM, vM, cM, in0, in1, t3, gAddI, gEqS, asB, bindS_ok, bind_ok, RO_some, decide_true, decide_false, if_true, Bool.false_eq_true, if_false, List.set_cons_zero, List.set_cons_succ, List.getElem?_cons_zero, List.getElem?_cons_succ, castS, hsl2, k1]
      by_cases k2 : ch l (e + 1) = [42]
      · have hb2 : forB ([some (.str l), some (.int p), some (.int m'), some (.int d), x4, x5, some (.int ((e + 1 : Nat) : Int)), some (.tup t), some (.str [42]), none, none]) S = .nx [some (.str l), some (.int p), some (.int m'), some (.int d), x4, x5, some (.int ((e + 1 + 1 : Nat) : Int)), some (.tup t), some (.str [42]), none, none] S := by
          unfold forB
          simp only [ifSM, andB, cmpB, slM, soO, asI, op2M, retM, asgM, callG, consM, nilM, vM, cM, in0, in1, t3, gAddI, gEqS, asB, bindS_ok, bind_ok, RO_some, decide_true, decide_false, if_true, Bool.false_eq_true, if_false, List.set_cons_zero, List.set_cons_succ, List.getElem?_cons_zero, List.getElem?_cons_succ, castS, hsl3, k2]
        simp only [k1, k2, if_true]
        have hf : SL.forM (srcV (cM (.str [41, 42]))) (.nm 8) forB [some (.str l), some (.int p), some (.int m'), some (.int d), x4, x5, some (.int e), some (.tup t), none, none, none] S = .nx [some (.str l), some (.int p), some (.int m'), some (.int d), x4, x5, some (.int ((e + 1 + 1 : Nat) : Int)), some (.tup t), some (.str [42]), none, none] S := by
          rw [forM_is (hsrc _) it, forL_nx it rfl hb1, forL_nx it rfl hb2, forL_nil it]
        show seqM _ _ [some (.str l), some (.int p), some (.int m'), some (.int d), x4, x5, some (.int e), some (.tup t), none, none, none] S = _
        rw [seq_nx hf]
        have ht := law_times_ok (A := A) (S := S) (p := e + 1 + 1) hl (ch_at k2)
        show _ = Flw.rt (rOut (match pTimes l (e + 1 + 1) with
          | (e', none) => (e', none, m')
          | (e', some v) => (e', some [.str w_times, .int v, .tup t], m'))) S
        generalize pTimes l (e + 1 + 1) = o2 at ht ⊢
        obtain ⟨e2, v⟩ := o2
        cases v with
        | none =>
          have h2 : asgT (.tp [(.nm 6), (.nm 9), (.nm 10)]) (appM 2 (φlaw_times_at A) (consM (vM 0) (consM (vM 6) nilM)) []) [some (.str l), some (.int p), some (.int m'), some (.int d), x4, x5, some (.int ((e + 1 + 1 : Nat) : Int)), some (.tup t), some (.str [42]), none, none] S =
              .nx [some (.str l), some (.int p), some (.int m'), some (.int d), x4, x5, some (.int e2), some (.tup t), some (.str [42]), some (.int 0), some (.bl false)] S := by
            refine asgT_ok (d := tOut (e2, none)) ?_ rfl
            simp only [appM, consM, nilM, vM, bind_ok, List.append_nil, List.length_cons, List.length_nil, Nat.reduceAdd, if_true, List.getElem?_cons_zero, List.getElem?_cons_succ, ht]
          rw [seq_nx h2]
          rfl
        | some v =>
          have h2 : asgT (.tp [(.nm 6), (.nm 9), (.nm 10)]) (appM 2 (φlaw_times_at A) (consM (vM 0) (consM (vM 6) nilM)) []) [some (.str l), some (.int p), some (.int m'), some (.int d), x4, x5, some (.int ((e + 1 + 1 : Nat) : Int)), some (.tup t), some (.str [42]), none, none] S =
              .nx [some (.str l), some (.int p), some (.int m'), some (.int d), x4, x5, some (.int e2), some (.tup t), some (.str [42]), some (.int v), some (.bl true)] S := by
            refine asgT_ok (d := tOut (e2, some v)) ?_ rfl
            simp only [appM, consM, nilM, vM, bind_ok, List.append_nil, List.length_cons, List.length_nil, Nat.reduceAdd, if_true, List.getElem?_cons_zero, List.getElem?_cons_succ, ht]
          rw [seq_nx h2]
          rfl
      · have hb2 : forB ([some (.str l), some (.int p), some (.int m'), some (.int d), x4, x5, some (.int ((e + 1 : Nat) : Int)), some (.tup t), some (.str [42]), none, none]) S = .rt (.tup [.int ((e + 1 : Nat) : Int), .non, .int m']) S := by
          unfold forB
          simp only [ifSM, andB, cmpB, slM, soO, asI, op2M, retM, asgM, callG, consM, nilM, vM, cM, in0, in1, t3, gAddI, gEqS, asB, bindS_ok, bind_ok, RO_some, decide_true, decide_false, if_true, Bool.false_eq_true, if_false, List.set_cons_zero, List.set_cons_succ, List.getElem?_cons_zero, List.getElem?_cons_succ, castS, hsl3, k2]
        simp only [k1, k2, if_true, if_false]
        refine seq_rt ?_
        show SL.forM (srcV (cM (.str [41, 42]))) (.nm 8) forB [some (.str l), some (.int p), some (.int m'), some (.int d), x4, x5, some (.int e), some (.tup t), none, none, none] S = _
        rw [forM_is (hsrc _) it, forL_nx it rfl hb1]
        exact forL_rt it rfl hb2
    · have hb1 : forB ([some (.str l), some (.int p), some (.int m'), some (.int d), x4, x5, some (.int e), some (.tup t), some (.str [41]), none, none]) S = .rt (.tup [.int e, .non, .int m']) S := by
        unfold forB
        simp only [ifSM, andB, cmpB, slM, soO, asI, op2M, retM, asgM, callG, consM, nilM, vM, cM, in0, in1, t3, gAddI, gEqS, asB, bindS_ok, bind_ok, RO_some, decide_true, decide_false, if_true, Bool.false_eq_true, if_false, List.set_cons_zero, List.set_cons_succ, List.getElem?_cons_zero, List.getElem?_cons_succ, castS, hsl2, k1]
      simp only [k1, if_false]
      refine seq_rt ?_
      show SL.forM (srcV (cM (.str [41, 42]))) (.nm 8) forB [some (.str l), some (.int p), some (.int m'), some (.int d), x4, x5, some (.int e), some (.tup t), none, none, none] S = _
      rw [forM_is (hsrc _) it]
      exact forL_rt it rfl hb1
theorem step_ok {A : Ad} {φrow : Fn} {row : Nat → Int → Int → Out} {n : Nat} {l : List Nat} {p : Nat} {m d : Int} {S : Store} (hl : l.length ≤ 1000000) (hp : p ≤ l.length) (hok : ∀ p m d, oOk (n + 1) (row p m d))
    (hrow : d < 12 → ∀ p m, p ≤ l.length → φrow [.str l, .int (p : Nat), .int m, .int (d + 1)] S = .ok (rOut (row p m (d + 1))) S) :
    defM 11 (m_law_step_at A (φlaw_letters A) (φlaw_run A) φrow (φlaw_times_at A)) [.str l, .int p, .int m, .int d] S = .ok (rOut (pStep row l p m d)) S := by
  show finD S (m_law_step_at A (φlaw_letters A) (φlaw_run A) φrow (φlaw_times_at A) [some (.str l), some (.int p), some (.int m), some (.int d), none, none, none, none, none, none, none] S) = _
  have key : m_law_step_at A (φlaw_letters A) (φlaw_run A) φrow (φlaw_times_at A) [some (.str l), some (.int p), some (.int m), some (.int d), none, none, none, none, none, none, none] S = .rt (rOut (pStep row l p m d)) S := by
    have hs0 : isS (.str s_SMALL) = true := rfl
    have hsl := gSl (S := S) (p := p) hl
    have hslc : slG S (.str l) (some (p : Int)) (some ((p + 1 : Nat) : Int)) = some (.str (ch l p)) := hsl
    have t4 : tupG S [.str [46], .str [126], .str [60], .str [40]] = some (.tup [.str [46], .str [126], .str [60], .str [40]]) := rfl
    have t3 : ∀ a b c : SL.D, tupG S [a, b, c] = some (.tup [a, b, c]) := fun a b c => rfl
    have t2 : ∀ a b : SL.D, tupG S [a, b] = some (.tup [a, b]) := fun a b => rfl
    have hdef : m_law_step_at A (φlaw_letters A) (φlaw_run A) φrow (φlaw_times_at A) = headS (φlaw_letters A) (φlaw_run A) (tailS φrow (φlaw_times_at A)) := rfl
    rw [hdef]
    unfold pStep headS
    have l2 : lstG S [.str [99, 97, 108, 108], .str [116, 117, 114, 110]] = some (.lst [.str [99, 97, 108, 108], .str [116, 117, 114, 110]]) := rfl
    have i0 : intG S [.bl false] = some (.int 0) := rfl
    have i1 : intG S [.bl true] = some (.int 1) := rfl
    have x0 : ixG S (.lst [.str [99, 97, 108, 108], .str [116, 117, 114, 110]]) (.int 0) = some (.str w_call) := rfl
    have x1 : ixG S (.lst [.str [99, 97, 108, 108], .str [116, 117, 114, 110]]) (.int 1) = some (.str w_turn) := rfl
    have ne : ∀ a b : Nat, a ≠ b → ¬ (([a] : List Nat) = [b]) := fun a b h z => h (List.cons.inj z).1
    by_cases hm : m < 60
    · have hm' : ¬ (60 : Int) ≤ m := by omega
      by_cases c1 : ch l p = [46]
      · rw [if_pos ⟨c1, hm⟩]
        have hrun : φlaw_run A [.str l, .int ((p + 1 : Nat) : Int), .str s_LETTERS, .int 12] S = .ok (.int (runN s_LETTERS l 12 (p + 1) : Nat)) S := law_run_ok (k := 12) hl
        have hsl2 := gSl2 (S := S) (p := p + 1) (e := runN s_LETTERS l 12 (p + 1)) hl
        simp only [seqM, ifSM, orB, andB, cmpB, slM, soO, asI, callG, consM, nilM, op2M, retM, asgM, appM, nxM, vM, cM, mtS, letters_ok, upper_ok, hs0, lets_up, hsl, hslc, t2, t3, t4, l2, i0, i1, x0, x1, gNin4, gAddI, gEqS, gEqI, gGeI, gNeS, asB, bindS_ok, bind_ok, RO_some, decide_true, decide_false, Bool.not_true, Bool.not_false, Bool.true_or, Bool.false_or, Bool.or_true, Bool.or_false, if_true, Bool.false_eq_true, if_false, List.append_nil, List.length_cons, List.length_nil, Nat.reduceAdd, List.set_cons_zero, List.set_cons_succ, List.getElem?_cons_zero, List.getElem?_cons_succ, castS, c1, hm', hrun, hsl2, ne 46 126 (by decide), ne 126 46 (by decide), ne 60 46 (by decide), ne 46 60 (by decide), ne 60 126 (by decide), ne 126 60 (by decide), ne 40 46 (by decide), ne 46 40 (by decide), ne 40 126 (by decide), ne 126 40 (by decide), ne 40 60 (by decide), ne 60 40 (by decide)]
        rfl
      · rw [if_neg (fun z => c1 z.1)]
        by_cases c2 : ch l p = [126]
        · rw [if_pos ⟨c2, hm⟩]
          have hrun : φlaw_run A [.str l, .int ((p + 1 : Nat) : Int), .str s_LETTERS, .int 12] S = .ok (.int (runN s_LETTERS l 12 (p + 1) : Nat)) S := law_run_ok (k := 12) hl
          have hsl2 := gSl2 (S := S) (p := p + 1) (e := runN s_LETTERS l 12 (p + 1)) hl
          by_cases h1 : runN s_LETTERS l 12 (p + 1) = p + 1
          · rw [if_pos h1]
            have h1i : ((runN s_LETTERS l 12 (p + 1) : Nat) : Int) = ((p + 1 : Nat) : Int) := by rw [h1]
            simp only [seqM, ifSM, orB, andB, cmpB, slM, soO, asI, callG, consM, nilM, op2M, retM, asgM, appM, nxM, vM, cM, mtS, letters_ok, upper_ok, hs0, lets_up, hsl, hslc, t2, t3, t4, l2, i0, i1, x0, x1, gNin4, gAddI, gEqS, gEqI, gGeI, gNeS, asB, bindS_ok, bind_ok, RO_some, decide_true, decide_false, Bool.not_true, Bool.not_false, Bool.true_or, Bool.false_or, Bool.or_true, Bool.or_false, if_true, Bool.false_eq_true, if_false, List.append_nil, List.length_cons, List.length_nil, Nat.reduceAdd, List.set_cons_zero, List.set_cons_succ, List.getElem?_cons_zero, List.getElem?_cons_succ, castS, c2, hm', hrun, hsl2, h1i, ne 46 126 (by decide), ne 126 46 (by decide), ne 60 46 (by decide), ne 46 60 (by decide), ne 60 126 (by decide), ne 126 60 (by decide), ne 40 46 (by decide), ne 46 40 (by decide), ne 40 126 (by decide), ne 126 40 (by decide), ne 40 60 (by decide), ne 60 40 (by decide)]
            rfl
          · rw [if_neg h1]
            have h1i : ¬ ((runN s_LETTERS l 12 (p + 1) : Nat) : Int) = ((p + 1 : Nat) : Int) := by omega
            simp only [seqM, ifSM, orB, andB, cmpB, slM, soO, asI, callG, consM, nilM, op2M, retM, asgM, appM, nxM, vM, cM, mtS, letters_ok, upper_ok, hs0, lets_up, hsl, hslc, t2, t3, t4, l2, i0, i1, x0, x1, gNin4, gAddI, gEqS, gEqI, gGeI, gNeS, asB, bindS_ok, bind_ok, RO_some, decide_true, decide_false, Bool.not_true, Bool.not_false, Bool.true_or, Bool.false_or, Bool.or_true, Bool.or_false, if_true, Bool.false_eq_true, if_false, List.append_nil, List.length_cons, List.length_nil, Nat.reduceAdd, List.set_cons_zero, List.set_cons_succ, List.getElem?_cons_zero, List.getElem?_cons_succ, castS, c2, hm', hrun, hsl2, h1i, ne 46 126 (by decide), ne 126 46 (by decide), ne 60 46 (by decide), ne 46 60 (by decide), ne 60 126 (by decide), ne 126 60 (by decide), ne 40 46 (by decide), ne 46 40 (by decide), ne 40 126 (by decide), ne 126 40 (by decide), ne 40 60 (by decide), ne 60 40 (by decide)]
            rfl
        · rw [if_neg (fun z => c2 z.1)]
          by_cases c3 : ch l p = [60]
          · rw [if_pos ⟨c3, hm⟩]
            have hrun : φlaw_run A [.str l, .int ((p + 1 : Nat) : Int), .str s_SMALL, .int 8] S = .ok (.int (runN s_SMALL l 8 (p + 1) : Nat)) S := law_run_ok (k := 8) hl
            have hsl2 := gSl2 (S := S) (p := p + 1) (e := runN s_SMALL l 8 (p + 1)) hl
            have hsl3 := gSl (S := S) (p := runN s_SMALL l 8 (p + 1)) hl
            by_cases h1 : runN s_SMALL l 8 (p + 1) = p + 1
            · rw [if_pos (.inl h1)]
              have h1i : ((runN s_SMALL l 8 (p + 1) : Nat) : Int) = ((p + 1 : Nat) : Int) := by rw [h1]
              simp only [seqM, ifSM, orB, andB, cmpB, slM, soO, asI, callG, consM, nilM, op2M, retM, asgM, appM, nxM, vM, cM, mtS, letters_ok, upper_ok, hs0, lets_up, hsl, hslc, t2, t3, t4, l2, i0, i1, x0, x1, gNin4, gAddI, gEqS, gEqI, gGeI, gNeS, asB, bindS_ok, bind_ok, RO_some, decide_true, decide_false, Bool.not_true, Bool.not_false, Bool.true_or, Bool.false_or, Bool.or_true, Bool.or_false, if_true, Bool.false_eq_true, if_false, List.append_nil, List.length_cons, List.length_nil, Nat.reduceAdd, List.set_cons_zero, List.set_cons_succ, List.getElem?_cons_zero, List.getElem?_cons_succ, castS, c3, hm', hrun, hsl2, h1i, ne 46 126 (by decide), ne 126 46 (by decide), ne 60 46 (by decide), ne 46 60 (by decide), ne 60 126 (by decide), ne 126 60 (by decide), ne 40 46 (by decide), ne 46 40 (by decide), ne 40 126 (by decide), ne 126 40 (by decide), ne 40 60 (by decide), ne 60 40 (by decide)]
              rw [← h1i]
              rfl
            · have h1i : ¬ ((runN s_SMALL l 8 (p + 1) : Nat) : Int) = ((p + 1 : Nat) : Int) := by omega
              by_cases h2 : ch l (runN s_SMALL l 8 (p + 1)) = [62]
              · rw [if_neg (fun z => z.elim h1 (fun z => z h2))]
                have hsl4 : slG S (.str l) (some ((runN s_SMALL l 8 (p + 1) : Nat) : Int)) (some ((runN s_SMALL l 8 (p + 1) + 1 : Nat) : Int)) = some (.str (ch l (runN s_SMALL l 8 (p + 1)))) := hsl3
                simp only [seqM, ifSM, orB, andB, cmpB, slM, soO, asI, callG, consM, nilM, op2M, retM, asgM, appM, nxM, vM, cM, mtS, letters_ok, upper_ok, hs0, lets_up, hsl, hslc, t2, t3, t4, l2, i0, i1, x0, x1, gNin4, gAddI, gEqS, gEqI, gGeI, gNeS, asB, bindS_ok, bind_ok, RO_some, decide_true, decide_false, Bool.not_true, Bool.not_false, Bool.true_or, Bool.false_or, Bool.or_true, Bool.or_false, if_true, Bool.false_eq_true, if_false, List.append_nil, List.length_cons, List.length_nil, Nat.reduceAdd, List.set_cons_zero, List.set_cons_succ, List.getElem?_cons_zero, List.getElem?_cons_succ, castS, c3, hm', hrun, hsl2, hsl4, h1i, h2, ne 46 126 (by decide), ne 126 46 (by decide), ne 60 46 (by decide), ne 46 60 (by decide), ne 60 126 (by decide), ne 126 60 (by decide), ne 40 46 (by decide), ne 46 40 (by decide), ne 40 126 (by decide), ne 126 40 (by decide), ne 40 60 (by decide), ne 60 40 (by decide)]
                rfl
              · rw [if_pos (.inr h2)]
                have hsl4 : slG S (.str l) (some ((runN s_SMALL l 8 (p + 1) : Nat) : Int)) (some ((runN s_SMALL l 8 (p + 1) + 1 : Nat) : Int)) = some (.str (ch l (runN s_SMALL l 8 (p + 1)))) := hsl3
                simp only [seqM, ifSM, orB, andB, cmpB, slM, soO, asI, callG, consM, nilM, op2M, retM, asgM, appM, nxM, vM, cM, mtS, letters_ok, upper_ok, hs0, lets_up, hsl, hslc, t2, t3, t4, l2, i0, i1, x0, x1, gNin4, gAddI, gEqS, gEqI, gGeI, gNeS, asB, bindS_ok, bind_ok, RO_some, decide_true, decide_false, Bool.not_true, Bool.not_false, Bool.true_or, Bool.false_or, Bool.or_true, Bool.or_false, if_true, Bool.false_eq_true, if_false, List.append_nil, List.length_cons, List.length_nil, Nat.reduceAdd, List.set_cons_zero, List.set_cons_succ, List.getElem?_cons_zero, List.getElem?_cons_succ, castS, c3, hm', hrun, hsl2, hsl4, h1i, h2, ne 46 126 (by decide), ne 126 46 (by decide), ne 60 46 (by decide), ne 46 60 (by decide), ne 60 126 (by decide), ne 126 60 (by decide), ne 40 46 (by decide), ne 46 40 (by decide), ne 40 126 (by decide), ne 126 40 (by decide), ne 40 60 (by decide), ne 60 40 (by decide)]
                rfl
          · rw [if_neg (fun z => c3 z.1)]
            by_cases c4 : ch l p = [40]
            · by_cases hd : d < 12
              · rw [if_pos ⟨c4, hm, hd⟩]
                have hd' : ¬ (12 : Int) ≤ d := by omega
                have hr := hrow hd (p + 1) (m + 1) (ch_at c4)
                simp only [seqM, ifSM, ifM, trM, orB, andB, cmpB, slM, soO, asI, callG, consM, nilM, op2M, retM, asgM, appM, nxM, vM, cM, mtS, letters_ok, upper_ok, hs0, lets_up, hsl, hslc, t2, t3, t4, gNin4, gAddI, gEqS, gEqI, gGeI, gNeS, asB, bindS_ok, bind_ok, RO_some, decide_true, decide_false, Bool.not_true, Bool.not_false, Bool.true_or, Bool.false_or, Bool.or_true, Bool.or_false, if_true, Bool.false_eq_true, if_false, List.append_nil, List.length_cons, List.length_nil, Nat.reduceAdd, List.set_cons_zero, List.set_cons_succ, List.getElem?_cons_zero, List.getElem?_cons_succ, castS, c4, hm', hd', ne 40 46 (by decide), ne 46 40 (by decide), ne 40 126 (by decide), ne 126 40 (by decide), ne 40 60 (by decide), ne 60 40 (by decide)]
                exact tail_ok hl hr
              · rw [if_neg (fun z => hd z.2.2)]
                have hd' : (12 : Int) ≤ d := by omega
                simp only [seqM, ifSM, orB, andB, cmpB, slM, soO, asI, callG, consM, nilM, op2M, retM, asgM, appM, nxM, vM, cM, mtS, letters_ok, upper_ok, hs0, lets_up, hsl, hslc, t2, t3, t4, l2, i0, i1, x0, x1, gNin4, gAddI, gEqS, gEqI, gGeI, gNeS, asB, bindS_ok, bind_ok, RO_some, decide_true, decide_false, Bool.not_true, Bool.not_false, Bool.true_or, Bool.false_or, Bool.or_true, Bool.or_false, if_true, Bool.false_eq_true, if_false, List.append_nil, List.length_cons, List.length_nil, Nat.reduceAdd, List.set_cons_zero, List.set_cons_succ, List.getElem?_cons_zero, List.getElem?_cons_succ, castS, c4, hm', hd', ne 46 126 (by decide), ne 126 46 (by decide), ne 60 46 (by decide), ne 46 60 (by decide), ne 60 126 (by decide), ne 126 60 (by decide), ne 40 46 (by decide), ne 46 40 (by decide), ne 40 126 (by decide), ne 126 40 (by decide), ne 40 60 (by decide), ne 60 40 (by decide)]
                rfl
            · rw [if_neg (fun z => c4 z.1)]
              have c1' : ¬ (([46] : List Nat) = ch l p) := fun z => c1 z.symm
              have c2' : ¬ (([126] : List Nat) = ch l p) := fun z => c2 z.symm
              have c3' : ¬ (([60] : List Nat) = ch l p) := fun z => c3 z.symm
              have c4' : ¬ (([40] : List Nat) = ch l p) := fun z => c4 z.symm
              simp only [seqM, ifSM, orB, andB, cmpB, slM, soO, asI, callG, consM, nilM, op2M, retM, asgM, appM, nxM, vM, cM, mtS, letters_ok, upper_ok, hs0, lets_up, hsl, hslc, t2, t3, t4, l2, i0, i1, x0, x1, gNin4, gAddI, gEqS, gEqI, gGeI, gNeS, asB, bindS_ok, bind_ok, RO_some, decide_true, decide_false, Bool.not_true, Bool.not_false, Bool.true_or, Bool.false_or, Bool.or_true, Bool.or_false, if_true, Bool.false_eq_true, if_false, List.append_nil, List.length_cons, List.length_nil, Nat.reduceAdd, List.set_cons_zero, List.set_cons_succ, List.getElem?_cons_zero, List.getElem?_cons_succ, castS, c1', c2', c3', c4', hm']
              rfl
    · have hm' : (60 : Int) ≤ m := by omega
      rw [if_neg (fun z => hm z.2), if_neg (fun z => hm z.2), if_neg (fun z => hm z.2), if_neg (fun z => hm z.2.1)]
      by_cases q : ninG S (.str (ch l p)) (.tup [.str [46], .str [126], .str [60], .str [40]]) = some (.bl true)
      · simp only [seqM, ifSM, orB, andB, cmpB, slM, soO, asI, callG, consM, nilM, op2M, retM, asgM, appM, nxM, vM, cM, mtS, letters_ok, upper_ok, hs0, lets_up, hsl, hslc, t2, t3, t4, l2, i0, i1, x0, x1, gAddI, gEqS, gEqI, gGeI, gNeS, asB, bindS_ok, bind_ok, RO_some, decide_true, decide_false, Bool.not_true, Bool.not_false, Bool.true_or, Bool.false_or, Bool.or_true, Bool.or_false, if_true, Bool.false_eq_true, if_false, List.append_nil, List.length_cons, List.length_nil, Nat.reduceAdd, List.set_cons_zero, List.set_cons_succ, List.getElem?_cons_zero, List.getElem?_cons_succ, castS, q, hm']
        rfl
      · have q' : ninG S (.str (ch l p)) (.tup [.str [46], .str [126], .str [60], .str [40]]) = some (.bl false) := by
          rw [gNin4] at q ⊢
          cases hh : (!(decide ([46] = ch l p) || (decide ([126] = ch l p) || (decide ([60] = ch l p) || (decide ([40] = ch l p) || false))))) with
          | true => rw [hh] at q; exact absurd rfl q
          | false => rfl
        simp only [seqM, ifSM, orB, andB, cmpB, slM, soO, asI, callG, consM, nilM, op2M, retM, asgM, appM, nxM, vM, cM, mtS, letters_ok, upper_ok, hs0, lets_up, hsl, hslc, t2, t3, t4, l2, i0, i1, x0, x1, gAddI, gEqS, gEqI, gGeI, gNeS, asB, bindS_ok, bind_ok, RO_some, decide_true, decide_false, Bool.not_true, Bool.not_false, Bool.true_or, Bool.false_or, Bool.or_true, Bool.or_false, if_true, Bool.false_eq_true, if_false, List.append_nil, List.length_cons, List.length_nil, Nat.reduceAdd, List.set_cons_zero, List.set_cons_succ, List.getElem?_cons_zero, List.getElem?_cons_succ, castS, q', hm']
        rfl
  rw [key]
  exact rt_fin (rOut_cl (pStep_ok hok))
end K28

/-! k28: what the law's own reading computes: a row. -/
namespace K28
open PySem PySem.Spec L2 SL
noncomputable def rowB (φstep : Fn) : MS := (seqM (asgT (.tp [(.nm 1), (.nm 6), (.nm 2)]) (appM 4 φstep (consM (vM 0) (consM (vM 1) (consM (vM 2) (consM (vM 3) nilM)))) []))
  (seqM (ifSM (cmpB isG (vM 6) (cM .non)) (retM (callG tupG (consM (vM 1) (consM (cM .non) (consM (vM 2) nilM))))) nxM)
  (seqM (exprM (lmM appendG (vM 4) (consM (vM 6) nilM)))
  (seqM (ifSM (cmpB neG (slM (vM 0) (soO (vM 1)) (soO (op2M addG (vM 1) (cM (.int 1))))) (cM (.str [32]))) (retM (callG tupG (consM (vM 1) (consM (callG tupG (consM (cM (.str [115, 116, 101, 112, 115])) (consM (callG tupleG (consM (vM 4) nilM)) nilM))) (consM (vM 2) nilM))))) nxM)
  (asgM 1 (op2M addG (vM 1) (cM (.int 1))))))))
noncomputable def rowE : MS := retM (callG tupG (consM (vM 1) (consM (cM .non) (consM (vM 2) nilM))))
noncomputable def rowH (t : MS) : MS := (seqM (ifSM (cmpB eqG (slM (vM 0) (soO (vM 1)) (soO (op2M addG (vM 1) (cM (.int 1))))) (cM (.str [45]))) (retM (callG tupG (consM (op2M addG (vM 1) (cM (.int 1))) (consM (callG tupG (consM (cM (.str [115, 116, 101, 112, 115])) (consM (callG tupG nilM) nilM))) (consM (vM 2) nilM))))) nxM)
  (seqM (asgM 4 (lstLM nilM)) t))
theorem mrow_eq (A : Ad) (φ : Fn) : m_law_row_at A φ = rowH (seqM (SL.forM (src1 (cM (.int 62))) (.nm 5) (rowB φ)) rowE) := rfl
theorem loc_at (S : Store) (acc : List SL.D) : (S ++ [Cell.lst acc])[S.length]? = some (.lst acc) := by simp
theorem set_at (S : Store) (acc acc' : List SL.D) : (S ++ [Cell.lst acc]).set S.length (.lst acc') = S ++ [Cell.lst acc'] := by
  rw [List.set_append_right _ _ (Nat.le_refl _)]
  simp
abbrev rng62 : List SL.D := (List.range 62).map fun (i : Nat) => SL.D.int (0 + (i : Int) * 1)
theorem row_loop {φstep : Fn} {step : Nat → Int → Out} {l : List Nat} {d : Int} {S : Store} (hl : l.length ≤ 1000000)
    (hstep : ∀ p m S, p ≤ l.length → φstep [.str l, .int (p : Nat), .int m, .int d] S = .ok (rOut (step p m)) S) : ∀ (r : List SL.D) (p : Nat) (m : Int) (acc : List SL.D) (x5 x6 : Option SL.D), p ≤ l.length → acc.length + r.length ≤ 62 →
    ∃ acc', (match forL (.rng 0 1 62) (.nm 5) (rowB φstep) rng62 r [some (.str l), some (.int p), some (.int m), some (.int d), some (.loc S.length), x5, x6] (S ++ [.lst acc]) with
      | .nx δ' S' => rowE δ' S'
      | o => o) = .rt (rOut (pSteps step l r.length p m acc)) (S ++ [.lst acc']) := by
  have hit : ∀ S : Store, items S (.rng 0 1 62) = some rng62 := fun S => rfl
  have t3 : ∀ (S : Store) (a b c : SL.D), tupG S [a, b, c] = some (.tup [a, b, c]) := fun S a b c => rfl
  have t2 : ∀ (S : Store) (a b : SL.D), tupG S [a, b] = some (.tup [a, b]) := fun S a b => rfl
  intro r
  induction r with
  | nil =>
    intro p m acc x5 x6 hp ha
    refine ⟨acc, ?_⟩
    rw [forL_nil (hit _)]
    rfl
  | cons x r ih =>
    intro p m acc x5 x6 hp ha
    have ha' : acc.length + 1 + r.length ≤ 62 := by simp at ha; omega
    have hs := hstep p m (S ++ [.lst acc]) hp
    have h1 : asgT (.tp [(.nm 1), (.nm 6), (.nm 2)]) (appM 4 φstep (consM (vM 0) (consM (vM 1) (consM (vM 2) (consM (vM 3) nilM)))) []) [some (.str l), some (.int p), some (.int m), some (.int d), some (.loc S.length), some x, x6] (S ++ [.lst acc]) =
        .nx [some (.str l), some (.int (step p m).1), some (.int (step p m).2.2), some (.int d), some (.loc S.length), some x, some (oD (step p m).2.1)] (S ++ [.lst acc]) := by
      refine asgT_ok (d := rOut (step p m)) ?_ rfl
      simp only [appM, consM, nilM, vM, bind_ok, List.append_nil, List.length_cons, List.length_nil, Nat.reduceAdd, if_true, List.getElem?_cons_zero, List.getElem?_cons_succ, hs]
    show ∃ acc', _ = Flw.rt (rOut (pSteps step l (r.length + 1) p m acc)) (S ++ [.lst acc'])
    unfold pSteps
    generalize step p m = o at h1 ⊢
    obtain ⟨e, t, m'⟩ := o
    cases t with
    | none =>
      refine ⟨acc, ?_⟩
      have hb : rowB φstep [some (.str l), some (.int p), some (.int m), some (.int d), some (.loc S.length), some x, x6] (S ++ [.lst acc]) = .rt (rOut (e, none, m')) (S ++ [.lst acc]) := by
        unfold rowB
        rw [seq_nx h1]
        refine seq_rt ?_
        rw [if_t (S1 := S ++ [.lst acc]) rfl]
        rfl
      rw [forL_rt (hit _) rfl hb]
    | some t =>
      have h2 : (lmM appendG (vM 4) (consM (vM 6) nilM)) [some (.str l), some (.int e), some (.int m'), some (.int d), some (.loc S.length), some x, some (.tup t)] (S ++ [.lst acc]) = .ok .non (S ++ [.lst (acc ++ [.tup t])]) := by
        have e1 : locL (S ++ [.lst acc]) (.loc S.length) = some (S.length, acc) := by
          show (match (S ++ [Cell.lst acc])[S.length]? with | some (.lst ds) => some (S.length, ds) | _ => none) = _
          rw [loc_at]
        have e2 : appendG acc [.tup t] = some (.non, acc ++ [.tup t]) := if_pos (by omega)
        simp only [lmM, consM, nilM, vM, bind_ok, e1, e2, set_at, List.getElem?_cons_zero, List.getElem?_cons_succ]
      have hsl : slG (S ++ [.lst (acc ++ [.tup t])]) (.str l) (some (e : Int)) (some ((e : Int) + 1)) = some (.str (ch l e)) := gSl hl
      have htp : tupleG (S ++ [.lst (acc ++ [.tup t])]) [.loc S.length] = some (.tup (acc ++ [.tup t])) := by
        show (match (match (S ++ [Cell.lst (acc ++ [.tup t])])[S.length]? with | some (.lst ds) => some ds | _ => none) with | some ds => some (SL.D.tup ds) | none => none) = _
        rw [loc_at]
      have hb : rowB φstep [some (.str l), some (.int p), some (.int m), some (.int d), some (.loc S.length), some x, x6] (S ++ [.lst acc]) =
          if ch l e = [32] then .nx [some (.str l), some (.int ((e + 1 : Nat) : Int)), some (.int m'), some (.int d), some (.loc S.length), some x, some (.tup t)] (S ++ [.lst (acc ++ [.tup t])])
          else .rt (rOut (e, some [.str w_steps, .tup (acc ++ [.tup t])], m')) (S ++ [.lst (acc ++ [.tup t])]) := by
        unfold rowB
        rw [seq_nx h1]
        have h3 : ifSM (cmpB isG (vM 6) (cM .non)) (retM (callG tupG (consM (vM 1) (consM (cM .non) (consM (vM 2) nilM))))) nxM [some (.str l), some (.int e), some (.int m'), some (.int d), some (.loc S.length), some x, some (.tup t)] (S ++ [.lst acc]) = .nx [some (.str l), some (.int e), some (.int m'), some (.int d), some (.loc S.length), some x, some (.tup t)] (S ++ [.lst acc]) := by
          rw [if_f (S1 := S ++ [.lst acc]) rfl]
          rfl
        have h3' : ifSM (cmpB isG (vM 6) (cM .non)) (retM (callG tupG (consM (vM 1) (consM (cM .non) (consM (vM 2) nilM))))) nxM [some (.str l), some (.int (e, some t, m').1), some (.int (e, some t, m').2.2), some (.int d), some (.loc S.length), some x, some (oD (e, some t, m').2.1)] (S ++ [.lst acc]) = .nx [some (.str l), some (.int e), some (.int m'), some (.int d), some (.loc S.length), some x, some (.tup t)] (S ++ [.lst acc]) := h3
        rw [seq_nx h3', seq_nx (expr_ok h2)]
        by_cases k : ch l e = [32]
        · rw [if_pos k]
          have hk : (cmpB neG (slM (vM 0) (soO (vM 1)) (soO (op2M addG (vM 1) (cM (.int 1))))) (cM (.str [32]))) [some (.str l), some (.int e), some (.int m'), some (.int d), some (.loc S.length), some x, some (.tup t)] (S ++ [.lst (acc ++ [.tup t])]) = .ok false (S ++ [.lst (acc ++ [.tup t])]) := by
            simp only [cmpB, slM, soO, asI, op2M, vM, cM, gAddI, hsl, gNeS, k, asB, bind_ok, RO_some, decide_true, Bool.not_true, List.getElem?_cons_zero, List.getElem?_cons_succ]
          rw [seq_nx (if_fnx hk)]
          rfl
        · rw [if_neg k]
          have hk : (cmpB neG (slM (vM 0) (soO (vM 1)) (soO (op2M addG (vM 1) (cM (.int 1))))) (cM (.str [32]))) [some (.str l), some (.int e), some (.int m'), some (.int d), some (.loc S.length), some x, some (.tup t)] (S ++ [.lst (acc ++ [.tup t])]) = .ok true (S ++ [.lst (acc ++ [.tup t])]) := by
            simp only [cmpB, slM, soO, asI, op2M, vM, cM, gAddI, hsl, gNeS, k, asB, bind_ok, RO_some, decide_false, Bool.not_false, List.getElem?_cons_zero, List.getElem?_cons_succ]
          refine seq_rt ((if_t hk).trans (ret_ok ?_))
          simp only [callG, consM, nilM, vM, cM, bind_ok, RO_some, htp, t2, t3, List.getElem?_cons_zero, List.getElem?_cons_succ]
          rfl
      by_cases k : ch l e = [32]
      · rw [if_pos k] at hb
        obtain ⟨acc', hi⟩ := ih (e + 1) m' (acc ++ [.tup t]) (some x) (some (.tup t)) (ch_at k) (by simp; omega)
        refine ⟨acc', ?_⟩
        rw [forL_nx (hit _) rfl hb, hi]
        simp only [k, if_true]
      · rw [if_neg k] at hb
        refine ⟨acc ++ [.tup t], ?_⟩
        rw [forL_rt (hit _) rfl hb]
        simp only [k, if_false]
theorem row_ok {A : Ad} {φstep : Fn} {step : Nat → Int → Out} {l : List Nat} {p : Nat} {m d : Int} {S : Store} {o : Out} {n : Nat} (hl : l.length ≤ 1000000) (hp : p ≤ l.length)
    (hstep : ∀ p m S, p ≤ l.length → φstep [.str l, .int (p : Nat), .int m, .int d] S = .ok (rOut (step p m)) S)
    (ho : o = if ch l p = [45] then (p + 1, some [.str w_steps, .tup []], m) else pSteps step l 62 p m []) (hcl : oOk n o) : defM 7 (m_law_row_at A φstep) [.str l, .int p, .int m, .int d] S = .ok (rOut o) S := by
  show finD S (m_law_row_at A φstep [some (.str l), some (.int p), some (.int m), some (.int d), none, none, none] S) = _
  rw [mrow_eq]
  have hsl : slG S (.str l) (some (p : Int)) (some ((p : Int) + 1)) = some (.str (ch l p)) := gSl hl
  have hc : ∀ b, decide (ch l p = [45]) = b → (cmpB eqG (slM (vM 0) (soO (vM 1)) (soO (op2M addG (vM 1) (cM (.int 1))))) (cM (.str [45]))) [some (.str l), some (.int p), some (.int m), some (.int d), none, none, none] S = .ok b S := fun b hb => by
    simp only [cmpB, slM, soO, asI, op2M, vM, cM, gAddI, hsl, gEqS, hb, asB, bind_ok, RO_some, List.getElem?_cons_zero, List.getElem?_cons_succ]
  by_cases k : ch l p = [45]
  · rw [if_pos k] at ho
    subst ho
    have : rowH (seqM (SL.forM (src1 (cM (.int 62))) (.nm 5) (rowB φstep)) rowE) [some (.str l), some (.int p), some (.int m), some (.int d), none, none, none] S = .rt (rOut (p + 1, some [.str w_steps, .tup []], m)) S := by
      unfold rowH
      refine seq_rt ((if_t (hc true (decide_eq_true k))).trans ?_)
      rfl
    rw [this]
    exact rt_fin (rOut_cl hcl)
  · rw [if_neg k] at ho
    subst ho
    obtain ⟨acc', h⟩ := row_loop (S := S) hl hstep rng62 p m [] none none hp (by simp)
    have : rowH (seqM (SL.forM (src1 (cM (.int 62))) (.nm 5) (rowB φstep)) rowE) [some (.str l), some (.int p), some (.int m), some (.int d), none, none, none] S = .rt (rOut (pSteps step l 62 p m [])) (S ++ [.lst acc']) := by
      unfold rowH
      rw [seq_nx (if_fnx (hc false (decide_eq_false k)))]
      have h4 : asgM 4 (lstLM nilM) [some (.str l), some (.int p), some (.int m), some (.int d), none, none, none] S = .nx [some (.str l), some (.int p), some (.int m), some (.int d), some (.loc S.length), none, none] (S ++ [.lst []]) := rfl
      rw [seq_nx h4, seqM]
      have hm : src1 (cM (.int 62)) [some (.str l), some (.int p), some (.int m), some (.int d), some (.loc S.length), none, none] (S ++ [.lst []]) = .ok (.rng 0 1 62) (S ++ [.lst []]) := rfl
      rw [forM_is hm (show items (S ++ [.lst []]) (.rng 0 1 62) = some rng62 from rfl)]
      have h' : rng62.length = 62 := rfl
      rw [h'] at h
      exact h
    rw [this]
    exact fin_cut (fz_cl (rOut_cl hcl)) rfl Settles.same
theorem law_row_ok {A : Ad} {l : List Nat} (hl : l.length ≤ 1000000) : ∀ (f n p : Nat) (m d : Int) (S : Store), 1 ≤ f → d + f = 13 → 2 * f ≤ n → p ≤ l.length → (grp_law_step_at_law_row_at A n).2 [.str l, .int p, .int m, .int d] S = .ok (rOut (pRow l f p m d)) S := by
  intro f
  induction f with
  | zero => intro n p m d S h; omega
  | succ f ih =>
    intro n p m d S _ hd hn hp
    obtain ⟨n, rfl⟩ : ∃ j, n = j + 2 := ⟨n - 2, by omega⟩
    have hok := pRow_ok (l := l) (f + 1) p m d
    refine row_ok (step := fun p m => pStep (pRow l f) l p m d) hl hp (fun p m S hp => ?_) rfl hok
    exact step_ok (n := 3 * f) hl hp (fun p m d => pRow_ok f p m d) fun hd2 p m hp2 => ih n p m (d + 1) S (by omega) (by omega) (by omega) hp2
end K28

/-! k28: what the program's reader computes: the small methods. -/
namespace K28
open PySem PySem.Spec L2 SL
section
variable {A : Ad} {l : List Nat} {p : Nat} {m : Int} {S : Store} {r : Nat}
def rd (A : Ad) (l : List Nat) (p : Nat) (m : Int) : Cell := .obj A.Reader ["signs", "now", "many"] [.str l, .int p, .int m]
def bad (A : Ad) (p : Nat) : Ex := ⟨A.BadText, ["at", "word"], [.int p, .str [98, 97, 100, 116, 101, 120, 116]]⟩
theorem lk_signs {a b c : SL.D} : lookS ["signs", "now", "many"] [a, b, c] "signs" = some a := rfl
theorem lk_now {a b c : SL.D} : lookS ["signs", "now", "many"] [a, b, c] "now" = some b := rfl
theorem lk_many {a b c : SL.D} : lookS ["signs", "now", "many"] [a, b, c] "many" = some c := rfl
theorem pt_now {a b c z : SL.D} : putS ["signs", "now", "many"] [a, b, c] "now" z = ((["signs", "now", "many"] : List Str), [a, z, c]) := rfl
theorem pt_many {a b c z : SL.D} : putS ["signs", "now", "many"] [a, b, c] "many" z = ((["signs", "now", "many"] : List Str), [a, b, z]) := rfl
theorem f_signs {δ : DEnv} (h : vM 0 δ S = .ok (.loc r) S) (hS : S[r]? = some (rd A l p m)) : fldM A.Reader "signs" (vM 0) δ S = .ok (.str l) S := fld_ok h hS lk_signs
theorem f_now {δ : DEnv} (h : vM 0 δ S = .ok (.loc r) S) (hS : S[r]? = some (rd A l p m)) : fldM A.Reader "now" (vM 0) δ S = .ok (.int p) S := fld_ok h hS lk_now
theorem f_many {δ : DEnv} (h : vM 0 δ S = .ok (.loc r) S) (hS : S[r]? = some (rd A l p m)) : fldM A.Reader "many" (vM 0) δ S = .ok (.int m) S := fld_ok h hS lk_many
theorem a_now {δ : DEnv} (h : vM 0 δ S = .ok (.loc r) S) (hS : S[r]? = some (rd A l p m)) : fldaugM A.Reader "now" addI (vM 0) (cM (.int 1)) δ S = .nx δ (S.set r (rd A l (p + 1) m)) := fldaug_ok h hS lk_now rfl hS (by decide) (z := .int ((p + 1 : Nat) : Int)) rfl
theorem a_many {δ : DEnv} (h : vM 0 δ S = .ok (.loc r) S) (hS : S[r]? = some (rd A l p m)) : fldaugM A.Reader "many" addI (vM 0) (cM (.int 1)) δ S = .nx δ (S.set r (rd A l p (m + 1))) := fldaug_ok h hS lk_many rfl hS (by decide) (z := .int (m + 1)) rfl
theorem rd_ok (h : S[r]? = some (rd A l p m)) {p' : Nat} {m' : Int} : (S.set r (rd A l p' m'))[r]? = some (rd A l p' m') := set_get (get_lt h)
theorem rd_cl {A : Ad} {l : List Nat} {p : Nat} {m : Int} : okC 0 (rd A l p m) = true := rfl
theorem rd_set {p' : Nat} {m' : Int} : Settles S (S.set r (rd A l p' m')) := Settles.set rd_cl
theorem rt_set {p' : Nat} {m' : Int} {d : SL.D} (h : okD 0 d = true) : finD S (.rt d (S.set r (rd A l p' m'))) = .ok d (S.set r (rd A l p' m')) := fin_cl h (by simp)
theorem nx_set {p' : Nat} {m' : Int} {δ : DEnv} : finD S (.nx δ (S.set r (rd A l p' m'))) = .ok .non (S.set r (rd A l p' m')) := fin_cl (d := .non) rfl (by simp)
theorem ex_set {p' q : Nat} {m' : Int} {δ : DEnv} : finD S (.exc (bad A q) δ (S.set r (rd A l p' m'))) = .exc (bad A q) (S.set r (rd A l p' m')) := by
  have := finX_cut (S := S) (S' := S.set r (rd A l p' m')) (t := []) (x := bad A q) rfl (by simp) rd_set
  rw [List.append_nil] at this
  exact this
theorem here_ok (hl : l.length ≤ 1000000) (hS : S[r]? = some (rd A l p m)) : φReader_here A [.loc r] S = .ok (.str (ch l p)) S := by
  show finD S (m_Reader_here A [some (.loc r)] S) = _
  have h0 : vM 0 [some (.loc r)] S = .ok (.loc r) S := rfl
  have hsl := gSl (S := S) (p := p) hl
  have : m_Reader_here A [some (.loc r)] S = .rt (.str (ch l p)) S := by
    unfold m_Reader_here
    refine ret_ok ?_
    simp only [slM, soO, op2M, f_signs h0 hS, f_now h0 hS, cM, asI, gAddI, hsl, bind_ok, RO_some]
  rw [this]
  exact rt_fin rfl
theorem need_t {b : Bool} (hb : b = true) : φReader_need A [.loc r, .bl b] S = .ok .non S := by
  subst hb
  show finD S (m_Reader_need A [some (.loc r), some (.bl true)] S) = _
  have : m_Reader_need A [some (.loc r), some (.bl true)] S = .nx [some (.loc r), some (.bl true)] S := by
    unfold m_Reader_need
    exact if_fnx rfl
  rw [this]
  exact fin_cl (d := .non) rfl rfl
theorem need_f {b : Bool} (hb : b = false) (hS : S[r]? = some (rd A l p m)) : φReader_need A [.loc r, .bl b] S = .exc (bad A p) S := by
  subst hb
  show finD S (m_Reader_need A [some (.loc r), some (.bl false)] S) = _
  have h0 : vM 0 [some (.loc r), some (.bl false)] S = .ok (.loc r) S := rfl
  have : m_Reader_need A [some (.loc r), some (.bl false)] S = .exc (bad A p) [some (.loc r), some (.bl false)] S := by
    unfold m_Reader_need
    rw [if_t (S1 := S) rfl]
    refine raise_ok ?_
    simp only [mkxM, consM, nilM, f_now h0 hS, bind_ok]
    rfl
  rw [this]
  exact finX_same rfl
/-- reader.here() -/
theorem c_here {δ : DEnv} (hl : l.length ≤ 1000000) (h : vM 0 δ S = .ok (.loc r) S) (hS : S[r]? = some (rd A l p m)) : methM A.Reader "here" 1 (φReader_here A) (vM 0) nilM [] δ S = .ok (.str (ch l p)) S :=
  (meth_is h hS rfl rfl rfl).trans (here_ok hl hS)
/-- reader.need(e) -/
theorem c_need_t {δ : DEnv} {me : ME} {b : Bool} (h : vM 0 δ S = .ok (.loc r) S) (hS : S[r]? = some (rd A l p m)) (he : me δ S = .ok (.bl b) S) (hb : b = true) : exprM (methM A.Reader "need" 2 (φReader_need A) (vM 0) (consM me nilM) []) δ S = .nx δ S := by
  refine expr_ok (d := .non) ((meth_is h hS rfl (xs := [.bl b]) (S2 := S) ?_ rfl).trans (need_t hb))
  simp only [consM, nilM, he, bind_ok]
theorem c_need_f {δ : DEnv} {me : ME} {b : Bool} (h : vM 0 δ S = .ok (.loc r) S) (hS : S[r]? = some (rd A l p m)) (he : me δ S = .ok (.bl b) S) (hb : b = false) : exprM (methM A.Reader "need" 2 (φReader_need A) (vM 0) (consM me nilM) []) δ S = .exc (bad A p) δ S := by
  refine expr_exc ((meth_is h hS rfl (xs := [.bl b]) (S2 := S) ?_ rfl).trans (need_f hb hS))
  simp only [consM, nilM, he, bind_ok]
theorem pass_t {s : List Nat} (hl : l.length ≤ 1000000) (hS : S[r]? = some (rd A l p m)) (k : ch l p = s) : φReader_pass_by A [.loc r, .str s] S = .ok .non (S.set r (rd A l (p + 1) m)) := by
  show finD S (m_Reader_pass_by A (φReader_here A) (φReader_need A) [some (.loc r), some (.str s)] S) = _
  have h0 : vM 0 [some (.loc r), some (.str s)] S = .ok (.loc r) S := rfl
  have h1 : vM 1 [some (.loc r), some (.str s)] S = .ok (.str s) S := rfl
  have : m_Reader_pass_by A (φReader_here A) (φReader_need A) [some (.loc r), some (.str s)] S = .nx [some (.loc r), some (.str s)] (S.set r (rd A l (p + 1) m)) := by
    unfold m_Reader_pass_by
    rw [seq_nx (c_need_t h0 hS (b := decide (ch l p = s)) (by simp only [op2M, c_here hl h0 hS, h1, gEqS, bind_ok, RO_some]) (decide_eq_true k))]
    exact a_now h0 hS
  rw [this]
  exact nx_set
theorem pass_f {s : List Nat} (hl : l.length ≤ 1000000) (hS : S[r]? = some (rd A l p m)) (k : ¬ ch l p = s) : φReader_pass_by A [.loc r, .str s] S = .exc (bad A p) S := by
  show finD S (m_Reader_pass_by A (φReader_here A) (φReader_need A) [some (.loc r), some (.str s)] S) = _
  have h0 : vM 0 [some (.loc r), some (.str s)] S = .ok (.loc r) S := rfl
  have h1 : vM 1 [some (.loc r), some (.str s)] S = .ok (.str s) S := rfl
  have : m_Reader_pass_by A (φReader_here A) (φReader_need A) [some (.loc r), some (.str s)] S = .exc (bad A p) [some (.loc r), some (.str s)] S := by
    unfold m_Reader_pass_by
    exact seq_exc (c_need_f h0 hS (b := decide (ch l p = s)) (by simp only [op2M, c_here hl h0 hS, h1, gEqS, bind_ok, RO_some]) (decide_eq_false k))
  rw [this]
  exact finX_same rfl
/-! ### run -/
noncomputable def prC (A : Ad) : MB := andB (cmpB ltG (op2M subG (fldM A.Reader "now" (vM 0)) (vM 4)) (vM 3)) (andB (cmpB neG (methM A.Reader "here" 1 (φReader_here A) (vM 0) nilM []) (cM (.str []))) (cmpB inG (methM A.Reader "here" 1 (φReader_here A) (vM 0) nilM []) (vM 1)))
noncomputable def prB (A : Ad) : MS := fldaugM A.Reader "now" addI (vM 0) (cM (.int 1))
theorem prun_while {ok : List Nat} {least : Int} {k : Nat} (hl : l.length ≤ 1000000) : ∀ (j e : Nat) (S : Store), p ≤ e → e - p + j = k → S[r]? = some (rd A l e m) →
    whileN (prC A) (prB A) (j + 1) [some (.loc r), some (.str ok), some (.int least), some (.int k), some (.int p)] S = .nx [some (.loc r), some (.str ok), some (.int least), some (.int k), some (.int p)] (S.set r (rd A l (runN ok l j e) m)) := by
  have self : ∀ {S : Store} {c : Cell}, S[r]? = some c → S.set r c = S := fun {S c} h => by
    apply List.ext_getElem?
    intro i
    by_cases hi : r = i
    · subst hi
      rw [List.getElem?_set_self (get_lt h), h]
    · rw [List.getElem?_set_ne hi]
  intro j
  induction j with
  | zero =>
    intro e S h1 h2 hS
    have h0 : vM 0 [some (.loc r), some (.str ok), some (.int least), some (.int k), some (.int p)] S = .ok (.loc r) S := rfl
    have hk : ¬ ((e : Int) - p < k) := by omega
    show _ = Flw.nx _ (S.set r (rd A l e m))
    rw [self hS]
    refine while_end ?_
    have e3 : vM 3 [some (.loc r), some (.str ok), some (.int least), some (.int k), some (.int p)] S = .ok (.int k) S := rfl
    have e4 : vM 4 [some (.loc r), some (.str ok), some (.int least), some (.int k), some (.int p)] S = .ok (.int p) S := rfl
    simp only [prC, andB, cmpB, op2M, f_now h0 hS, e3, e4, gLtI, gSubI, asB, bind_ok, RO_some, hk, decide_false, Bool.false_eq_true, if_false]
  | succ j ih =>
    intro e S h1 h2 hS
    have h0 : vM 0 [some (.loc r), some (.str ok), some (.int least), some (.int k), some (.int p)] S = .ok (.loc r) S := rfl
    have hk : ((e : Int) - p < k) := by omega
    have hh := c_here hl h0 hS
    have e1 : vM 1 [some (.loc r), some (.str ok), some (.int least), some (.int k), some (.int p)] S = .ok (.str ok) S := rfl
    have e3 : vM 3 [some (.loc r), some (.str ok), some (.int least), some (.int k), some (.int p)] S = .ok (.int k) S := rfl
    have e4 : vM 4 [some (.loc r), some (.str ok), some (.int least), some (.int k), some (.int p)] S = .ok (.int p) S := rfl
    unfold runN
    cases ec : l[e]? with
    | none =>
      rw [ch_nil ec] at hh
      simp only
      rw [self hS]
      refine while_end ?_
      simp only [prC, andB, cmpB, op2M, cM, f_now h0 hS, hh, e1, e3, e4, gLtI, gSubI, gNeS, asB, bind_ok, RO_some, hk, decide_true, Bool.not_true, if_true, Bool.false_eq_true, if_false]
    | some c =>
      rw [ch_some ec] at hh
      have hne : ¬ (([c] : List Nat) = []) := fun z => by cases z
      by_cases hc : c ∈ ok
      · simp only [hc, if_true]
        have := ih (e + 1) (S.set r (rd A l (e + 1) m)) (by omega) (by omega) (rd_ok hS)
        rw [List.set_set] at this
        refine while_step (S1 := S) (S2 := S.set r (rd A l (e + 1) m)) ?_ ?_ this
        · simp only [prC, andB, cmpB, op2M, cM, f_now h0 hS, hh, e1, e3, e4, gLtI, gSubI, gNeS, gInC, hne, hc, asB, bind_ok, RO_some, hk, decide_true, decide_false, Bool.not_false, if_true]
        · exact a_now h0 hS
      · simp only [hc, if_false]
        rw [self hS]
        refine while_end ?_
        simp only [prC, andB, cmpB, op2M, cM, f_now h0 hS, hh, e1, e3, e4, gLtI, gSubI, gNeS, gInC, hne, hc, asB, bind_ok, RO_some, hk, decide_true, decide_false, Bool.not_false, if_true]
theorem run_body {ok : List Nat} {least : Int} {k : Nat} (hl : l.length ≤ 1000000) (hS : S[r]? = some (rd A l p m)) : m_Reader_run A (φReader_here A) (φReader_need A) [some (.loc r), some (.str ok), some (.int least), some (.int k), none] S =
    if least ≤ (runN ok l k p : Int) - p then .rt (.str (cutN l p (runN ok l k p))) (S.set r (rd A l (runN ok l k p) m)) else .exc (bad A (runN ok l k p)) [some (.loc r), some (.str ok), some (.int least), some (.int k), some (.int p)] (S.set r (rd A l (runN ok l k p) m)) := by
  have hw := whileM_is (k + 1) (prun_while (A := A) (m := m) (r := r) (ok := ok) (least := least) (p := p) (k := k) hl k p S (Nat.le_refl p) (by omega) hS) (by intro z; cases z)
  have h0 : vM 0 [some (.loc r), some (.str ok), some (.int least), some (.int k), none] S = .ok (.loc r) S := rfl
  have hS2 := rd_ok hS (p' := runN ok l k p) (m' := m)
  have h02 : vM 0 [some (.loc r), some (.str ok), some (.int least), some (.int k), some (.int p)] (S.set r (rd A l (runN ok l k p) m)) = .ok (.loc r) (S.set r (rd A l (runN ok l k p) m)) := rfl
  have e2 : vM 2 [some (.loc r), some (.str ok), some (.int least), some (.int k), some (.int p)] (S.set r (rd A l (runN ok l k p) m)) = .ok (.int least) (S.set r (rd A l (runN ok l k p) m)) := rfl
  have e4 : vM 4 [some (.loc r), some (.str ok), some (.int least), some (.int k), some (.int p)] (S.set r (rd A l (runN ok l k p) m)) = .ok (.int p) (S.set r (rd A l (runN ok l k p) m)) := rfl
  have a1 : asgM 4 (fldM A.Reader "now" (vM 0)) [some (.loc r), some (.str ok), some (.int least), some (.int k), none] S = .nx [some (.loc r), some (.str ok), some (.int least), some (.int k), some (.int p)] S := asg_ok (f_now h0 hS)
  unfold m_Reader_run
  rw [seq_nx a1]
  have hw' : whileM (andB (cmpB ltG (op2M subG (fldM A.Reader "now" (vM 0)) (vM 4)) (vM 3)) (andB (cmpB neG (methM A.Reader "here" 1 (φReader_here A) (vM 0) nilM []) (cM (.str []))) (cmpB inG (methM A.Reader "here" 1 (φReader_here A) (vM 0) nilM []) (vM 1)))) (fldaugM A.Reader "now" addI (vM 0) (cM (.int 1))) [some (.loc r), some (.str ok), some (.int least), some (.int k), some (.int p)] S = _ := hw
  rw [seq_nx hw']
  have hb : op2M geG (op2M subG (fldM A.Reader "now" (vM 0)) (vM 4)) (vM 2) [some (.loc r), some (.str ok), some (.int least), some (.int k), some (.int p)] (S.set r (rd A l (runN ok l k p) m)) = .ok (.bl (decide (least ≤ (runN ok l k p : Int) - p))) (S.set r (rd A l (runN ok l k p) m)) := by
    simp only [op2M, f_now h02 hS2, e2, e4, gSubI, gGeI, bind_ok, RO_some]
  by_cases hle : least ≤ (runN ok l k p : Int) - p
  · rw [if_pos hle, seq_nx (c_need_t h02 hS2 hb (decide_eq_true hle))]
    refine ret_ok ?_
    have hsl := gSl2 (S := S.set r (rd A l (runN ok l k p) m)) (p := p) (e := runN ok l k p) hl
    simp only [slM, soO, f_signs h02 hS2, f_now h02 hS2, e4, asI, hsl, bind_ok, RO_some]
  · rw [if_neg hle]
    exact seq_exc (c_need_f h02 hS2 hb (decide_eq_false hle))
theorem prun_t {ok : List Nat} {least : Int} {k : Nat} (hl : l.length ≤ 1000000) (hS : S[r]? = some (rd A l p m)) (hle : least ≤ (runN ok l k p : Int) - p) : φReader_run A [.loc r, .str ok, .int least, .int k] S = .ok (.str (cutN l p (runN ok l k p))) (S.set r (rd A l (runN ok l k p) m)) := by
  show finD S (m_Reader_run A (φReader_here A) (φReader_need A) [some (.loc r), some (.str ok), some (.int least), some (.int k), none] S) = _
  rw [run_body hl hS, if_pos hle]
  exact rt_set rfl
theorem prun_f {ok : List Nat} {least : Int} {k : Nat} (hl : l.length ≤ 1000000) (hS : S[r]? = some (rd A l p m)) (hle : ¬ least ≤ (runN ok l k p : Int) - p) : φReader_run A [.loc r, .str ok, .int least, .int k] S = .exc (bad A (runN ok l k p)) (S.set r (rd A l (runN ok l k p) m)) := by
  show finD S (m_Reader_run A (φReader_here A) (φReader_need A) [some (.loc r), some (.str ok), some (.int least), some (.int k), none] S) = _
  rw [run_body hl hS, if_neg hle]
  exact ex_set
end
end K28

/-! k28: what the program's reader computes: number, step. -/
namespace K28
open PySem PySem.Spec L2 SL
section
variable {A : Ad} {l : List Nat} {p : Nat} {m : Int} {S : Store} {r : Nat}
theorem c_run_t {gD : List SL.D → List SL.D → List SL.D} {mk : MA} {zs : List SL.D} {j k : Nat} {ok : List Nat} {least : Int} {δ : DEnv} (hl : l.length ≤ 1000000) (h : vM 0 δ S = .ok (.loc r) S) (hS : S[r]? = some (rd A l p m)) (hk : mk δ S = .ok zs S) (hj : zs.length = j) (hg : gD [.loc r, .str ok] zs = [.loc r, .str ok, .int least, .int k])
    (hle : least ≤ (runN ok l k p : Int) - p) : methN A.Reader "run" 2 j 4 (φReader_run A) gD (vM 0) (consM (cM (.str ok)) nilM) mk δ S = .ok (.str (cutN l p (runN ok l k p))) (S.set r (rd A l (runN ok l k p) m)) := by
  refine (methN_is (xs := [.str ok]) h hS rfl rfl hk rfl hj (by rw [hg]; rfl)).trans ?_
  rw [hg]
  exact prun_t hl hS hle
theorem c_run_f {gD : List SL.D → List SL.D → List SL.D} {mk : MA} {zs : List SL.D} {j k : Nat} {ok : List Nat} {least : Int} {δ : DEnv} (hl : l.length ≤ 1000000) (h : vM 0 δ S = .ok (.loc r) S) (hS : S[r]? = some (rd A l p m)) (hk : mk δ S = .ok zs S) (hj : zs.length = j) (hg : gD [.loc r, .str ok] zs = [.loc r, .str ok, .int least, .int k])
    (hle : ¬ least ≤ (runN ok l k p : Int) - p) : methN A.Reader "run" 2 j 4 (φReader_run A) gD (vM 0) (consM (cM (.str ok)) nilM) mk δ S = .exc (bad A (runN ok l k p)) (S.set r (rd A l (runN ok l k p) m)) := by
  refine (methN_is (xs := [.str ok]) h hS rfl rfl hk rfl hj (by rw [hg]; rfl)).trans ?_
  rw [hg]
  exact prun_f hl hS hle
/-- what the program's way tells, beside the plain one -/
def PO (A : Ad) (l : List Nat) (r : Nat) (S : Store) (x : Res SL.D) : Out → Prop
  | (e, some t, m') => x = .ok (.tup t) (S.set r (rd A l e m'))
  | (e, none, _) => ∃ q m'', x = .exc (bad A e) (S.set r (rd A l q m''))
def PN (A : Ad) (l : List Nat) (r : Nat) (m : Int) (S : Store) (x : Res SL.D) : Nat × Option Int → Prop
  | (e, some v) => x = .ok (.int v) (S.set r (rd A l e m))
  | (e, none) => ∃ q, x = .exc (bad A e) (S.set r (rd A l q m))
theorem number_ok (hl : l.length ≤ 1000000) (hp : p ≤ l.length) (hS : S[r]? = some (rd A l p m)) : PN A l r m S (φReader_number A [.loc r] S) (pTimes l p) := by
  have hf : φReader_number A [.loc r] S = finD S (m_Reader_number A (φReader_here A) (φReader_run A) [some (.loc r), none] S) := rfl
  rw [hf]
  have h0 : vM 0 [some (.loc r), none] S = .ok (.loc r) S := rfl
  have hh := c_here hl h0 hS
  unfold pTimes m_Reader_number
  by_cases k0 : ch l p = [48]
  · rw [if_pos k0]
    have hc : cmpB eqG (methM A.Reader "here" 1 (φReader_here A) (vM 0) nilM []) (cM (.str [48])) [some (.loc r), none] S = .ok true S := by
      simp only [cmpB, hh, cM, gEqS, k0, asB, bind_ok, RO_some, decide_true]
    show _ = Res.ok _ _
    rw [seq_rt ((if_t hc).trans ((seq_nx (a_now h0 hS)).trans (ret_ok rfl)))]
    exact rt_set rfl
  · rw [if_neg k0]
    have hc : cmpB eqG (methM A.Reader "here" 1 (φReader_here A) (vM 0) nilM []) (cM (.str [48])) [some (.loc r), none] S = .ok false S := by
      simp only [cmpB, hh, cM, gEqS, k0, asB, bind_ok, RO_some, decide_false]
    rw [seq_nx (if_fnx hc)]
    by_cases k1 : runN s_FIGURES l 31 p = p
    · rw [if_pos k1]
      refine ⟨runN s_FIGURES l 31 p, ?_⟩
      have hr := c_run_f (A := A) (gD := gD_Reader_run_least_most) (mk := consM (cM (.int 1)) (consM (cM (.int 31)) nilM)) (zs := [.int 1, .int 31]) (j := 2) (k := 31) (ok := s_FIGURES) (least := 1) (δ := [some (.loc r), none]) hl h0 hS rfl rfl rfl (by omega)
      rw [seq_exc (asg_exc hr), ex_set, k1]
    · rw [if_neg k1]
      have hge := run_ge s_FIGURES l 31 p
      have hr := c_run_t (A := A) (gD := gD_Reader_run_least_most) (mk := consM (cM (.int 1)) (consM (cM (.int 31)) nilM)) (zs := [.int 1, .int 31]) (j := 2) (k := 31) (ok := s_FIGURES) (least := 1) (δ := [some (.loc r), none]) hl h0 hS rfl rfl rfl (by omega)
      rw [seq_nx (asg_ok hr)]
      have hnum := num_some hp k1
      have hlen31 := cut_len (ok := s_FIGURES) (k := 31) hp
      have hle := run_le s_FIGURES l 31 p
      have hint : ∀ S : Store, intG S [.str (cutN l p (runN s_FIGURES l 31 p))] = some (.int (numV (cutN l p (runN s_FIGURES l 31 p)))) := fun S => by
        show (if (cutN l p (runN s_FIGURES l 31 p)).length ≤ 640 then (match PySem.intText? ⟨(cutN l p (runN s_FIGURES l 31 p)).toArray⟩ with | some n => some (SL.D.int n) | none => none) else none) = _
        rw [if_pos (by omega), hnum]
      have hS2 := rd_ok hS (p' := runN s_FIGURES l 31 p) (m' := m)
      have h02 : vM 0 [some (.loc r), some (.str (cutN l p (runN s_FIGURES l 31 p)))] (S.set r (rd A l (runN s_FIGURES l 31 p) m)) = .ok (.loc r) (S.set r (rd A l (runN s_FIGURES l 31 p) m)) := rfl
      have hi : (callG intG (consM (vM 1) nilM)) [some (.loc r), some (.str (cutN l p (runN s_FIGURES l 31 p)))] (S.set r (rd A l (runN s_FIGURES l 31 p) m)) = .ok (.int (numV (cutN l p (runN s_FIGURES l 31 p)))) (S.set r (rd A l (runN s_FIGURES l 31 p) m)) := by
        simp only [callG, consM, nilM, vM, hint, bind_ok, RO_some, List.getElem?_cons_zero, List.getElem?_cons_succ]
      have h30 : (10 : Int) ^ 30 = 1000000000000000000000000000000 := by decide
      by_cases k2 : (10 : Int) ^ 30 < numV (cutN l p (runN s_FIGURES l 31 p))
      · rw [if_pos k2]
        refine ⟨runN s_FIGURES l 31 p, ?_⟩
        have hc2 : cmpB gtG (callG intG (consM (vM 1) nilM)) (cM (.int 1000000000000000000000000000000)) [some (.loc r), some (.str (cutN l p (runN s_FIGURES l 31 p)))] (S.set r (rd A l (runN s_FIGURES l 31 p) m)) = .ok true (S.set r (rd A l (runN s_FIGURES l 31 p) m)) := by
          rw [h30] at k2
          simp only [cmpB, hi, cM, gGtI, asB, bind_ok, RO_some, k2, decide_true]
        have hx : mkxM A.BadText 1 ["at", "word"] gx_BadText (consM (op2M subG (fldM A.Reader "now" (vM 0)) (cM (.int 1))) nilM) [some (.loc r), some (.str (cutN l p (runN s_FIGURES l 31 p)))] (S.set r (rd A l (runN s_FIGURES l 31 p) m)) = .ok (bad A (runN s_FIGURES l 31 p - 1)) (S.set r (rd A l (runN s_FIGURES l 31 p) m)) := by
          simp only [mkxM, consM, nilM, op2M, f_now h02 hS2, cM, gSubI, bind_ok, RO_some]
          show Res.ok (⟨A.BadText, ["at", "word"], [.int ((runN s_FIGURES l 31 p : Nat) - 1 : Int), .str [98, 97, 100, 116, 101, 120, 116]]⟩ : Ex) _ = _
          unfold bad
          rw [show ((runN s_FIGURES l 31 p - 1 : Nat) : Int) = (runN s_FIGURES l 31 p : Int) - 1 by omega]
        have hstep := seq_exc (m2 := retM (callG intG (consM (vM 1) nilM))) ((if_t (m2 := nxM) hc2).trans (raise_ok hx))
        have hd : [some (SL.D.loc r), none].set 1 (some (.str (cutN l p (runN s_FIGURES l 31 p)))) = [some (.loc r), some (.str (cutN l p (runN s_FIGURES l 31 p)))] := rfl
        rw [hd, hstep, ex_set]
      · rw [if_neg k2]
        have hc2 : cmpB gtG (callG intG (consM (vM 1) nilM)) (cM (.int 1000000000000000000000000000000)) [some (.loc r), some (.str (cutN l p (runN s_FIGURES l 31 p)))] (S.set r (rd A l (runN s_FIGURES l 31 p) m)) = .ok false (S.set r (rd A l (runN s_FIGURES l 31 p) m)) := by
          rw [h30] at k2
          simp only [cmpB, hi, cM, gGtI, asB, bind_ok, RO_some, k2, decide_false]
        have hd : [some (SL.D.loc r), none].set 1 (some (.str (cutN l p (runN s_FIGURES l 31 p)))) = [some (.loc r), some (.str (cutN l p (runN s_FIGURES l 31 p)))] := rfl
        show _ = Res.ok _ _
        rw [hd, seq_nx (if_fnx hc2), ret_ok hi]
        exact rt_set rfl
/-! ### the step -/
theorem c_pass_t {δ : DEnv} {s : List Nat} (hl : l.length ≤ 1000000) (h : vM 0 δ S = .ok (.loc r) S) (hS : S[r]? = some (rd A l p m)) (k : ch l p = s) : exprM (methM A.Reader "pass_by" 2 (φReader_pass_by A) (vM 0) (consM (cM (.str s)) nilM) []) δ S = .nx δ (S.set r (rd A l (p + 1) m)) :=
  expr_ok ((meth_is h hS rfl (xs := [.str s]) (S2 := S) rfl rfl).trans (pass_t hl hS k))
theorem c_pass_f {δ : DEnv} {s : List Nat} (hl : l.length ≤ 1000000) (h : vM 0 δ S = .ok (.loc r) S) (hS : S[r]? = some (rd A l p m)) (k : ¬ ch l p = s) : exprM (methM A.Reader "pass_by" 2 (φReader_pass_by A) (vM 0) (consM (cM (.str s)) nilM) []) δ S = .exc (bad A p) δ S :=
  expr_exc ((meth_is h hS rfl (xs := [.str s]) (S2 := S) rfl rfl).trans (pass_f hl hS k))
theorem self_set {c : Cell} (h : S[r]? = some c) : S.set r c = S := by
  apply List.ext_getElem?
  intro i
  by_cases hi : r = i
  · subst hi
    rw [List.getElem?_set_self (get_lt h), h]
  · rw [List.getElem?_set_ne hi]
theorem ex_same {q : Nat} {δ : DEnv} (hS : S[r]? = some (rd A l p m)) : finD S (.exc (bad A q) δ S) = .exc (bad A q) (S.set r (rd A l p m)) := by
  have := ex_set (A := A) (S := S) (l := l) (r := r) (p' := p) (m' := m) (q := q) (δ := δ)
  rwa [self_set hS] at this ⊢
noncomputable def need1 (A : Ad) : ME := (andM (op2M neG (vM 2) (cM (.str []))) (andM (op2M inG (vM 2) (cM (.str [46, 126, 60, 40]))) (op2M ltG (fldM A.Reader "many" (vM 0)) (cM (.int 60)))))
noncomputable def need2 : ME := (orM (op2M neG (vM 2) (cM (.str [40]))) (op2M ltG (vM 1) (cM (.int 12))))
noncomputable def stA (A : Ad) (t : MS) : MS := (seqM (asgM 2 (methM A.Reader "here" 1 (φReader_here A) (vM 0) nilM []))
  (seqM (exprM (methM A.Reader "need" 2 (φReader_need A) (vM 0) (consM (need1 A) nilM) []))
  (seqM (exprM (methM A.Reader "need" 2 (φReader_need A) (vM 0) (consM need2 nilM) []))
  (seqM (fldaugM A.Reader "many" addI (vM 0) (cM (.int 1)))
  (seqM (fldaugM A.Reader "now" addI (vM 0) (cM (.int 1))) t)))))
noncomputable def if1 (A : Ad) : MS := (ifSM (cmpB eqG (vM 2) (cM (.str [46]))) (retM (callG tupG (consM (cM (.str [99, 97, 108, 108])) (consM (methN A.Reader "run" 2 0 4 (φReader_run A) gD_Reader_run_0 (vM 0) (consM (cM (.str s_LETTERS)) nilM) nilM) nilM)))) nxM)
noncomputable def if2 (A : Ad) : MS := (ifSM (cmpB eqG (vM 2) (cM (.str [126]))) (retM (callG tupG (consM (cM (.str [116, 117, 114, 110])) (consM (methN A.Reader "run" 2 1 4 (φReader_run A) gD_Reader_run_least (vM 0) (consM (cM (.str s_LETTERS)) nilM) (consM (cM (.int 1)) nilM)) nilM)))) nxM)
noncomputable def if3 (A : Ad) : MS := (ifSM (cmpB eqG (vM 2) (cM (.str [60]))) (seqM (asgM 3 (methN A.Reader "run" 2 2 4 (φReader_run A) gD_Reader_run_least_most (vM 0) (consM (cM (.str s_SMALL)) nilM) (consM (cM (.int 1)) (consM (cM (.int 8)) nilM))))
  (seqM (exprM (methM A.Reader "pass_by" 2 (φReader_pass_by A) (vM 0) (consM (cM (.str [62])) nilM) []))
  (retM (callG tupG (consM (cM (.str [114, 111, 119])) (consM (vM 3) nilM)))))) nxM)
noncomputable def stB (A : Ad) (φrow : Fn) : MS := (seqM (asgM 4 (methM A.Reader "row" 2 φrow (vM 0) (consM (op2M addG (vM 1) (cM (.int 1))) nilM) []))
  (seqM (exprM (methM A.Reader "pass_by" 2 (φReader_pass_by A) (vM 0) (consM (cM (.str [41])) nilM) []))
  (seqM (exprM (methM A.Reader "pass_by" 2 (φReader_pass_by A) (vM 0) (consM (cM (.str [42])) nilM) []))
  (retM (callG tupG (consM (cM (.str [116, 105, 109, 101, 115])) (consM (methM A.Reader "number" 1 (φReader_number A) (vM 0) nilM []) (consM (vM 4) nilM))))))))
theorem mstep_eq (A : Ad) (φrow : Fn) : m_Reader_step A (φReader_here A) (φReader_need A) (φReader_run A) (φReader_pass_by A) φrow (φReader_number A) = stA A (seqM (if1 A) (seqM (if2 A) (seqM (if3 A) (stB A φrow)))) := rfl
theorem need1_ok {δ : DEnv} {d : Int} {a b : Option SL.D} (hS : S[r]? = some (rd A l p m)) (hδ : δ = [some (.loc r), some (.int d), some (.str (ch l p)), a, b]) : need1 A δ S = .ok (.bl (decide ((ch l p = [46] ∨ ch l p = [126] ∨ ch l p = [60] ∨ ch l p = [40]) ∧ m < 60))) S := by
  subst hδ
  have h0 : vM 0 [some (.loc r), some (.int d), some (.str (ch l p)), a, b] S = .ok (.loc r) S := rfl
  have h2 : vM 2 [some (.loc r), some (.int d), some (.str (ch l p)), a, b] S = .ok (.str (ch l p)) S := rfl
  have tb : ∀ c : Bool, truthB S (.bl c) = some c := fun c => rfl
  unfold need1
  cases ec : l[p]? with
  | none =>
    rw [ch_nil ec] at h0 h2 ⊢
    simp only [SL.andM, op2M, h2, cM, gNeS, bind_ok, RO_some, decide_true, Bool.not_true, tb]
    simp
  | some c =>
    rw [ch_some ec] at h0 h2 ⊢
    have hne : ¬ (([c] : List Nat) = []) := fun z => by cases z
    have hd : ([c] = [46] ∨ [c] = [126] ∨ [c] = [60] ∨ [c] = [40]) ↔ c ∈ [46, 126, 60, 40] := by simp
    by_cases hc : c ∈ [46, 126, 60, 40]
    · simp only [SL.andM, op2M, h2, cM, gNeS, gInC, gLtI, f_many h0 hS, hne, hc, bind_ok, RO_some, decide_true, decide_false, Bool.not_false, tb]
      simp only [hd, hc, true_and]
    · simp only [SL.andM, op2M, h2, cM, gNeS, gInC, hne, hc, bind_ok, RO_some, decide_false, Bool.not_false, tb]
      simp only [hd, hc, false_and, decide_false]
theorem need2_ok {δ : DEnv} {d : Int} {a b : Option SL.D} (hδ : δ = [some (.loc r), some (.int d), some (.str (ch l p)), a, b]) : need2 δ S = .ok (.bl (decide (ch l p ≠ [40] ∨ d < 12))) S := by
  subst hδ
  have h1 : vM 1 [some (.loc r), some (.int d), some (.str (ch l p)), a, b] S = .ok (.int d) S := rfl
  have h2 : vM 2 [some (.loc r), some (.int d), some (.str (ch l p)), a, b] S = .ok (.str (ch l p)) S := rfl
  have tb : ∀ c : Bool, truthB S (.bl c) = some c := fun c => rfl
  unfold need2
  by_cases k : ch l p = [40]
  · rw [k] at h1 h2 ⊢
    simp only [SL.orM, op2M, h1, h2, cM, gNeS, gLtI, bind_ok, RO_some, decide_true, Bool.not_true, tb]
    simp
  · simp only [SL.orM, op2M, h2, cM, gNeS, k, bind_ok, RO_some, decide_false, Bool.not_false, tb]
    simp [k]
theorem stA_f {d : Int} {t : MS} (hl : l.length ≤ 1000000) (hS : S[r]? = some (rd A l p m)) (k : ¬ (((ch l p = [46] ∨ ch l p = [126] ∨ ch l p = [60] ∨ ch l p = [40]) ∧ m < 60) ∧ (ch l p ≠ [40] ∨ d < 12))) :
    stA A t [some (.loc r), some (.int d), none, none, none] S = .exc (bad A p) [some (.loc r), some (.int d), some (.str (ch l p)), none, none] S := by
  have h0 : vM 0 [some (.loc r), some (.int d), none, none, none] S = .ok (.loc r) S := rfl
  have h02 : vM 0 [some (.loc r), some (.int d), some (.str (ch l p)), none, none] S = .ok (.loc r) S := rfl
  have a1 : asgM 2 (methM A.Reader "here" 1 (φReader_here A) (vM 0) nilM []) [some (.loc r), some (.int d), none, none, none] S = .nx [some (.loc r), some (.int d), some (.str (ch l p)), none, none] S := asg_ok (c_here hl h0 hS)
  unfold stA
  rw [seq_nx a1]
  by_cases k1 : (ch l p = [46] ∨ ch l p = [126] ∨ ch l p = [60] ∨ ch l p = [40]) ∧ m < 60
  · rw [seq_nx (c_need_t h02 hS (need1_ok hS rfl) (decide_eq_true k1))]
    exact seq_exc (c_need_f h02 hS (need2_ok rfl) (decide_eq_false fun z => k ⟨k1, z⟩))
  · exact seq_exc (c_need_f h02 hS (need1_ok hS rfl) (decide_eq_false k1))
theorem stA_t {d : Int} {t : MS} (hl : l.length ≤ 1000000) (hS : S[r]? = some (rd A l p m)) (k1 : (ch l p = [46] ∨ ch l p = [126] ∨ ch l p = [60] ∨ ch l p = [40]) ∧ m < 60) (k2 : ch l p ≠ [40] ∨ d < 12) :
    stA A t [some (.loc r), some (.int d), none, none, none] S = t [some (.loc r), some (.int d), some (.str (ch l p)), none, none] (S.set r (rd A l (p + 1) (m + 1))) := by
  have h0 : vM 0 [some (.loc r), some (.int d), none, none, none] S = .ok (.loc r) S := rfl
  have h02 : ∀ S, vM 0 [some (.loc r), some (.int d), some (.str (ch l p)), none, none] S = .ok (.loc r) S := fun S => rfl
  have a1 : asgM 2 (methM A.Reader "here" 1 (φReader_here A) (vM 0) nilM []) [some (.loc r), some (.int d), none, none, none] S = .nx [some (.loc r), some (.int d), some (.str (ch l p)), none, none] S := asg_ok (c_here hl h0 hS)
  unfold stA
  rw [seq_nx a1, seq_nx (c_need_t (h02 S) hS (need1_ok hS rfl) (decide_eq_true k1)), seq_nx (c_need_t (h02 S) hS (need2_ok rfl) (decide_eq_true k2)), seq_nx (a_many (h02 S) hS), seq_nx (a_now (h02 _) (rd_ok hS)), List.set_set]
theorem pstep_ok {φrow : Fn} {row : Nat → Int → Int → Out} {n : Nat} {d : Int} (hl : l.length ≤ 1000000) (hm0 : 0 ≤ m) (hS : S[r]? = some (rd A l p m)) (hok : ∀ p m d, oOk (n + 1) (row p m d))
    (hrow : d < 12 → ∀ p m S, p ≤ l.length → 0 ≤ m → m ≤ 60 → S[r]? = some (rd A l p m) → PO A l r S (φrow [.loc r, .int (d + 1)] S) (row p m (d + 1))) :
    PO A l r S (defM 5 (m_Reader_step A (φReader_here A) (φReader_need A) (φReader_run A) (φReader_pass_by A) φrow (φReader_number A)) [.loc r, .int d] S) (pStep row l p m d) := by
  have hf : defM 5 (m_Reader_step A (φReader_here A) (φReader_need A) (φReader_run A) (φReader_pass_by A) φrow (φReader_number A)) [.loc r, .int d] S = finD S (stA A (seqM (if1 A) (seqM (if2 A) (seqM (if3 A) (stB A φrow)))) [some (.loc r), some (.int d), none, none, none] S) := rfl
  rw [hf]
  have ne : ∀ a b : Nat, a ≠ b → ¬ (([a] : List Nat) = [b]) := fun a b h z => h (List.cons.inj z).1
  have hS2 := rd_ok hS (p' := p + 1) (m' := m + 1)
  have t3 : ∀ (S : Store) (a b c : SL.D), tupG S [a, b, c] = some (.tup [a, b, c]) := fun S a b c => rfl
  have t2 : ∀ (S : Store) (a b : SL.D), tupG S [a, b] = some (.tup [a, b]) := fun S a b => rfl
  have h0 : ∀ (sg : List Nat) (a b : Option SL.D) (S : Store), vM 0 [some (.loc r), some (.int d), some (.str sg), a, b] S = .ok (.loc r) S := fun sg a b S => rfl
  have cq : ∀ (sg x : List Nat) (a b : Option SL.D) (S : Store), cmpB eqG (vM 2) (cM (.str x)) [some (.loc r), some (.int d), some (.str sg), a, b] S = .ok (decide (sg = x)) S := fun sg x a b S => rfl
  by_cases hk : ((ch l p = [46] ∨ ch l p = [126] ∨ ch l p = [60] ∨ ch l p = [40]) ∧ m < 60) ∧ (ch l p ≠ [40] ∨ d < 12)
  · obtain ⟨k1, k2⟩ := hk
    rw [stA_t hl hS k1 k2]
    obtain ⟨k1, hm⟩ := k1
    unfold pStep
    by_cases c1 : ch l p = [46]
    · rw [if_pos ⟨c1, hm⟩, c1]
      have hr := c_run_t (A := A) (gD := gD_Reader_run_0) (mk := nilM) (zs := []) (j := 0) (k := 12) (ok := s_LETTERS) (least := 0) (δ := [some (.loc r), some (.int d), some (.str [46]), none, none]) hl (h0 _ _ _ _) hS2 rfl rfl rfl (by have := run_ge s_LETTERS l 12 (p + 1); omega)
      rw [List.set_set] at hr
      show _ = Res.ok _ _
      have hif : if1 A [some (.loc r), some (.int d), some (.str [46]), none, none] (S.set r (rd A l (p + 1) (m + 1))) = .rt (.tup [.str w_call, .str (cutN l (p + 1) (runN s_LETTERS l 12 (p + 1)))]) (S.set r (rd A l (runN s_LETTERS l 12 (p + 1)) (m + 1))) := by
        unfold if1
        refine (if_t (cq _ _ _ _ _)).trans (ret_ok ?_)
        simp only [callG, consM, nilM, cM, hr, t2, bind_ok, RO_some]
        rfl
      rw [seq_rt hif]
      exact rt_set rfl
    · rw [if_neg (fun z => c1 z.1)]
      have hif1 : if1 A [some (.loc r), some (.int d), some (.str (ch l p)), none, none] (S.set r (rd A l (p + 1) (m + 1))) = .nx [some (.loc r), some (.int d), some (.str (ch l p)), none, none] (S.set r (rd A l (p + 1) (m + 1))) := by
        unfold if1
        exact if_fnx ((cq _ _ _ _ _).trans (by rw [decide_eq_false c1]))
      rw [seq_nx hif1]
      by_cases c2 : ch l p = [126]
      · rw [if_pos ⟨c2, hm⟩, c2]
        by_cases h1 : runN s_LETTERS l 12 (p + 1) = p + 1
        · rw [if_pos h1]
          have hr := c_run_f (A := A) (gD := gD_Reader_run_least) (mk := consM (cM (.int 1)) nilM) (zs := [.int 1]) (j := 1) (k := 12) (ok := s_LETTERS) (least := 1) (δ := [some (.loc r), some (.int d), some (.str [126]), none, none]) hl (h0 _ _ _ _) hS2 rfl rfl rfl (by omega)
          rw [List.set_set] at hr
          refine ⟨runN s_LETTERS l 12 (p + 1), m + 1, ?_⟩
          have hif : if2 A [some (.loc r), some (.int d), some (.str [126]), none, none] (S.set r (rd A l (p + 1) (m + 1))) = .exc (bad A (runN s_LETTERS l 12 (p + 1))) [some (.loc r), some (.int d), some (.str [126]), none, none] (S.set r (rd A l (runN s_LETTERS l 12 (p + 1)) (m + 1))) := by
            unfold if2
            refine (if_t (cq _ _ _ _ _)).trans (ret_exc ?_)
            simp only [callG, consM, nilM, cM, bind_ok] at hr ⊢
            simp only [hr, bind_exc]
          rw [seq_exc hif, ex_set, h1]
        · rw [if_neg h1]
          have hge := run_ge s_LETTERS l 12 (p + 1)
          have hr := c_run_t (A := A) (gD := gD_Reader_run_least) (mk := consM (cM (.int 1)) nilM) (zs := [.int 1]) (j := 1) (k := 12) (ok := s_LETTERS) (least := 1) (δ := [some (.loc r), some (.int d), some (.str [126]), none, none]) hl (h0 _ _ _ _) hS2 rfl rfl rfl (by omega)
          rw [List.set_set] at hr
          show _ = Res.ok _ _
          have hif : if2 A [some (.loc r), some (.int d), some (.str [126]), none, none] (S.set r (rd A l (p + 1) (m + 1))) = .rt (.tup [.str w_turn, .str (cutN l (p + 1) (runN s_LETTERS l 12 (p + 1)))]) (S.set r (rd A l (runN s_LETTERS l 12 (p + 1)) (m + 1))) := by
            unfold if2
            refine (if_t (cq _ _ _ _ _)).trans (ret_ok ?_)
            simp only [callG, consM, nilM, cM, bind_ok] at hr ⊢
            simp only [hr, t2, bind_ok, RO_some]
            rfl
          rw [seq_rt hif]
          exact rt_set rfl
      · rw [if_neg (fun z => c2 z.1)]
        have hif2 : if2 A [some (.loc r), some (.int d), some (.str (ch l p)), none, none] (S.set r (rd A l (p + 1) (m + 1))) = .nx [some (.loc r), some (.int d), some (.str (ch l p)), none, none] (S.set r (rd A l (p + 1) (m + 1))) := by
          unfold if2
          exact if_fnx ((cq _ _ _ _ _).trans (by rw [decide_eq_false c2]))
        rw [seq_nx hif2]
        by_cases c3 : ch l p = [60]
        · rw [if_pos ⟨c3, hm⟩, c3]
          by_cases h1 : runN s_SMALL l 8 (p + 1) = p + 1
          · rw [if_pos (.inl h1)]
            have hr := c_run_f (A := A) (gD := gD_Reader_run_least_most) (mk := consM (cM (.int 1)) (consM (cM (.int 8)) nilM)) (zs := [.int 1, .int 8]) (j := 2) (k := 8) (ok := s_SMALL) (least := 1) (δ := [some (.loc r), some (.int d), some (.str [60]), none, none]) hl (h0 _ _ _ _) hS2 rfl rfl rfl (by omega)
            rw [List.set_set] at hr
            refine ⟨runN s_SMALL l 8 (p + 1), m + 1, ?_⟩
            have hif : if3 A [some (.loc r), some (.int d), some (.str [60]), none, none] (S.set r (rd A l (p + 1) (m + 1))) = .exc (bad A (runN s_SMALL l 8 (p + 1))) [some (.loc r), some (.int d), some (.str [60]), none, none] (S.set r (rd A l (runN s_SMALL l 8 (p + 1)) (m + 1))) := by
              unfold if3
              exact (if_t (cq _ _ _ _ _)).trans (seq_exc (asg_exc hr))
            rw [seq_exc hif, ex_set]
          · have hge := run_ge s_SMALL l 8 (p + 1)
            have hr := c_run_t (A := A) (gD := gD_Reader_run_least_most) (mk := consM (cM (.int 1)) (consM (cM (.int 8)) nilM)) (zs := [.int 1, .int 8]) (j := 2) (k := 8) (ok := s_SMALL) (least := 1) (δ := [some (.loc r), some (.int d), some (.str [60]), none, none]) hl (h0 _ _ _ _) hS2 rfl rfl rfl (by omega)
            rw [List.set_set] at hr
            have hS3 := rd_ok hS (p' := runN s_SMALL l 8 (p + 1)) (m' := m + 1)
            by_cases h2 : ch l (runN s_SMALL l 8 (p + 1)) = [62]
            · rw [if_neg (fun z => z.elim h1 (fun z => z h2))]
              show _ = Res.ok _ _
              have hp2 := c_pass_t (δ := [some (.loc r), some (.int d), some (.str [60]), some (.str (cutN l (p + 1) (runN s_SMALL l 8 (p + 1)))), none]) hl (h0 _ _ _ _) hS3 h2
              rw [List.set_set] at hp2
              have hif : if3 A [some (.loc r), some (.int d), some (.str [60]), none, none] (S.set r (rd A l (p + 1) (m + 1))) = .rt (.tup [.str w_row, .str (cutN l (p + 1) (runN s_SMALL l 8 (p + 1)))]) (S.set r (rd A l (runN s_SMALL l 8 (p + 1) + 1) (m + 1))) := by
                unfold if3
                exact (if_t (cq _ _ _ _ _)).trans ((seq_nx (asg_ok hr)).trans ((seq_nx hp2).trans (ret_ok rfl)))
              rw [seq_rt hif]
              exact rt_set rfl
            · rw [if_pos (.inr h2)]
              refine ⟨runN s_SMALL l 8 (p + 1), m + 1, ?_⟩
              have hp2 := c_pass_f (δ := [some (.loc r), some (.int d), some (.str [60]), some (.str (cutN l (p + 1) (runN s_SMALL l 8 (p + 1)))), none]) hl (h0 _ _ _ _) hS3 h2
              have hif : if3 A [some (.loc r), some (.int d), some (.str [60]), none, none] (S.set r (rd A l (p + 1) (m + 1))) = .exc (bad A (runN s_SMALL l 8 (p + 1))) [some (.loc r), some (.int d), some (.str [60]), some (.str (cutN l (p + 1) (runN s_SMALL l 8 (p + 1)))), none] (S.set r (rd A l (runN s_SMALL l 8 (p + 1)) (m + 1))) := by
                unfold if3
                exact (if_t (cq _ _ _ _ _)).trans ((seq_nx (asg_ok hr)).trans (seq_exc hp2))
              rw [seq_exc hif, ex_set]
        · rw [if_neg (fun z => c3 z.1)]
          have hif3 : if3 A [some (.loc r), some (.int d), some (.str (ch l p)), none, none] (S.set r (rd A l (p + 1) (m + 1))) = .nx [some (.loc r), some (.int d), some (.str (ch l p)), none, none] (S.set r (rd A l (p + 1) (m + 1))) := by
            unfold if3
            exact if_fnx ((cq _ _ _ _ _).trans (by rw [decide_eq_false c3]))
          rw [seq_nx hif3]
          have c4 : ch l p = [40] := by
            rcases k1 with z | z | z | z
            · exact absurd z c1
            · exact absurd z c2
            · exact absurd z c3
            · exact z
          have hd : d < 12 := k2.elim (fun z => absurd c4 z) id
          rw [if_pos ⟨c4, hm, hd⟩, c4]
          have hr := hrow hd (p + 1) (m + 1) _ (ch_at c4) (by omega) (by omega) hS2
          have hc := meth_is (C := A.Reader) (m := "row") (n := 2) (φ := φrow) (ms := consM (op2M addG (vM 1) (cM (.int 1))) nilM) (xs := [.int (d + 1)]) (h0 [40] none none (S.set r (rd A l (p + 1) (m + 1)))) hS2 rfl rfl rfl
          unfold stB
          have hoo := hok (p + 1) (m + 1) (d + 1)
          generalize row (p + 1) (m + 1) (d + 1) = o at hr hoo ⊢
          obtain ⟨e, t, m'⟩ := o
          cases t with
          | none =>
            obtain ⟨q, m2, hr⟩ := hr
            rw [List.set_set] at hr
            refine ⟨q, m2, ?_⟩
            rw [seq_exc (asg_exc (hc.trans hr)), ex_set]
          | some t =>
            have hr' : φrow [.loc r, .int (d + 1)] (S.set r (rd A l (p + 1) (m + 1))) = .ok (.tup t) ((S.set r (rd A l (p + 1) (m + 1))).set r (rd A l e m')) := hr
            rw [List.set_set] at hr'
            rw [seq_nx (asg_ok (hc.trans hr'))]
            have hS4 := rd_ok hS (p' := e) (m' := m')
            have htc : okD 0 (.tup t) = true := pl_cl (hoo t rfl)
            by_cases k5 : ch l e = [41]
            · have hp5 := c_pass_t (δ := [some (.loc r), some (.int d), some (.str [40]), none, some (.tup t)]) hl (h0 _ _ _ _) hS4 k5
              rw [List.set_set] at hp5
              show PO A l r S (finD S (seqM _ _ [some (.loc r), some (.int d), some (.str [40]), none, some (.tup t)] (S.set r (rd A l e m')))) _
              rw [seq_nx hp5]
              have hS5 := rd_ok hS (p' := e + 1) (m' := m')
              by_cases k6 : ch l (e + 1) = [42]
              · have hp6 := c_pass_t (δ := [some (.loc r), some (.int d), some (.str [40]), none, some (.tup t)]) hl (h0 _ _ _ _) hS5 k6
                rw [List.set_set] at hp6
                rw [seq_nx hp6]
                have hS6 := rd_ok hS (p' := e + 1 + 1) (m' := m')
                have hnum := number_ok hl (ch_at k6) hS6
                simp only [k5, k6, if_true]
                have hcn := meth_is (C := A.Reader) (m := "number") (n := 1) (φ := φReader_number A) (ms := nilM) (xs := []) (h0 [40] none (some (.tup t)) (S.set r (rd A l (e + 1 + 1) m'))) hS6 rfl rfl rfl
                show PO A l r S _ (match pTimes l (e + 1 + 1) with
                  | (e', none) => (e', none, m')
                  | (e', some v) => (e', some [.str w_times, .int v, .tup t], m'))
                generalize pTimes l (e + 1 + 1) = o2 at hnum ⊢
                obtain ⟨e2, v⟩ := o2
                cases v with
                | none =>
                  obtain ⟨q, hnum⟩ := hnum
                  rw [List.set_set] at hnum
                  refine ⟨q, m', ?_⟩
                  have : retM (callG tupG (consM (cM (.str [116, 105, 109, 101, 115])) (consM (methM A.Reader "number" 1 (φReader_number A) (vM 0) nilM []) (consM (vM 4) nilM)))) [some (.loc r), some (.int d), some (.str [40]), none, some (.tup t)] (S.set r (rd A l (e + 1 + 1) m')) = .exc (bad A e2) [some (.loc r), some (.int d), some (.str [40]), none, some (.tup t)] (S.set r (rd A l q m')) := by
                    refine ret_exc ?_
                    have hx := hcn.trans hnum
                    simp only [callG, consM, cM, bind_ok, hx, bind_exc]
                  rw [this, ex_set]
                | some v =>
                  have hnum' : φReader_number A [.loc r] (S.set r (rd A l (e + 1 + 1) m')) = .ok (.int v) ((S.set r (rd A l (e + 1 + 1) m')).set r (rd A l e2 m')) := hnum
                  rw [List.set_set] at hnum'
                  have : retM (callG tupG (consM (cM (.str [116, 105, 109, 101, 115])) (consM (methM A.Reader "number" 1 (φReader_number A) (vM 0) nilM []) (consM (vM 4) nilM)))) [some (.loc r), some (.int d), some (.str [40]), none, some (.tup t)] (S.set r (rd A l (e + 1 + 1) m')) = .rt (.tup [.str w_times, .int v, .tup t]) (S.set r (rd A l e2 m')) := by
                    refine ret_ok ?_
                    have hx := hcn.trans hnum'
                    have h4 : vM 4 [some (.loc r), some (.int d), some (.str [40]), none, some (.tup t)] (S.set r (rd A l e2 m')) = .ok (.tup t) (S.set r (rd A l e2 m')) := rfl
                    simp only [callG, consM, nilM, cM, bind_ok, hx, h4, t3, RO_some]
                    rfl
                  rw [this]
                  refine rt_set ?_
                  simp only [okD, okL, Bool.true_and, Bool.and_true] at htc ⊢
                  exact htc
              · have hp6 := c_pass_f (δ := [some (.loc r), some (.int d), some (.str [40]), none, some (.tup t)]) hl (h0 _ _ _ _) hS5 k6
                simp only [k5, k6, if_true, if_false]
                refine ⟨e + 1, m', ?_⟩
                rw [seq_exc hp6, ex_set]
            · have hp5 := c_pass_f (δ := [some (.loc r), some (.int d), some (.str [40]), none, some (.tup t)]) hl (h0 _ _ _ _) hS4 k5
              simp only [k5, if_false]
              refine ⟨e, m', ?_⟩
              show finD S (seqM _ _ [some (.loc r), some (.int d), some (.str [40]), none, some (.tup t)] (S.set r (rd A l e m'))) = _
              rw [seq_exc hp5, ex_set]
  · have hpn : pStep row l p m d = (p, none, m) := by
      unfold pStep
      rw [if_neg (fun z => hk ⟨⟨.inl z.1, z.2⟩, .inl (by rw [z.1]; exact ne _ _ (by decide))⟩), if_neg (fun z => hk ⟨⟨.inr (.inl z.1), z.2⟩, .inl (by rw [z.1]; exact ne _ _ (by decide))⟩),
        if_neg (fun z => hk ⟨⟨.inr (.inr (.inl z.1)), z.2⟩, .inl (by rw [z.1]; exact ne _ _ (by decide))⟩), if_neg (fun z => hk ⟨⟨.inr (.inr (.inr z.1)), z.2.1⟩, .inr z.2.2⟩)]
    rw [hpn]
    refine ⟨p, m, ?_⟩
    rw [stA_f hl hS hk]
    exact ex_same hS
end
end K28

/-! k28: what the program's reader computes: a row, a text; the two ways agree. -/
namespace K28
open PySem PySem.Spec L2 SL
theorem while_exc {nc : MB} {b : MS} {n : Nat} {δ δ2 : DEnv} {S S1 S2 : Store} {x : Ex} (h1 : nc δ S = .ok true S1) (h2 : b δ S1 = .exc x δ2 S2) : whileN nc b (n + 1) δ S = .exc x δ2 S2 := by
  unfold whileN
  rw [h1]
  simp only [bindS_ok, if_true, h2]
/-! ### how many steps; how far -/
def RM (row : Nat → Int → Int → Out) : Prop := ∀ p m d e t m', row p m d = (e, some t, m') → m ≤ 60 → m ≤ m' ∧ m' ≤ 60
theorem pStep_m {row : Nat → Int → Int → Out} (h : RM row) {l : List Nat} {p : Nat} {m d : Int} {e : Nat} {t : List SL.D} {m' : Int} (hs : pStep row l p m d = (e, some t, m')) : m + 1 ≤ m' ∧ m' ≤ 60 := by
  unfold pStep at hs
  split at hs
  · rename_i k; simp only [Prod.mk.injEq] at hs; omega
  · split at hs
    · rename_i k
      split at hs
      · simp at hs
      · simp only [Prod.mk.injEq] at hs; omega
    · split at hs
      · rename_i k
        split at hs
        · simp at hs
        · simp only [Prod.mk.injEq] at hs; omega
      · split at hs
        · rename_i k
          split at hs
          · simp at hs
          · rename_i e1 t1 m1 er
            have := h _ _ _ _ _ _ er (by omega)
            split at hs
            · split at hs
              · split at hs
                · simp at hs
                · simp only [Prod.mk.injEq] at hs; omega
              · simp at hs
            · simp at hs
        · simp at hs
theorem pSteps_m {step : Nat → Int → Out} {l : List Nat} (h : ∀ p m e t m', step p m = (e, some t, m') → m + 1 ≤ m' ∧ m' ≤ 60) : ∀ (k p : Nat) (m : Int) (acc : List SL.D) (e : Nat) (t : List SL.D) (m' : Int), pSteps step l k p m acc = (e, some t, m') → m ≤ m' ∧ m' ≤ 60
  | 0, p, m, acc, e, t, m', hs => by simp [pSteps] at hs
  | k + 1, p, m, acc, e, t, m', hs => by
    unfold pSteps at hs
    split at hs
    · simp at hs
    · rename_i e1 t1 m1 es
      have h1 := h _ _ _ _ _ es
      split at hs
      · have := pSteps_m h k _ _ _ _ _ _ hs
        omega
      · simp only [Prod.mk.injEq] at hs; omega
theorem pRow_m {l : List Nat} : ∀ f, RM (pRow l f)
  | 0 => fun p m d e t m' hs _ => by simp [pRow] at hs
  | f + 1 => fun p m d e t m' hs hm => by
    unfold pRow at hs
    split at hs
    · simp only [Prod.mk.injEq] at hs; omega
    · exact pSteps_m (fun p m e t m' hs => pStep_m (pRow_m f) hs) 62 p m [] e t m' hs
theorem pTimes_le {l : List Nat} {p : Nat} (hp : p ≤ l.length) : (pTimes l p).1 ≤ l.length := by
  have := run_len s_FIGURES l 31 p hp
  unfold pTimes
  split
  · rename_i k; exact ch_at k
  · split
    · exact hp
    · split
      · show runN s_FIGURES l 31 p - 1 ≤ _
        omega
      · exact this
theorem pStep_le {row : Nat → Int → Int → Out} {l : List Nat} (h : ∀ p m d, p ≤ l.length → (row p m d).1 ≤ l.length) {p : Nat} {m d : Int} (hp : p ≤ l.length) : (pStep row l p m d).1 ≤ l.length := by
  unfold pStep
  split
  · rename_i k; exact run_len _ _ _ _ (ch_at k.1)
  · split
    · rename_i k
      split
      · exact ch_at k.1
      · exact run_len _ _ _ _ (ch_at k.1)
    · split
      · rename_i k
        split
        · exact run_len _ _ _ _ (ch_at k.1)
        · rename_i k2
          have : ch l (runN s_SMALL l 8 (p + 1)) = [62] := by
            by_cases z : ch l (runN s_SMALL l 8 (p + 1)) = [62]
            · exact z
            · exact absurd (.inr z) k2
          exact ch_at this
      · split
        · rename_i k
          have hr := h (p + 1) (m + 1) (d + 1) (ch_at k.1)
          split
          · rename_i er; rw [er] at hr; exact hr
          · rename_i e1 t1 m1 er
            rw [er] at hr
            split
            · rename_i k5
              split
              · rename_i k6
                have := pTimes_le (l := l) (p := e1 + 2) (ch_at k6)
                split
                · rename_i et; rw [et] at this; exact this
                · rename_i et; rw [et] at this; exact this
              · exact ch_at k5
            · exact hr
        · exact hp
theorem pSteps_le {step : Nat → Int → Out} {l : List Nat} (h : ∀ p m, p ≤ l.length → (step p m).1 ≤ l.length) : ∀ (k p : Nat) (m : Int) (acc : List SL.D), p ≤ l.length → (pSteps step l k p m acc).1 ≤ l.length
  | 0, p, m, acc, hp => hp
  | k + 1, p, m, acc, hp => by
    unfold pSteps
    have h1 := h p m hp
    split
    · rename_i es; rw [es] at h1; exact h1
    · rename_i es
      rw [es] at h1
      split
      · rename_i k2; exact pSteps_le h k _ _ _ (ch_at k2)
      · exact h1
theorem pRow_le {l : List Nat} : ∀ (f p : Nat) (m d : Int), p ≤ l.length → (pRow l f p m d).1 ≤ l.length
  | 0, p, m, d, hp => hp
  | f + 1, p, m, d, hp => by
    unfold pRow
    split
    · rename_i k; exact ch_at k
    · exact pSteps_le (fun p m hp => pStep_le (fun p m d hp => pRow_le f p m d hp) hp) 62 p m [] hp
/-! ### the row -/
section
variable {A : Ad} {l : List Nat} {S : Store} {r : Nat}
noncomputable def rwC (A : Ad) : MB := cmpB eqG (methM A.Reader "here" 1 (φReader_here A) (vM 0) nilM []) (cM (.str [32]))
noncomputable def rwB (A : Ad) (φstep : Fn) : MS := (seqM (fldaugM A.Reader "now" addI (vM 0) (cM (.int 1)))
  (exprM (lmM appendG (vM 2) (consM (methM A.Reader "step" 2 φstep (vM 0) (consM (vM 1) nilM) []) nilM))))
def pT (step : Nat → Int → Out) (l : List Nat) (k e : Nat) (m : Int) (acc : List SL.D) : Out := if ch l e = [32] then pSteps step l k (e + 1) m acc else (e, some [.str w_steps, .tup acc], m)
def WR (A : Ad) (l : List Nat) (r : Nat) (S : Store) (δ : DEnv) (x : Flw) : Out → Prop
  | (e, some t, m') => ∃ acc, t = [.str w_steps, .tup acc] ∧ x = .nx δ (S.set r (rd A l e m') ++ [.lst acc])
  | (e, none, _) => ∃ q m'' acc, x = .exc (bad A e) δ (S.set r (rd A l q m'') ++ [.lst acc])
theorem row_while {φstep : Fn} {step : Nat → Int → Out} {d : Int} (hl : l.length ≤ 1000000) (hr : r < S.length) (hsm : ∀ p m e t m', step p m = (e, some t, m') → m + 1 ≤ m' ∧ m' ≤ 60) (hsl : ∀ p m, p ≤ l.length → (step p m).1 ≤ l.length)
    (hstep : ∀ p m S, p ≤ l.length → 0 ≤ m → m ≤ 60 → S[r]? = some (rd A l p m) → PO A l r S (φstep [.loc r, .int d] S) (step p m)) :
    ∀ (k e : Nat) (m : Int) (acc : List SL.D), 0 ≤ m → m ≤ 60 → 61 ≤ k + m → acc.length + k ≤ 62 → WR A l r S [some (.loc r), some (.int d), some (.loc S.length)] (whileN (rwC A) (rwB A φstep) (k + 1) [some (.loc r), some (.int d), some (.loc S.length)] (S.set r (rd A l e m) ++ [.lst acc])) (pT step l k e m acc) := by
  intro k
  induction k with
  | zero => intro e m acc _ h1 h2; omega
  | succ k ih =>
    intro e m acc hm0 h1 h2 h3
    have hS : ∀ (p : Nat) (m : Int) (acc : List SL.D), (S.set r (rd A l p m) ++ [Cell.lst acc])[r]? = some (rd A l p m) := fun p m acc => by
      rw [List.getElem?_append_left (by simpa using hr)]
      exact set_get hr
    have hset : ∀ (p p' : Nat) (m m' : Int) (acc : List SL.D), (S.set r (rd A l p m) ++ [Cell.lst acc]).set r (rd A l p' m') = S.set r (rd A l p' m') ++ [Cell.lst acc] := fun p p' m m' acc => by
      rw [set_app (by simpa using hr), List.set_set]
    have hlen : ∀ (p : Nat) (m : Int), (S.set r (rd A l p m)).length = S.length := fun p m => by simp
    have h0 : ∀ S2, vM 0 [some (.loc r), some (.int d), some (.loc S.length)] S2 = .ok (.loc r) S2 := fun S2 => rfl
    have hh := c_here hl (h0 _) (hS e m acc)
    unfold pT
    by_cases k1 : ch l e = [32]
    · rw [if_pos k1]
      have hc : rwC A [some (.loc r), some (.int d), some (.loc S.length)] (S.set r (rd A l e m) ++ [.lst acc]) = .ok true (S.set r (rd A l e m) ++ [.lst acc]) := by
        simp only [rwC, cmpB, hh, cM, gEqS, k1, asB, bind_ok, RO_some, decide_true]
      have ha := a_now (h0 _) (hS e m acc)
      rw [hset] at ha
      have hp1 := ch_at k1
      have hst := hstep (e + 1) m _ hp1 hm0 h1 (hS (e + 1) m acc)
      have hms := meth_is (C := A.Reader) (m := "step") (n := 2) (φ := φstep) (ms := consM (vM 1) nilM) (xs := [.int d]) (h0 (S.set r (rd A l (e + 1) m) ++ [.lst acc])) (hS (e + 1) m acc) rfl rfl rfl
      have hll : ∀ (p : Nat) (m : Int) (acc : List SL.D), locL (S.set r (rd A l p m) ++ [Cell.lst acc]) (.loc S.length) = some (S.length, acc) := fun p m acc => by
        show (match (S.set r (rd A l p m) ++ [Cell.lst acc])[S.length]? with | some (.lst ds) => some (S.length, ds) | _ => none) = _
        have := loc_at (S.set r (rd A l p m)) acc
        rw [hlen] at this
        rw [this]
      have h2v : ∀ S2, vM 2 [some (.loc r), some (.int d), some (.loc S.length)] S2 = .ok (.loc S.length) S2 := fun S2 => rfl
      have hsm' := hsm (e + 1) m
      unfold pSteps
      have hsl' := hsl (e + 1) m hp1
      generalize step (e + 1) m = o at hst hsm' hsl' ⊢
      obtain ⟨e2, t, m2⟩ := o
      cases t with
      | none =>
        obtain ⟨q, m3, hst⟩ := hst
        rw [hset] at hst
        refine ⟨q, m3, acc, ?_⟩
        refine while_exc hc ?_
        unfold rwB
        rw [seq_nx ha]
        refine expr_exc ?_
        have hx := hms.trans hst
        simp only [lmM, h2v, bind_ok, hll, consM, hx, bind_exc]
      | some t =>
        have hst' : φstep [.loc r, .int d] (S.set r (rd A l (e + 1) m) ++ [.lst acc]) = .ok (.tup t) ((S.set r (rd A l (e + 1) m) ++ [Cell.lst acc]).set r (rd A l e2 m2)) := hst
        rw [hset] at hst'
        have hm2 := hsm' e2 t m2 rfl
        have hb : rwB A φstep [some (.loc r), some (.int d), some (.loc S.length)] (S.set r (rd A l e m) ++ [.lst acc]) = .nx [some (.loc r), some (.int d), some (.loc S.length)] (S.set r (rd A l e2 m2) ++ [.lst (acc ++ [.tup t])]) := by
          unfold rwB
          rw [seq_nx ha]
          refine expr_ok (d := .non) ?_
          have hx := hms.trans hst'
          have e2' : appendG acc [.tup t] = some (.non, acc ++ [.tup t]) := if_pos (by omega)
          have hsa := set_at (S.set r (rd A l e2 m2)) acc (acc ++ [.tup t])
          rw [hlen] at hsa
          simp only [lmM, h2v, bind_ok, hll, consM, nilM, hx, e2', hsa]
        have hi := ih e2 m2 (acc ++ [.tup t]) (by omega) hm2.2 (by omega) (by simp; omega)
        rw [while_step hc hb rfl]
        exact hi
    · rw [if_neg k1]
      refine ⟨acc, rfl, ?_⟩
      refine while_end ?_
      simp only [rwC, cmpB, hh, cM, gEqS, k1, asB, bind_ok, RO_some, decide_false]
theorem prow_step {φstep : Fn} {step : Nat → Int → Out} {d : Int} {p : Nat} {m : Int} {n : Nat} {o : Out} (hl : l.length ≤ 1000000) (hp : p ≤ l.length) (hm0 : 0 ≤ m) (hm : m ≤ 60) (hS : S[r]? = some (rd A l p m)) (hsm : ∀ p m e t m', step p m = (e, some t, m') → m + 1 ≤ m' ∧ m' ≤ 60) (hsl : ∀ p m, p ≤ l.length → (step p m).1 ≤ l.length)
    (hstep : ∀ p m S, p ≤ l.length → 0 ≤ m → m ≤ 60 → S[r]? = some (rd A l p m) → PO A l r S (φstep [.loc r, .int d] S) (step p m)) (ho : o = if ch l p = [45] then (p + 1, some [.str w_steps, .tup []], m) else pSteps step l 62 p m []) (hcl : oOk n o) :
    PO A l r S (defM 3 (m_Reader_row A (φReader_here A) φstep) [.loc r, .int d] S) o := by
  have hf : defM 3 (m_Reader_row A (φReader_here A) φstep) [.loc r, .int d] S = finD S (m_Reader_row A (φReader_here A) φstep [some (.loc r), some (.int d), none] S) := rfl
  rw [hf]
  have hr := get_lt hS
  have h0 : vM 0 [some (.loc r), some (.int d), none] S = .ok (.loc r) S := rfl
  have hh := c_here hl h0 hS
  have hc : ∀ b, decide (ch l p = [45]) = b → cmpB eqG (methM A.Reader "here" 1 (φReader_here A) (vM 0) nilM []) (cM (.str [45])) [some (.loc r), some (.int d), none] S = .ok b S := fun b hb => by
    simp only [cmpB, hh, cM, gEqS, hb, asB, bind_ok, RO_some]
  unfold m_Reader_row
  by_cases k : ch l p = [45]
  · rw [if_pos k] at ho
    subst ho
    show _ = Res.ok _ _
    rw [seq_rt ((if_t (hc true (decide_eq_true k))).trans ((seq_nx (a_now h0 hS)).trans (ret_ok rfl)))]
    exact rt_set rfl
  · rw [if_neg k] at ho
    rw [seq_nx (if_fnx (hc false (decide_eq_false k)))]
    have hst := hstep p m S hp hm0 hm hS
    have hms := meth_is (C := A.Reader) (m := "step") (n := 2) (φ := φstep) (ms := consM (vM 1) nilM) (xs := [.int d]) h0 hS rfl rfl rfl
    have hlen : ∀ (p : Nat) (m : Int), (S.set r (rd A l p m)).length = S.length := fun p m => by simp
    have hex : ∀ (q e : Nat) (m' : Int) (acc : List SL.D) (δ : DEnv), finD S (.exc (bad A e) δ (S.set r (rd A l q m') ++ [.lst acc])) = .exc (bad A e) (S.set r (rd A l q m')) := fun q e m' acc δ => finX_cut rfl (hlen _ _) rd_set
    have hps : o = match step p m with
      | (e, none, m') => (e, none, m')
      | (e, some t, m') => pT step l 61 e m' [.tup t] := by
      rw [ho]
      show pSteps step l (61 + 1) p m [] = _
      unfold pSteps pT
      cases step p m with
      | mk e tm =>
        obtain ⟨t, m'⟩ := tm
        cases t <;> rfl
    have hsm' := hsm p m
    generalize step p m = o1 at hst hps hsm'
    obtain ⟨e, t, m'⟩ := o1
    cases t with
    | none =>
      obtain ⟨q, m3, hst⟩ := hst
      subst hps
      refine ⟨q, m3, ?_⟩
      have hx := hms.trans hst
      have : asgM 2 (lstLM (consM (methM A.Reader "step" 2 φstep (vM 0) (consM (vM 1) nilM) []) nilM)) [some (.loc r), some (.int d), none] S = .exc (bad A e) [some (.loc r), some (.int d), none] (S.set r (rd A l q m3)) := by
        refine asg_exc ?_
        simp only [lstLM, consM, hx, bind_exc]
      rw [seq_exc this, ex_set]
    | some t =>
      have hst' : φstep [.loc r, .int d] S = .ok (.tup t) (S.set r (rd A l e m')) := hst
      have hx := hms.trans hst'
      have hm2 := hsm' e t m' rfl
      have a1 : asgM 2 (lstLM (consM (methM A.Reader "step" 2 φstep (vM 0) (consM (vM 1) nilM) []) nilM)) [some (.loc r), some (.int d), none] S = .nx [some (.loc r), some (.int d), some (.loc S.length)] (S.set r (rd A l e m') ++ [.lst [.tup t]]) := by
        refine asg_ok (d := .loc S.length) ?_
        simp only [lstLM, consM, nilM, hx, bind_ok, List.length_cons, List.length_nil]
        rw [if_pos (by decide), hlen]
      rw [seq_nx a1]
      have hw := row_while (S := S) (d := d) hl hr hsm hsl hstep 61 e m' [.tup t] (by omega) hm2.2 (by omega) (by simp)
      have hps' : o = pT step l 61 e m' [.tup t] := hps
      rw [← hps'] at hw
      obtain ⟨e2, t2, m2⟩ := o
      have hwm : ∀ x : Flw, whileN (rwC A) (rwB A φstep) (61 + 1) [some (.loc r), some (.int d), some (.loc S.length)] (S.set r (rd A l e m') ++ [.lst [.tup t]]) = x → x ≠ .stuck →
          whileM (cmpB eqG (methM A.Reader "here" 1 (φReader_here A) (vM 0) nilM []) (cM (.str [32]))) (seqM (fldaugM A.Reader "now" addI (vM 0) (cM (.int 1))) (exprM (lmM appendG (vM 2) (consM (methM A.Reader "step" 2 φstep (vM 0) (consM (vM 1) nilM) []) nilM)))) [some (.loc r), some (.int d), some (.loc S.length)] (S.set r (rd A l e m') ++ [.lst [.tup t]]) = x := fun x hx hne => whileM_is 62 hx hne
      cases t2 with
      | none =>
        obtain ⟨q, m3, acc, hw⟩ := hw
        refine ⟨q, m3, ?_⟩
        rw [seq_exc (hwm _ hw (by intro z; cases z)), hex]
      | some t2 =>
        obtain ⟨acc, rfl, hw⟩ := hw
        show _ = Res.ok _ _
        rw [seq_nx (hwm _ hw (by intro z; cases z))]
        have htp : tupleG (S.set r (rd A l e2 m2) ++ [.lst acc]) [.loc S.length] = some (.tup acc) := by
          show (match (match (S.set r (rd A l e2 m2) ++ [Cell.lst acc])[S.length]? with | some (.lst ds) => some ds | _ => none) with | some ds => some (SL.D.tup ds) | none => none) = _
          have := loc_at (S.set r (rd A l e2 m2)) acc
          rw [hlen] at this
          rw [this]
        have t2' : ∀ (S : Store) (a b : SL.D), tupG S [a, b] = some (.tup [a, b]) := fun S a b => rfl
        have hret : retM (callG tupG (consM (cM (.str [115, 116, 101, 112, 115])) (consM (callG tupleG (consM (vM 2) nilM)) nilM))) [some (.loc r), some (.int d), some (.loc S.length)] (S.set r (rd A l e2 m2) ++ [.lst acc]) = .rt (.tup [.str w_steps, .tup acc]) (S.set r (rd A l e2 m2) ++ [.lst acc]) := by
          refine ret_ok ?_
          simp only [callG, consM, nilM, vM, cM, bind_ok, RO_some, htp, t2', List.getElem?_cons_zero, List.getElem?_cons_succ]
          rfl
        rw [hret]
        have hclo : okD 0 (.tup [.str w_steps, .tup acc]) = true := pl_cl (hcl _ rfl)
        exact fin_cut (fz_cl hclo) (hlen _ _) rd_set
theorem prow_ok (hl : l.length ≤ 1000000) : ∀ (f n p : Nat) (m d : Int) (S : Store), 1 ≤ f → d + f = 13 → 2 * f ≤ n → p ≤ l.length → 0 ≤ m → m ≤ 60 → S[r]? = some (rd A l p m) → PO A l r S ((grp_Reader_step_Reader_row A n).2 [.loc r, .int d] S) (pRow l f p m d) := by
  intro f
  induction f with
  | zero => intro n p m d S h; omega
  | succ f ih =>
    intro n p m d S _ hd hn hp hm0 hm hS
    obtain ⟨n, rfl⟩ : ∃ j, n = j + 2 := ⟨n - 2, by omega⟩
    have hok := pRow_ok (l := l) (f + 1) p m d
    refine prow_step (step := fun p m => pStep (pRow l f) l p m d) hl hp hm0 hm hS (fun p m e t m' hs => pStep_m (pRow_m f) hs) (fun p m hp => pStep_le (fun p m d hp => pRow_le f p m d hp) hp) (fun p m S hp hm0 hm hS => ?_) rfl hok
    exact pstep_ok (n := 3 * f) hl hm0 hS (fun p m d => pRow_ok f p m d) fun hd2 p m S hp2 hm1 hm2 hS2 => ih n p m (d + 1) S (by omega) (by omega) (by omega) hp2 hm1 hm2 hS2
end
end K28

/-! k28: a text told both ways. -/
namespace K28
open PySem PySem.Spec L2 SL
section
variable {A : Ad} {l : List Nat} {S : Store}
theorem ch_end {p : Nat} (hp : p ≤ l.length) : ch l p = [] ↔ p = l.length := by
  cases e : l[p]? with
  | none =>
    have := List.getElem?_eq_none_iff.mp e
    rw [ch_nil e]
    simp
    omega
  | some c =>
    have := (List.getElem?_eq_some_iff.mp e).1
    rw [ch_some e]
    constructor
    · intro z; cases z
    · intro z; omega
def tellO (l : List Nat) (o : Out) : SL.D := match o with
  | (e, some t, _) => if ch l e = [] then .tup t else .int e
  | (e, none, _) => .int e
def tell (l : List Nat) : SL.D := tellO l (pRow l 13 0 0 0)
theorem tell_pl (l : List Nat) : pl 40 (tell l) := by
  have h := pRow_ok (l := l) 13 0 0 0
  unfold tell
  generalize pRow l 13 0 0 0 = o at h ⊢
  obtain ⟨e, t, m⟩ := o
  cases t with
  | none => trivial
  | some t =>
    unfold tellO
    by_cases k : ch l e = []
    · simp only [k, if_true]; exact h t rfl
    · simp only [k, if_false]; trivial
theorem due_ok (hl : l.length ≤ 1000000) : φlaw_due A [.str l] S = .ok (tell l) S := by
  have hrow : φlaw_row_at A [.str l, .int 0, .int 0, .int 0] S = .ok (rOut (pRow l 13 0 0 0)) S := law_row_ok hl 13 40 0 0 0 S (by omega) (by omega) (by omega) (by omega)
  have hle := pRow_le (l := l) 13 0 0 0 (Nat.zero_le _)
  have hcl := pl_cl (tell_pl l)
  show finD S (m_law_due A (φlaw_row_at A) [some (.str l), none, none, none] S) = _
  unfold tell at hcl ⊢
  generalize pRow l 13 0 0 0 = o at hrow hle hcl ⊢
  obtain ⟨e, t, m⟩ := o
  have h1 : asgT (.tp [(.nm 1), (.nm 2), (.nm 3)]) (appM 4 (φlaw_row_at A) (consM (vM 0) (consM (cM (.int 0)) (consM (cM (.int 0)) (consM (cM (.int 0)) nilM)))) []) [some (.str l), none, none, none] S = .nx [some (.str l), some (.int e), some (oD t), some (.int m)] S := by
    refine asgT_ok (d := rOut (e, t, m)) ?_ rfl
    simp only [appM, consM, nilM, vM, cM, bind_ok, List.append_nil, List.length_cons, List.length_nil, Nat.reduceAdd, if_true, List.getElem?_cons_zero, List.getElem?_cons_succ, hrow]
  unfold m_law_due
  rw [seq_nx h1]
  have hlen : lenG S [.str l] = some (.int l.length) := gLenS hl
  cases t with
  | none =>
    have : retM (ifM (andB (cmpB isntG (vM 2) (cM .non)) (cmpB eqG (vM 1) (callG lenG (consM (vM 0) nilM)))) (vM 2) (vM 1)) [some (.str l), some (.int e), some .non, some (.int m)] S = .rt (.int e) S := rfl
    show finD S (retM _ [some (.str l), some (.int e), some .non, some (.int m)] S) = _
    rw [this]
    exact rt_fin rfl
  | some t =>
    have hin : isntG S (.tup t) .non = some (.bl true) := rfl
    have : retM (ifM (andB (cmpB isntG (vM 2) (cM .non)) (cmpB eqG (vM 1) (callG lenG (consM (vM 0) nilM)))) (vM 2) (vM 1)) [some (.str l), some (.int e), some (.tup t), some (.int m)] S = .rt (tellO l (e, some t, m)) S := by
      refine ret_ok ?_
      unfold tellO
      by_cases k : ch l e = []
      · have k2 : (e : Int) = (l.length : Int) := congrArg Int.ofNat ((ch_end (p := e) hle).mp k)
        simp only [ifM, andB, cmpB, callG, consM, nilM, vM, cM, hin, hlen, gEqI, k, k2, asB, bind_ok, RO_some, decide_true, if_true, List.getElem?_cons_zero, List.getElem?_cons_succ]
      · have k2 : ¬ (e : Int) = (l.length : Int) := fun z => k ((ch_end (p := e) hle).mpr (by omega))
        simp only [ifM, andB, cmpB, callG, consM, nilM, vM, cM, hin, hlen, gEqI, k, k2, asB, bind_ok, RO_some, decide_false, if_true, Bool.false_eq_true, if_false, List.getElem?_cons_zero, List.getElem?_cons_succ]
    show finD S (retM _ [some (.str l), some (.int e), some (.tup t), some (.int m)] S) = _
    rw [this]
    exact rt_fin hcl
theorem obj_set {c c' : Cell} : (S ++ [c]).set S.length c' = S ++ [c'] := by
  rw [List.set_append_right _ _ (Nat.le_refl _)]
  simp
theorem obj_get {c : Cell} : (S ++ [c])[S.length]? = some c := by simp
theorem init_ok : φReader_init A [.loc S.length, .str l] (S ++ [.obj A.Reader [] []]) = .ok .non (S ++ [rd A l 0 0]) := by
  show finD (S ++ [.obj A.Reader [] []]) (m_Reader_init A [some (.loc S.length), some (.str l)] (S ++ [.obj A.Reader [] []])) = _
  have h0 : ∀ S2, vM 0 [some (.loc S.length), some (.str l)] S2 = .ok (.loc S.length) S2 := fun S2 => rfl
  have : m_Reader_init A [some (.loc S.length), some (.str l)] (S ++ [.obj A.Reader [] []]) = .nx [some (.loc S.length), some (.str l)] (S ++ [rd A l 0 0]) := by
    unfold m_Reader_init
    have a1 := setf_ok (f := "signs") (mv := vM 1) (d := .str l) (δ := [some (.loc S.length), some (.str l)]) (S := S ++ [.obj A.Reader [] []]) rfl (h0 _) obj_get (by decide)
    rw [obj_set] at a1
    rw [seq_nx a1]
    have a2 := setf_ok (C := A.Reader) (f := "now") (mv := cM (.int 0)) (d := .int 0) (δ := [some (.loc S.length), some (.str l)]) (ns := ["signs"]) (ds := [.str l]) (S := S ++ [.obj A.Reader (putS [] [] "signs" (SL.D.str l)).1 (putS [] [] "signs" (SL.D.str l)).2]) rfl (h0 _) obj_get (by decide)
    rw [obj_set] at a2
    rw [seq_nx a2]
    have a3 := setf_ok (C := A.Reader) (f := "many") (mv := cM (.int 0)) (d := .int 0) (δ := [some (.loc S.length), some (.str l)]) (S := S ++ [.obj A.Reader ["signs", "now"] [.str l, .int 0]]) rfl (h0 _) obj_get (by decide)
    rw [obj_set] at a3
    exact a3
  rw [this]
  exact fin_cl (d := .non) rfl (by simp)
def readR (A : Ad) (l : List Nat) (S : Store) (x : Res SL.D) : Out → Prop
  | (e, some t, _) => if ch l e = [] then x = .ok (.tup t) S else x = .exc (bad A e) S
  | (e, none, _) => x = .exc (bad A e) S
theorem read_ok (hl : l.length ≤ 1000000) : readR A l S (φread_row A [.str l] S) (pRow l 13 0 0 0) := by
  have hf : φread_row A [.str l] S = finD S (m_read_row A (φReader_init A) (φReader_row A) (φReader_here A) (φReader_need A) [some (.str l), none, none] S) := rfl
  rw [hf]
  have a1 : asgM 1 (makeM A.Reader 2 (φReader_init A) (consM (vM 0) nilM) []) [some (.str l), none, none] S = .nx [some (.str l), some (.loc S.length), none] (S ++ [rd A l 0 0]) := by
    refine asg_ok (d := .loc S.length) ?_
    have hi := init_ok (A := A) (l := l) (S := S)
    have hn : SL.isNon .non = true := rfl
    simp only [makeM, mkM, consM, nilM, vM, bind_ok, List.append_nil, List.length_cons, List.length_nil, Nat.reduceAdd, if_true, List.getElem?_cons_zero, hi, hn]
  have hset : ∀ (p : Nat) (m : Int), (S ++ [rd A l 0 0]).set S.length (rd A l p m) = S ++ [rd A l p m] := fun p m => obj_set
  have hr := prow_ok (A := A) (l := l) (r := S.length) hl 13 60 0 0 0 (S ++ [rd A l 0 0]) (by omega) (by omega) (by omega) (Nat.zero_le _) (by omega) (by omega) obj_get
  have hcl := pRow_ok (l := l) 13 0 0 0
  have hm := meth_is (C := A.Reader) (m := "row") (n := 2) (φ := φReader_row A) (mo := vM 1) (ms := consM (cM (.int 0)) nilM) (xs := [.int 0]) (δ := [some (.str l), some (.loc S.length), none]) (S := S ++ [rd A l 0 0]) rfl obj_get rfl rfl rfl
  have hex : ∀ (q e : Nat) (m' : Int) (δ : DEnv), finD S (.exc (bad A e) δ (S ++ [rd A l q m'])) = .exc (bad A e) S := fun q e m' δ => finX_cut rfl rfl Settles.same
  unfold m_read_row
  rw [seq_nx a1]
  generalize pRow l 13 0 0 0 = o at hr hcl ⊢
  obtain ⟨e, t, m⟩ := o
  cases t with
  | none =>
    obtain ⟨q, m2, hr⟩ := hr
    rw [hset] at hr
    show _ = Res.exc _ _
    rw [seq_exc (asg_exc (hm.trans hr)), hex]
  | some t =>
    have hr' : φReader_row A [.loc S.length, .int 0] (S ++ [rd A l 0 0]) = .ok (.tup t) ((S ++ [rd A l 0 0]).set S.length (rd A l e m)) := hr
    rw [hset] at hr'
    rw [seq_nx (asg_ok (hm.trans hr'))]
    have hS : (S ++ [rd A l e m])[S.length]? = some (rd A l e m) := obj_get
    have hh := (meth_is (C := A.Reader) (m := "here") (n := 1) (φ := φReader_here A) (mo := vM 1) (ms := nilM) (xs := []) (δ := [some (.str l), some (.loc S.length), some (.tup t)]) (S := S ++ [rd A l e m]) rfl hS rfl rfl rfl).trans (here_ok hl hS)
    have hb : consM (op2M eqG (methM A.Reader "here" 1 (φReader_here A) (vM 1) nilM []) (cM (.str []))) nilM [some (.str l), some (.loc S.length), some (.tup t)] (S ++ [rd A l e m]) = .ok [.bl (decide (ch l e = []))] (S ++ [rd A l e m]) := by
      simp only [consM, nilM, op2M, hh, cM, gEqS, bind_ok, RO_some]
    have hn := meth_is (C := A.Reader) (m := "need") (n := 2) (φ := φReader_need A) (mo := vM 1) (δ := [some (.str l), some (.loc S.length), some (.tup t)]) (S := S ++ [rd A l e m]) rfl hS rfl hb rfl
    unfold readR
    show if ch l e = [] then _ else _
    by_cases k : ch l e = []
    · rw [if_pos k]
      have := expr_ok (hn.trans (need_t (decide_eq_true k)))
      show finD S (seqM _ _ [some (.str l), some (.loc S.length), some (.tup t)] (S ++ [rd A l e m])) = _
      rw [seq_nx this]
      show finV S (.tup t) (S ++ [rd A l e m]) = _
      exact fin_cut (fz_cl (pl_cl (hcl t rfl))) rfl Settles.same
    · rw [if_neg k]
      have := expr_exc (hn.trans (need_f (decide_eq_false k) hS))
      show finD S (seqM _ _ [some (.str l), some (.loc S.length), some (.tup t)] (S ++ [rd A l e m])) = _
      rw [seq_exc this, hex]
theorem told_ok (hl : l.length ≤ 1000000) : φlaw_told A [.str l] S = .ok (tell l) S := by
  have hr := read_ok (A := A) (S := S) hl
  have hcl := pl_cl (tell_pl l)
  show finD S (m_law_told A (φread_row A) [some (.str l), none, none] S) = _
  have hx : ∀ e : Nat, φread_row A [.str l] S = .exc (bad A e) S → m_law_told A (φread_row A) [some (.str l), none, none] S = .rt (.int e) S := fun e he => by
    unfold m_law_told
    have hb : asgM 1 (appM 1 (φread_row A) (consM (vM 0) nilM) []) [some (.str l), none, none] S = .exc (bad A e) [some (.str l), none, none] S := by
      refine asg_exc ?_
      simp only [appM, consM, nilM, vM, bind_ok, List.append_nil, List.length_cons, List.length_nil, Nat.reduceAdd, if_true, List.getElem?_cons_zero, he]
    have hct : ctOf [(A.BadText, true)] (bad A e).C = some true := by simp [ctOf, bad]
    have ht : tryM (ctOf [(A.BadText, true)]) 2 (fun a dd => (asgM 1 (xfM a dd "at" (vM 2)))) (asgM 1 (appM 1 (φread_row A) (consM (vM 0) nilM) [])) [some (.str l), none, none] S = .nx [some (.str l), some (.int e), none] S := by
      unfold tryM
      rw [hb]
      simp only
      rw [hct]
      rfl
    rw [seq_nx ht]
    rfl
  have hy : ∀ t, φread_row A [.str l] S = .ok t S → m_law_told A (φread_row A) [some (.str l), none, none] S = .rt t S := fun t he => by
    unfold m_law_told
    have hb : asgM 1 (appM 1 (φread_row A) (consM (vM 0) nilM) []) [some (.str l), none, none] S = .nx [some (.str l), some t, none] S := by
      refine asg_ok ?_
      simp only [appM, consM, nilM, vM, bind_ok, List.append_nil, List.length_cons, List.length_nil, Nat.reduceAdd, if_true, List.getElem?_cons_zero, he]
    have ht : tryM (ctOf [(A.BadText, true)]) 2 (fun a dd => (asgM 1 (xfM a dd "at" (vM 2)))) (asgM 1 (appM 1 (φread_row A) (consM (vM 0) nilM) [])) [some (.str l), none, none] S = .nx [some (.str l), some t, none] S := by
      unfold tryM
      rw [hb]
    rw [seq_nx ht]
    rfl
  unfold tell at hcl ⊢
  generalize pRow l 13 0 0 0 = o at hr hcl ⊢
  obtain ⟨e, t, m⟩ := o
  cases t with
  | none =>
    rw [hx e hr]
    exact rt_fin rfl
  | some t =>
    have hr' : if ch l e = [] then φread_row A [.str l] S = .ok (.tup t) S else φread_row A [.str l] S = .exc (bad A e) S := hr
    unfold tellO at hcl ⊢
    by_cases k : ch l e = []
    · rw [if_pos k] at hr'
      simp only [k, if_true] at hcl ⊢
      rw [hy _ hr']
      exact rt_fin hcl
    · rw [if_neg k] at hr'
      simp only [k, if_false] at hcl ⊢
      rw [hx e hr']
      exact rt_fin rfl
end
end K28

/-! k28: the texts that are drawn; the law. -/
namespace K28
open PySem PySem.Spec L2 SL
section
variable {A : Ad} {T S : Store}
/-- one of some texts -/
theorem of_texts {n : Nat} {ds : List SL.D} (h : Dw T S) (hn : ds ≠ []) (hl : ds.length < 1000) (hd : ∀ d ∈ ds, ∃ x, d = .str x ∧ x.length ≤ n) : ∃ x S', Dw T S' ∧ x.length ≤ n ∧ φlaw_of A [.loc 0, .lst ds] S = .ok (.str x) S' := by
  obtain ⟨d, S', h1, h2, h3⟩ := of_lst h hn (by omega) (okL_iff.mpr fun d hm => by obtain ⟨x, rfl, _⟩ := hd d hm; rfl)
  obtain ⟨x, rfl, hx⟩ := hd d h2
  exact ⟨x, S', h1, hx, h3⟩
theorem drawn {m : Int} (h : Dw T S) (hm : 0 < m) (hm2 : m < 2 ^ 64) : ∃ r : Nat, ∃ S', Dw T S' ∧ (r : Int) < m ∧ φlaw_draw A [.loc 0, .int m] S = .ok (.int r) S' := by
  obtain ⟨r, S', h1, h2, h3, h4⟩ := draw_dw h hm hm2
  obtain ⟨k, rfl⟩ : ∃ k : Nat, r = k := ⟨r.toNat, by omega⟩
  exact ⟨k, S', h1, h3, h4⟩
theorem gStr {S : Store} {i : Int} (h : i.natAbs.log2 < 1920) : strG S [.int i] = some (.str (strI i)) := by
  show (if i.natAbs.log2 < 1920 then some (SL.D.str (strI i)) else none) = _
  rw [if_pos h]
theorem gMulS {S : Store} {l : List Nat} {k : Int} (h : 0 ≤ k ∧ k ≤ 1000000 ∧ l.length * k.toNat ≤ 1000000) : mulG S (.str l) (.int k) = some (.str (List.replicate k.toNat l).flatten) := by
  show (if 0 ≤ k ∧ k ≤ 1000000 ∧ l.length * k.toNat ≤ 1000000 then some (SL.D.str (List.replicate k.toNat l).flatten) else none) = _
  rw [if_pos h]
theorem gAddL {S : Store} {a b : List SL.D} (h : a.length + b.length ≤ 1000000) : addG S (.lst a) (.lst b) = some (.lst (a ++ b)) := by
  show (if a.length + b.length ≤ 1000000 then some (SL.D.lst (a ++ b)) else none) = _
  rw [if_pos h]
def p0 : List SL.D := [.str [103, 111], .str [97, 98, 99, 100, 101, 102, 103, 104], .str [97, 98, 99, 100, 101, 102, 103, 104, 105], .str [120], .str [97, 66]]
def p1 (x : List Nat) : List SL.D := [.str [46], .str [46, 97, 66], .str [46, 97, 98, 99, 100, 101, 102, 103, 104, 105, 106, 107, 108], .str [46, 97, 98, 99, 100, 101, 102, 103, 104, 105, 106, 107, 108, 109], .str [126, 97], .str [126], .str ([60] ++ x ++ [62]), .str [45], .str [40, 41, 42, 51]]
def p2 : List SL.D := [.str [48], .str [49], .str [48, 55], .str [49, 48], .str (strI (10 ^ 30)), .str (strI (10 ^ 30 + 1)), .str (strI (10 ^ 30) ++ [48]), .str (List.replicate 31 [57]).flatten, .str []]
def p3 (x : List Nat) : List SL.D := [.str ([40, 46, 97, 32, 60, 98, 62, 41, 42] ++ x), .str ([40, 45, 41, 42] ++ x), .str ([40, 40, 46, 97, 41, 42, 50, 32, 126, 98, 41, 42] ++ x)]
theorem num1 : (strI (10 ^ 30)).length ≤ 40 := by decide +kernel
theorem num2 : (strI (10 ^ 30 + 1)).length ≤ 40 := by decide +kernel
theorem piece_ok (h : Dw T S) : ∃ x S', Dw T S' ∧ x.length ≤ 100 ∧ φlaw_piece A [.loc 0] S = .ok (.str x) S' := by
  have hf : φlaw_piece A [.loc 0] S = finD S (m_law_piece A (φlaw_of A) [some (.loc 0), none, none, none] S) := rfl
  rw [hf]
  have lst : ∀ (S : Store) (xs : List SL.D), xs.length ≤ 100 → lstG S xs = some (.lst xs) := fun S xs hx => gLst (by omega)
  -- the name
  obtain ⟨x0, S0, d0, l0, e0⟩ := of_texts (A := A) (n := 9) (ds := p0) h (by simp [p0]) (by simp [p0]) (by simp [p0])
  have a0 : asgM 1 (appM 2 (φlaw_of A) (consM (vM 0) (consM (callG lstG (consM (cM (.str [103, 111])) (consM (cM (.str [97, 98, 99, 100, 101, 102, 103, 104])) (consM (cM (.str [97, 98, 99, 100, 101, 102, 103, 104, 105])) (consM (cM (.str [120])) (consM (cM (.str [97, 66])) nilM)))))) nilM)) []) [some (.loc 0), none, none, none] S = .nx [some (.loc 0), some (.str x0), none, none] S0 := by
    refine asg_ok (d := .str x0) ?_
    exact e0
  unfold m_law_piece
  rw [seq_nx a0]
  -- the list
  have a1 : asgM 2 (callG lstG (consM (cM (.str [46])) (consM (cM (.str [46, 97, 66])) (consM (cM (.str [46, 97, 98, 99, 100, 101, 102, 103, 104, 105, 106, 107, 108])) (consM (cM (.str [46, 97, 98, 99, 100, 101, 102, 103, 104, 105, 106, 107, 108, 109])) (consM (cM (.str [126, 97])) (consM (cM (.str [126])) (consM (op2M addG (op2M addG (cM (.str [60])) (vM 1)) (cM (.str [62]))) (consM (cM (.str [45])) (consM (cM (.str [40, 41, 42, 51])) nilM)))))))))) [some (.loc 0), some (.str x0), none, none] S0 = .nx [some (.loc 0), some (.str x0), some (.lst (p1 x0)), none] S0 := by
    refine asg_ok (d := .lst (p1 x0)) ?_
    have g1 : addG S0 (.str [60]) (.str x0) = some (.str ([60] ++ x0)) := gAddS (by simp; omega)
    have g2 : addG S0 (.str ([60] ++ x0)) (.str [62]) = some (.str ([60] ++ x0 ++ [62])) := gAddS (by simp; omega)
    have v1 : vM 1 [some (.loc 0), some (.str x0), none, none] S0 = .ok (.str x0) S0 := rfl
    simp only [callG, consM, nilM, cM, op2M, v1, g1, g2, bind_ok, RO_some]
    rfl
  rw [seq_nx a1]
  -- the number
  have n1 := num1
  have n2 := num2
  obtain ⟨x2, S2, d2, l2, e2⟩ := of_texts (A := A) (n := 41) (ds := p2) d0 (by simp [p2]) (by simp [p2]) (by
    intro d hd
    simp only [p2, List.mem_cons, List.not_mem_nil, or_false] at hd
    rcases hd with rfl | rfl | rfl | rfl | rfl | rfl | rfl | rfl | rfl
    · exact ⟨_, rfl, by simp⟩
    · exact ⟨_, rfl, by simp⟩
    · exact ⟨_, rfl, by simp⟩
    · exact ⟨_, rfl, by simp⟩
    · exact ⟨_, rfl, by omega⟩
    · exact ⟨_, rfl, by omega⟩
    · exact ⟨_, rfl, by rw [List.length_append]; simp only [List.length_cons, List.length_nil]; omega⟩
    · exact ⟨_, rfl, by decide⟩
    · exact ⟨_, rfl, by simp⟩)
  have a2 : asgM 3 (appM 2 (φlaw_of A) (consM (vM 0) (consM (callG lstG (consM (cM (.str [48])) (consM (cM (.str [49])) (consM (cM (.str [48, 55])) (consM (cM (.str [49, 48])) (consM (callG strG (consM (op2M powG (cM (.int 10)) (cM (.int 30))) nilM)) (consM (callG strG (consM (op2M addG (op2M powG (cM (.int 10)) (cM (.int 30))) (cM (.int 1))) nilM)) (consM (op2M addG (callG strG (consM (op2M powG (cM (.int 10)) (cM (.int 30))) nilM)) (cM (.str [48]))) (consM (op2M mulG (cM (.str [57])) (cM (.int 31))) (consM (cM (.str [])) nilM)))))))))) nilM)) []) [some (.loc 0), some (.str x0), some (.lst (p1 x0)), none] S0 = .nx [some (.loc 0), some (.str x0), some (.lst (p1 x0)), some (.str x2)] S2 := by
    refine asg_ok (d := .str x2) ?_
    have g0 : powG S0 (.int 10) (.int 30) = some (.int (10 ^ 30)) := gPow (by decide)
    have g1 : strG S0 [.int (10 ^ 30)] = some (.str (strI (10 ^ 30))) := gStr (by decide +kernel)
    have g2 : strG S0 [.int (10 ^ 30 + 1)] = some (.str (strI (10 ^ 30 + 1))) := gStr (by decide +kernel)
    have g3 : addG S0 (.str (strI (10 ^ 30))) (.str [48]) = some (.str (strI (10 ^ 30) ++ [48])) := gAddS (by simp only [List.length_cons, List.length_nil]; omega)
    have g4 : mulG S0 (.str [57]) (.int 31) = some (.str (List.replicate 31 [57]).flatten) := gMulS (by decide)
    have v0 : vM 0 [some (.loc 0), some (.str x0), some (.lst (p1 x0)), none] S0 = .ok (.loc 0) S0 := rfl
    have e2' : φlaw_of A [.loc 0, .lst [.str [48], .str [49], .str [48, 55], .str [49, 48], .str (strI (10 ^ 30)), .str (strI (10 ^ 30 + 1)), .str (strI (10 ^ 30) ++ [48]), .str (List.replicate 31 [57]).flatten, .str []]] S0 = .ok (.str x2) S2 := e2
    have gl : ∀ a b c d e f g h i : SL.D, lstG S0 [a, b, c, d, e, f, g, h, i] = some (.lst [a, b, c, d, e, f, g, h, i]) := fun a b c d e f g h i => lst _ _ (by simp)
    simp only [appM, callG, consM, nilM, cM, op2M, v0, g0, g1, g2, g3, g4, gAddI, gl, bind_ok, RO_some, List.append_nil, List.length_cons, List.length_nil, Nat.reduceAdd, if_true, e2']
  rw [seq_nx a2]
  obtain ⟨x3, S3, d3, l3, e3⟩ := of_texts (A := A) (n := 100) (ds := p1 x0 ++ p3 x2) d2 (by simp [p1]) (by simp [p1, p3]) (by
    intro d hd
    simp only [p1, p3, List.cons_append, List.nil_append, List.mem_cons, List.not_mem_nil, or_false] at hd
    rcases hd with rfl | rfl | rfl | rfl | rfl | rfl | rfl | rfl | rfl | rfl | rfl | rfl <;> exact ⟨_, rfl, by simp <;> omega⟩)
  refine ⟨x3, S3, d3, l3, ?_⟩
  have a3 : retM (appM 2 (φlaw_of A) (consM (vM 0) (consM (op2M addG (vM 2) (callG lstG (consM (op2M addG (cM (.str [40, 46, 97, 32, 60, 98, 62, 41, 42])) (vM 3)) (consM (op2M addG (cM (.str [40, 45, 41, 42])) (vM 3)) (consM (op2M addG (cM (.str [40, 40, 46, 97, 41, 42, 50, 32, 126, 98, 41, 42])) (vM 3)) nilM))))) nilM)) []) [some (.loc 0), some (.str x0), some (.lst (p1 x0)), some (.str x2)] S2 = .rt (.str x3) S3 := by
    refine ret_ok ?_
    have g1 : addG S2 (.str [40, 46, 97, 32, 60, 98, 62, 41, 42]) (.str x2) = some (.str ([40, 46, 97, 32, 60, 98, 62, 41, 42] ++ x2)) := gAddS (by simp; omega)
    have g2 : addG S2 (.str [40, 45, 41, 42]) (.str x2) = some (.str ([40, 45, 41, 42] ++ x2)) := gAddS (by simp; omega)
    have g3 : addG S2 (.str [40, 40, 46, 97, 41, 42, 50, 32, 126, 98, 41, 42]) (.str x2) = some (.str ([40, 40, 46, 97, 41, 42, 50, 32, 126, 98, 41, 42] ++ x2)) := gAddS (by simp; omega)
    have v0 : vM 0 [some (.loc 0), some (.str x0), some (.lst (p1 x0)), some (.str x2)] S2 = .ok (.loc 0) S2 := rfl
    have v2 : vM 2 [some (.loc 0), some (.str x0), some (.lst (p1 x0)), some (.str x2)] S2 = .ok (.lst (p1 x0)) S2 := rfl
    have v3 : vM 3 [some (.loc 0), some (.str x0), some (.lst (p1 x0)), some (.str x2)] S2 = .ok (.str x2) S2 := rfl
    have gl : lstG S2 [.str ([40, 46, 97, 32, 60, 98, 62, 41, 42] ++ x2), .str ([40, 45, 41, 42] ++ x2), .str ([40, 40, 46, 97, 41, 42, 50, 32, 126, 98, 41, 42] ++ x2)] = some (.lst (p3 x2)) := lst _ _ (by simp)
    have ga : addG S2 (.lst (p1 x0)) (.lst (p3 x2)) = some (.lst (p1 x0 ++ p3 x2)) := gAddL (by simp [p1, p3])
    simp only [appM, callG, consM, nilM, cM, op2M, v0, v2, v3, g1, g2, g3, gl, ga, bind_ok, RO_some, List.append_nil, List.length_cons, List.length_nil, Nat.reduceAdd, if_true, e3]
  rw [a3]
  exact fin_cl (d := .str _) rfl (d3.len.trans h.len.symm)
/-! ### a text -/
theorem join_len (s : List Nat) : ∀ ls : List (List Nat), (joinL s ls).length ≤ (ls.map List.length).sum + ls.length * s.length
  | [] => by simp [joinL]
  | [x] => by simp [joinL]
  | x :: y :: r => by
    have := join_len s (y :: r)
    have e : (x :: y :: r).length * s.length = (y :: r).length * s.length + s.length := by simp [Nat.add_mul]
    simp only [joinL, List.length_append, List.map_cons, List.sum_cons] at this ⊢
    rw [e]
    omega
theorem asSs_map : ∀ xs : List (List Nat), asSs (xs.map SL.D.str) = some xs
  | [] => rfl
  | x :: xs => by simp [asSs, asSs_map xs]
theorem join_ok {S : Store} {s : List Nat} {xs : List (List Nat)} (h : (xs.map List.length).sum + xs.length * s.length ≤ 1000000) : joinG S (.str s) [.lst (xs.map SL.D.str)] = some (.str (joinL s xs)) := by
  show (match asSs (xs.map SL.D.str) with | some ls => if (ls.map List.length).sum + ls.length * s.length ≤ 1000000 then some (SL.D.str (joinL s ls)) else none | none => none) = _
  rw [asSs_map]
  exact if_pos h
theorem sum_le {n : Nat} : ∀ {xs : List (List Nat)}, (∀ x ∈ xs, x.length ≤ n) → (xs.map List.length).sum ≤ xs.length * n
  | [], _ => by simp
  | x :: xs, h => by
    have h1 := h x (by simp)
    have h2 := sum_le (n := n) (xs := xs) fun y hy => h y (by simp [hy])
    simp only [List.map_cons, List.sum_cons, List.length_cons, Nat.add_mul, Nat.one_mul]
    omega
theorem strs_of {P : List Nat → Prop} : ∀ {xs : List SL.D}, (∀ d ∈ xs, ∃ x, d = .str x ∧ P x) → ∃ ys : List (List Nat), xs = ys.map SL.D.str ∧ ∀ y ∈ ys, P y
  | [], _ => ⟨[], rfl, by simp⟩
  | d :: xs, h => by
    obtain ⟨x, rfl, hx⟩ := h d (by simp)
    obtain ⟨ys, rfl, hy⟩ := strs_of (xs := xs) fun d hd => h d (by simp [hd])
    exact ⟨x :: ys, rfl, fun y hm => by
      rcases List.mem_cons.mp hm with rfl | hm
      · exact hx
      · exact hy y hm⟩
theorem rep_len {α : Type} (l : List α) (k : Nat) : (List.replicate k l).flatten.length = k * l.length := by
  rw [List.length_flatten, List.map_replicate, List.sum_replicate_nat]
theorem text_ok (h : Dw T S) : ∃ x S', Dw T S' ∧ x.length ≤ 1000 ∧ φlaw_text A [.loc 0] S = .ok (.str x) S' := by
  have hf : φlaw_text A [.loc 0] S = finD S (m_law_text A (φlaw_draw A) (φlaw_piece A) [some (.loc 0), none, none, none] S) := rfl
  obtain ⟨k, S1, d1, hk, e1⟩ := drawn (A := A) (m := 8) h (by decide) (by decide)
  have a1 : asgM 1 (appM 2 (φlaw_draw A) (consM (vM 0) (consM (cM (.int 8)) nilM)) []) [some (.loc 0), none, none, none] S = .nx [some (.loc 0), some (.int k), none, none] S1 := asg_ok (d := .int k) e1
  have cq : ∀ (x : Int) (b : Bool), decide ((k : Int) = x) = b → cmpB eqG (vM 1) (cM (.int x)) [some (.loc 0), some (.int k), none, none] S1 = .ok b S1 := fun x b hb => by
    subst hb
    rfl
  have fin : ∀ (x : List Nat) (S' : Store), Dw T S' → finD S (.rt (.str x) S') = .ok (.str x) S' := fun x S' hd => fin_cl (d := .str _) rfl (hd.len.trans h.len.symm)
  rw [hf]
  unfold m_law_text
  rw [seq_nx a1]
  by_cases k0 : (k : Int) = 0
  · obtain ⟨j, S2, d2, hj, e2⟩ := drawn (A := A) (m := 3) d1 (by decide) (by decide)
    have hj' : j < 3 := by omega
    have m1 : ∀ S : Store, mulG S (.str [40]) (.int (11 + (j : Int))) = some (.str (List.replicate (11 + j) [40]).flatten) := fun S => by
      have : (11 + (j : Int)).toNat = 11 + j := by omega
      show (if 0 ≤ (11 + (j : Int)) ∧ (11 + (j : Int)) ≤ 1000000 ∧ ([40] : List Nat).length * (11 + (j : Int)).toNat ≤ 1000000 then some (SL.D.str (List.replicate (11 + (j : Int)).toNat [40]).flatten) else none) = _
      rw [if_pos ⟨by omega, by omega, by simp; omega⟩, this]
    have m2 : ∀ S : Store, mulG S (.str [41, 42, 50]) (.int (11 + (j : Int))) = some (.str (List.replicate (11 + j) [41, 42, 50]).flatten) := fun S => by
      have : (11 + (j : Int)).toNat = 11 + j := by omega
      show (if 0 ≤ (11 + (j : Int)) ∧ (11 + (j : Int)) ≤ 1000000 ∧ ([41, 42, 50] : List Nat).length * (11 + (j : Int)).toNat ≤ 1000000 then some (SL.D.str (List.replicate (11 + (j : Int)).toNat [41, 42, 50]).flatten) else none) = _
      rw [if_pos ⟨by omega, by omega, by simp; omega⟩, this]
    have l1 := rep_len [40] (11 + j)
    have l2 := rep_len [41, 42, 50] (11 + j)
    simp only [List.length_cons, List.length_nil] at l1 l2
    refine ⟨(List.replicate (11 + j) [40]).flatten ++ [46, 97] ++ (List.replicate (11 + j) [41, 42, 50]).flatten, S2, d2, by simp only [List.length_append, List.length_cons, List.length_nil]; omega, ?_⟩
    have a2 : asgM 2 (op2M addG (cM (.int 11)) (appM 2 (φlaw_draw A) (consM (vM 0) (consM (cM (.int 3)) nilM)) [])) [some (.loc 0), some (.int k), none, none] S1 = .nx [some (.loc 0), some (.int k), some (.int (11 + (j : Int))), none] S2 := by
      refine asg_ok (d := .int (11 + (j : Int))) ?_
      have v0 : vM 0 [some (.loc 0), some (.int k), none, none] S1 = .ok (.loc 0) S1 := rfl
      simp only [op2M, appM, consM, nilM, cM, v0, bind_ok, RO_some, List.append_nil, List.length_cons, List.length_nil, Nat.reduceAdd, if_true, e2, gAddI]
    have a3 : retM (op2M addG (op2M addG (op2M mulG (cM (.str [40])) (vM 2)) (cM (.str [46, 97]))) (op2M mulG (cM (.str [41, 42, 50])) (vM 2))) [some (.loc 0), some (.int k), some (.int (11 + (j : Int))), none] S2 = .rt (.str ((List.replicate (11 + j) [40]).flatten ++ [46, 97] ++ (List.replicate (11 + j) [41, 42, 50]).flatten)) S2 := by
      refine ret_ok ?_
      have v2 : vM 2 [some (.loc 0), some (.int k), some (.int (11 + (j : Int))), none] S2 = .ok (.int (11 + (j : Int))) S2 := rfl
      have g1 : addG S2 (.str (List.replicate (11 + j) [40]).flatten) (.str [46, 97]) = some (.str ((List.replicate (11 + j) [40]).flatten ++ [46, 97])) := gAddS (by simp only [List.length_cons, List.length_nil]; omega)
      have g2 : addG S2 (.str ((List.replicate (11 + j) [40]).flatten ++ [46, 97])) (.str (List.replicate (11 + j) [41, 42, 50]).flatten) = some (.str ((List.replicate (11 + j) [40]).flatten ++ [46, 97] ++ (List.replicate (11 + j) [41, 42, 50]).flatten)) := gAddS (by simp only [List.length_append, List.length_cons, List.length_nil]; omega)
      simp only [op2M, cM, v2, m1, m2, g1, g2, bind_ok, RO_some]
    rw [seq_rt ((if_t (cq 0 true (decide_eq_true k0))).trans ((seq_nx a2).trans a3))]
    exact fin _ _ d2
  · rw [seq_nx (if_fnx (cq 0 false (decide_eq_false k0)))]
    by_cases k1 : (k : Int) = 1
    · obtain ⟨j, S2, d2, hj, e2⟩ := drawn (A := A) (m := 3) d1 (by decide) (by decide)
      have hj' : j < 3 := by omega
      have hrep : (List.replicate (59 + j) [SL.D.str [46, 97]]).flatten = (List.replicate (59 + j) [46, 97]).map SL.D.str := by
        rw [List.map_replicate]
        generalize 59 + j = n
        induction n with
        | zero => rfl
        | succ n ih => rw [List.replicate_succ, List.flatten_cons, ih, List.replicate_succ]; rfl
      have m1 : ∀ S : Store, mulG S (.lst [.str [46, 97]]) (.int (59 + (j : Int))) = some (.lst ((List.replicate (59 + j) [46, 97]).map SL.D.str)) := fun S => by
        have : (59 + (j : Int)).toNat = 59 + j := by omega
        show (if 0 ≤ (59 + (j : Int)) ∧ (59 + (j : Int)) ≤ 1000000 ∧ ([SL.D.str [46, 97]] : List SL.D).length * (59 + (j : Int)).toNat ≤ 1000000 then some (SL.D.lst (List.replicate (59 + (j : Int)).toNat [SL.D.str [46, 97]]).flatten) else none) = _
        rw [if_pos ⟨by omega, by omega, by simp; omega⟩, this, hrep]
      have hsum : ((List.replicate (59 + j) [46, 97]).map List.length).sum = (59 + j) * 2 := by
        rw [List.map_replicate, List.sum_replicate_nat]; rfl
      have hjn := join_len [32] (List.replicate (59 + j) [46, 97])
      rw [hsum, List.length_replicate] at hjn
      simp only [List.length_cons, List.length_nil] at hjn
      refine ⟨joinL [32] (List.replicate (59 + j) [46, 97]), S2, d2, by omega, ?_⟩
      have a3 : retM (mtS joinG (cM (.str [32])) (consM (op2M mulG (callG lstG (consM (cM (.str [46, 97])) nilM)) (op2M addG (cM (.int 59)) (appM 2 (φlaw_draw A) (consM (vM 0) (consM (cM (.int 3)) nilM)) []))) nilM)) [some (.loc 0), some (.int k), none, none] S1 = .rt (.str (joinL [32] (List.replicate (59 + j) [46, 97]))) S2 := by
        refine ret_ok ?_
        have v0 : vM 0 [some (.loc 0), some (.int k), none, none] S1 = .ok (.loc 0) S1 := rfl
        have hs : isS (.str [32]) = true := rfl
        have gl : lstG S1 [.str [46, 97]] = some (.lst [.str [46, 97]]) := gLst (by simp)
        have gj := join_ok (S := S2) (s := [32]) (xs := List.replicate (59 + j) [46, 97]) (by rw [hsum, List.length_replicate]; simp; omega)
        simp only [mtS, op2M, appM, callG, consM, nilM, cM, v0, hs, gl, m1, gj, bind_ok, RO_some, List.append_nil, List.length_cons, List.length_nil, Nat.reduceAdd, if_true, e2, gAddI]
      rw [seq_rt ((if_t (cq 1 true (decide_eq_true k1))).trans a3)]
      exact fin _ _ d2
    · rw [seq_nx (if_fnx (cq 1 false (decide_eq_false k1)))]
      obtain ⟨j, S2, d2, hj, e2⟩ := drawn (A := A) (m := 5) d1 (by decide) (by decide)
      have hj' : j < 5 := by omega
      have v0 : vM 0 [some (.loc 0), some (.int k), none, none] S1 = .ok (.loc 0) S1 := rfl
      have hsrc : src1 (op2M addG (cM (.int 1)) (appM 2 (φlaw_draw A) (consM (vM 0) (consM (cM (.int 5)) nilM)) [])) [some (.loc 0), some (.int k), none, none] S1 = .ok (.rng 0 1 (1 + j)) S2 := by
        refine src1_of ?_ (by omega)
        simp only [op2M, appM, consM, nilM, cM, v0, bind_ok, RO_some, List.append_nil, List.length_cons, List.length_nil, Nat.reduceAdd, if_true, e2, gAddI]
        rfl
      obtain ⟨xs, S3, d3, hxl, hxs, hxc, hcomp⟩ := comp_gen (el := appM 1 (φlaw_piece A) (consM (vM 0) nilM) []) (i := 3) (ds := (List.range (1 + j)).map fun (i : Nat) => SL.D.int (0 + (i : Int) * 1)) (Inv := Dw T) (P := fun _ y => ∃ x, y = .str x ∧ x.length ≤ 100) hsrc d2 (fun S0 hI => hI.len.trans d2.len.symm) (fun S0 hI => d2.settles hI) (fun S0 t hI => rfl) (by simp; omega) (fun i d hd S0 acc hI => by
        obtain ⟨x, S4, d4, hx, e4⟩ := piece_ok (A := A) (hI.app (t := [.lst acc]))
        obtain ⟨S5, d5, rfl⟩ := d4.cut
        refine ⟨.str x, S5, d5, ⟨x, rfl, hx⟩, rfl, ?_⟩
        exact e4)
      obtain ⟨ys, rfl, hys⟩ := strs_of (P := fun x => x.length ≤ 100) (xs := xs) (fun d hd => by
        obtain ⟨i, hi, e⟩ := List.getElem_of_mem hd
        exact hxs i d (by rw [List.getElem?_eq_getElem hi, e]))
      have hyl : ys.length = 1 + j := by simpa using hxl
      have hsum := sum_le hys
      have hjn := join_len [32] ys
      simp only [List.length_cons, List.length_nil] at hjn
      rw [hyl] at hsum hjn
      refine ⟨joinL [32] ys, S3, d3, by omega, ?_⟩
      have a3 : retM (mtS joinG (cM (.str [32])) (consM (compM (src1 (op2M addG (cM (.int 1)) (appM 2 (φlaw_draw A) (consM (vM 0) (consM (cM (.int 5)) nilM)) []))) (.nm 3) yesB (appM 1 (φlaw_piece A) (consM (vM 0) nilM) []) [3]) nilM)) [some (.loc 0), some (.int k), none, none] S1 = .rt (.str (joinL [32] ys)) S3 := by
        refine ret_ok ?_
        have hs : isS (.str [32]) = true := rfl
        have gj := join_ok (S := S3) (s := [32]) (xs := ys) (by rw [hyl]; simp; omega)
        simp only [mtS, consM, nilM, cM, hs, bind_ok, if_true, hcomp, gj, RO_some]
      rw [a3]
      exact fin _ _ d3
/-! ### a text spoilt -/
def sg1 : List Nat := [32, 46, 126, 60, 62, 40, 41, 42, 45, 48, 49, 50, 51, 52, 53, 54, 55, 56, 57, 97, 98, 122, 65, 66, 90, 95, 64, 91, 123, 47, 58, 44, 59, 33, 35, 36, 38, 39, 43, 61, 63, 94, 124, 125]
theorem spoilt_ok {l : List Nat} (h : Dw T S) (hl : l.length ≤ 100000) : ∃ x S', Dw T S' ∧ x.length ≤ l.length + 1 ∧ φlaw_spoilt A [.loc 0, .str l] S = .ok (.str x) S' := by
  have hf : φlaw_spoilt A [.loc 0, .str l] S = finD S (m_law_spoilt A (φlaw_draw A) (φlaw_of A) [some (.loc 0), some (.str l), none, none, none] S) := rfl
  rw [hf]
  have hl6 : l.length ≤ 1000000 := by omega
  have a1 : asgM 2 (op2M addG (cM (.str [32, 46, 126, 60, 62, 40, 41, 42, 45, 48, 49, 50, 51, 52, 53, 54, 55, 56, 57, 97, 98, 122, 65, 66, 90, 95, 64, 91, 123, 47, 58, 44, 59, 33, 35, 36, 38, 39, 43, 61, 63, 94, 124, 125])) (cM (.str [10]))) [some (.loc 0), some (.str l), none, none, none] S = .nx [some (.loc 0), some (.str l), some (.str (sg1 ++ [10])), none, none] S := asg_ok (d := .str (sg1 ++ [10])) rfl
  obtain ⟨k, S1, d1, hk, e1⟩ := drawn (A := A) (m := (l.length : Int) + 1) h (by omega) (by omega)
  have hk' : k ≤ l.length := by omega
  have a2 : asgM 3 (appM 2 (φlaw_draw A) (consM (vM 0) (consM (op2M addG (callG lenG (consM (vM 1) nilM)) (cM (.int 1))) nilM)) []) [some (.loc 0), some (.str l), some (.str (sg1 ++ [10])), none, none] S = .nx [some (.loc 0), some (.str l), some (.str (sg1 ++ [10])), some (.int k), none] S1 := by
    refine asg_ok (d := .int k) ?_
    have hlen : lenG S [.str l] = some (.int l.length) := gLenS hl6
    have v0 : vM 0 [some (.loc 0), some (.str l), some (.str (sg1 ++ [10])), none, none] S = .ok (.loc 0) S := rfl
    have v1 : vM 1 [some (.loc 0), some (.str l), some (.str (sg1 ++ [10])), none, none] S = .ok (.str l) S := rfl
    simp only [appM, callG, consM, nilM, cM, op2M, v0, v1, hlen, gAddI, bind_ok, RO_some, List.append_nil, List.length_cons, List.length_nil, Nat.reduceAdd, if_true, e1]
  obtain ⟨c, S2, d2, hc, e2⟩ := of_str (l := sg1 ++ [10]) d1 (by simp) (by simp [sg1])
  have a3 : asgM 4 (appM 2 (φlaw_of A) (consM (vM 0) (consM (vM 2) nilM)) []) [some (.loc 0), some (.str l), some (.str (sg1 ++ [10])), some (.int k), none] S1 = .nx [some (.loc 0), some (.str l), some (.str (sg1 ++ [10])), some (.int k), some (.str [c])] S2 := asg_ok (d := .str [c]) e2
  unfold m_law_spoilt
  rw [seq_nx a1, seq_nx a2, seq_nx a3]
  have l1 : (l.take k).length ≤ k := by rw [List.length_take]; omega
  have l2 : (l.take k ++ [c] ++ l.drop k).length = l.length + 1 := by
    simp only [List.length_append, List.length_take, List.length_drop, List.length_cons, List.length_nil]
    omega
  have l3 : (l.take k ++ l.drop (k + 1)).length ≤ l.length := by
    simp only [List.length_append, List.length_take, List.length_drop]
    omega
  have l4 : (l.take k ++ [c] ++ l.drop (k + 1)).length ≤ l.length + 1 := by
    simp only [List.length_append, List.length_take, List.length_drop, List.length_cons, List.length_nil]
    omega
  obtain ⟨x, S3, d3, hx, e3⟩ := of_texts (A := A) (n := l.length + 1) (ds := [.str (l.take k ++ [c] ++ l.drop k), .str (l.take k ++ l.drop (k + 1)), .str (l.take k ++ [c] ++ l.drop (k + 1)), .str (l.take k), .str (l ++ [32]), .str l]) d2 (by simp) (by simp) (by
    intro d hd
    simp only [List.mem_cons, List.not_mem_nil, or_false] at hd
    rcases hd with rfl | rfl | rfl | rfl | rfl | rfl
    · exact ⟨_, rfl, by omega⟩
    · exact ⟨_, rfl, by omega⟩
    · exact ⟨_, rfl, by omega⟩
    · exact ⟨_, rfl, by omega⟩
    · exact ⟨_, rfl, by simp⟩
    · exact ⟨_, rfl, by omega⟩)
  refine ⟨x, S3, d3, hx, ?_⟩
  have a4 : retM (appM 2 (φlaw_of A) (consM (vM 0) (consM (callG lstG (consM (op2M addG (op2M addG (slM (vM 1) noO (soO (vM 3))) (vM 4)) (slM (vM 1) (soO (vM 3)) noO)) (consM (op2M addG (slM (vM 1) noO (soO (vM 3))) (slM (vM 1) (soO (op2M addG (vM 3) (cM (.int 1)))) noO)) (consM (op2M addG (op2M addG (slM (vM 1) noO (soO (vM 3))) (vM 4)) (slM (vM 1) (soO (op2M addG (vM 3) (cM (.int 1)))) noO)) (consM (slM (vM 1) noO (soO (vM 3))) (consM (op2M addG (vM 1) (cM (.str [32]))) (consM (vM 1) nilM))))))) nilM)) []) [some (.loc 0), some (.str l), some (.str (sg1 ++ [10])), some (.int k), some (.str [c])] S2 = .rt (.str x) S3 := by
    refine ret_ok ?_
    have v0 : vM 0 [some (.loc 0), some (.str l), some (.str (sg1 ++ [10])), some (.int k), some (.str [c])] S2 = .ok (.loc 0) S2 := rfl
    have v1 : vM 1 [some (.loc 0), some (.str l), some (.str (sg1 ++ [10])), some (.int k), some (.str [c])] S2 = .ok (.str l) S2 := rfl
    have v3 : vM 3 [some (.loc 0), some (.str l), some (.str (sg1 ++ [10])), some (.int k), some (.str [c])] S2 = .ok (.int k) S2 := rfl
    have v4 : vM 4 [some (.loc 0), some (.str l), some (.str (sg1 ++ [10])), some (.int k), some (.str [c])] S2 = .ok (.str [c]) S2 := rfl
    have s1 : slG S2 (.str l) none (some (k : Int)) = some (.str (l.take k)) := by rw [gSlS hl6, cut_to]
    have s2 : slG S2 (.str l) (some (k : Int)) none = some (.str (l.drop k)) := by rw [gSlS hl6, cut_from]
    have s3 : slG S2 (.str l) (some ((k + 1 : Nat) : Int)) none = some (.str (l.drop (k + 1))) := by rw [gSlS hl6, cut_from]
    have q1 : (l.drop k).length ≤ l.length := by rw [List.length_drop]; omega
    have q2 : (l.drop (k + 1)).length ≤ l.length := by rw [List.length_drop]; omega
    have g1 : addG S2 (.str (l.take k)) (.str [c]) = some (.str (l.take k ++ [c])) := gAddS (by simp only [List.length_cons, List.length_nil]; omega)
    have g2 : addG S2 (.str (l.take k ++ [c])) (.str (l.drop k)) = some (.str (l.take k ++ [c] ++ l.drop k)) := gAddS (by simp only [List.length_append, List.length_cons, List.length_nil]; omega)
    have g3 : addG S2 (.str (l.take k)) (.str (l.drop (k + 1))) = some (.str (l.take k ++ l.drop (k + 1))) := gAddS (by omega)
    have g4 : addG S2 (.str (l.take k ++ [c])) (.str (l.drop (k + 1))) = some (.str (l.take k ++ [c] ++ l.drop (k + 1))) := gAddS (by simp only [List.length_append, List.length_cons, List.length_nil]; omega)
    have g5 : addG S2 (.str l) (.str [32]) = some (.str (l ++ [32])) := gAddS (by simp only [List.length_cons, List.length_nil]; omega)
    have gl : ∀ a b c d e f : SL.D, lstG S2 [a, b, c, d, e, f] = some (.lst [a, b, c, d, e, f]) := fun a b c d e f => gLst (by simp)
    simp only [appM, callG, consM, nilM, cM, op2M, slM, noO, soO, asI, v0, v1, v3, v4, s1, s2, s3, g1, g2, g3, g4, g5, gl, gAddI, castS, bind_ok, RO_some, List.append_nil, List.length_cons, List.length_nil, Nat.reduceAdd, if_true, e3]
  rw [a4]
  exact fin_cl (d := .str _) rfl (d3.len.trans h.len.symm)
/-! ### the law -/
theorem same_eq (A : Ad) : ∀ n, grp_law_same A n = sameN n
  | 0 => rfl
  | n + 1 => by
    show defM 3 (m_law_same A (grp_law_same A n)) = defM 3 (sameM (sameN n))
    rw [same_eq A n]
    rfl
theorem lsame_ok {x : SL.D} (h : pl 40 x) : φlaw_same A [x, x] S = .ok (.bl true) S := by
  show grp_law_same A 40 [x, x] S = _
  rw [same_eq]
  exact same_ok 40 x h S
noncomputable def lawB (A : Ad) : MS := (seqM (asgM 3 (appM 1 (φlaw_text A) (consM (vM 1) nilM) []))
  (seqM (SL.forM (src1 (appM 2 (φlaw_draw A) (consM (vM 1) (consM (cM (.int 3)) nilM)) [])) (.nm 4) (asgM 3 (appM 2 (φlaw_spoilt A) (consM (vM 1) (consM (vM 3) nilM)) [])))
  (ifSM (notB (trM (appM 2 (φlaw_same A) (consM (appM 1 (φlaw_told A) (consM (vM 3) nilM) []) (consM (appM 1 (φlaw_due A) (consM (vM 3) nilM) []) nilM)) []))) (retM (cM (.bl false))) nxM)))
theorem lawB_ok {x2 x3 x4 : Option SL.D} (h : Dw [] S) : ∃ y3 y4 S', Dw [] S' ∧ lawB A [none, some (.loc 0), x2, x3, x4] S = .nx [none, some (.loc 0), x2, y3, y4] S' := by
  obtain ⟨l, S1, d1, hl, e1⟩ := text_ok (A := A) h
  have a1 : asgM 3 (appM 1 (φlaw_text A) (consM (vM 1) nilM) []) [none, some (.loc 0), x2, x3, x4] S = .nx [none, some (.loc 0), x2, some (.str l), x4] S1 := asg_ok (d := .str l) e1
  obtain ⟨n, S2, d2, hn, e2⟩ := drawn (A := A) (m := 3) d1 (by decide) (by decide)
  have hn' : n < 3 := by omega
  have hsrc : src1 (appM 2 (φlaw_draw A) (consM (vM 1) (consM (cM (.int 3)) nilM)) []) [none, some (.loc 0), x2, some (.str l), x4] S1 = .ok (.rng 0 1 n) S2 := src1_of e2 (by omega)
  have hit : ∀ S : Store, items S (.rng 0 1 n) = some ((List.range n).map fun (i : Nat) => SL.D.int (0 + (i : Int) * 1)) := fun S => rfl
  obtain ⟨δ', S3, ⟨l3, y4, rfl, hl3, d3⟩, hfor⟩ := for_gen (src := .rng 0 1 n) (tg := .nm 4) (b := asgM 3 (appM 2 (φlaw_spoilt A) (consM (vM 1) (consM (vM 3) nilM)) [])) (ds := (List.range n).map fun (i : Nat) => SL.D.int (0 + (i : Int) * 1))
    (J := fun k δ S => ∃ l y, δ = [none, some (.loc 0), x2, some (.str l), y] ∧ l.length ≤ 1000 + k ∧ Dw [] S) (fun k δ S _ => hit S) (fun k d hd δ S hJ => by
      obtain ⟨l, y, rfl, hl, hD⟩ := hJ
      have hk := (rng_at hd).1
      obtain ⟨x, S4, d4, hx, e4⟩ := spoilt_ok (A := A) hD (l := l) (by omega)
      exact ⟨[none, some (.loc 0), x2, some (.str l), some d], _, S4, rfl, asg_ok (d := .str x) e4, x, some d, rfl, by omega, d4⟩) (δ := [none, some (.loc 0), x2, some (.str l), x4]) (S := S2) ⟨l, x4, rfl, by omega, d2⟩
  have hl3' : l3.length ≤ 1000000 := by
    have : ((List.range n).map fun (i : Nat) => SL.D.int (0 + (i : Int) * 1)).length = n := by simp
    omega
  refine ⟨some (.str l3), y4, S3, d3, ?_⟩
  unfold lawB
  rw [seq_nx a1, seq_nx ((forM_is hsrc (hit S2)).trans hfor)]
  refine if_fnx ?_
  have ht := told_ok (A := A) (S := S3) hl3'
  have hd := due_ok (A := A) (S := S3) hl3'
  have hs := lsame_ok (A := A) (S := S3) (tell_pl l3)
  have v3 : vM 3 [none, some (.loc 0), x2, some (.str l3), y4] S3 = .ok (.str l3) S3 := rfl
  have tb : truthB S3 (.bl true) = some true := rfl
  simp only [notB, trM, appM, consM, nilM, v3, ht, hd, hs, tb, bind_ok, RO_some, List.append_nil, List.length_cons, List.length_nil, Nat.reduceAdd, if_true, Bool.not_true]
theorem mlaw_eq (A : Ad) : mlaw A = seqM (SL.forM (src1 (cM (.int 6))) (.nm 2) (lawB A))
  (retM (appM 2 (φlaw_same A) (consM (callG lstG (consM (appM 1 (φlaw_told A) (consM (cM (.str [])) nilM) []) (consM (appM 1 (φlaw_told A) (consM (cM (.str [32])) nilM) []) (consM (appM 1 (φlaw_told A) (consM (cM (.str [45, 45])) nilM) []) nilM)))) (consM (callG lstG (consM (cM (.int 0)) (consM (cM (.int 0)) (consM (cM (.int 1)) nilM)))) nilM)) [])) := rfl
theorem law_true (A : Ad) (ns : List Int) (_ : ns.length ≤ 63) : ∃ S', mlaw A (none :: some (.loc 0) :: List.replicate 3 none) [drawS ns 0 0 (seedOf ns) 0] = .rt (.bl true) S' := by
  have h0 : Dw [] [drawS ns 0 0 (seedOf ns) 0] := ⟨ns, 0, 0, _, 0, by omega, rfl⟩
  show ∃ S', mlaw A [none, some (.loc 0), none, none, none] _ = _
  rw [mlaw_eq]
  have hsrc : src1 (cM (.int 6)) [none, some (.loc 0), none, none, none] [drawS ns 0 0 (seedOf ns) 0] = .ok (.rng 0 1 6) [drawS ns 0 0 (seedOf ns) 0] := rfl
  have hit : ∀ S : Store, items S (.rng 0 1 6) = some ((List.range 6).map fun (i : Nat) => SL.D.int (0 + (i : Int) * 1)) := fun S => rfl
  obtain ⟨δ', S', ⟨x2, x3, x4, rfl, hD⟩, hfor⟩ := for_gen (src := .rng 0 1 6) (tg := .nm 2) (b := lawB A) (ds := (List.range 6).map fun (i : Nat) => SL.D.int (0 + (i : Int) * 1))
    (J := fun _ δ S => ∃ x2 x3 x4, δ = [none, some (.loc 0), x2, x3, x4] ∧ Dw [] S) (fun k δ S _ => hit S) (fun k d hd δ S hJ => by
      obtain ⟨x2, x3, x4, rfl, hD⟩ := hJ
      obtain ⟨y3, y4, S4, d4, e4⟩ := lawB_ok (A := A) (x2 := some d) (x3 := x3) (x4 := x4) hD
      exact ⟨[none, some (.loc 0), some d, x3, x4], _, S4, rfl, e4, some d, y3, y4, rfl, d4⟩) (δ := [none, some (.loc 0), none, none, none]) (S := [drawS ns 0 0 (seedOf ns) 0]) ⟨none, none, none, rfl, h0⟩
  rw [seq_nx ((forM_is hsrc (hit _)).trans hfor)]
  refine ⟨S', ret_ok ?_⟩
  have t0 := told_ok (A := A) (S := S') (l := []) (by simp)
  have t1 := told_ok (A := A) (S := S') (l := [32]) (by simp)
  have t2 := told_ok (A := A) (S := S') (l := [45, 45]) (by simp)
  have e0 : tell [] = .int 0 := rfl
  have e1 : tell [32] = .int 0 := rfl
  have e2 : tell [45, 45] = .int 1 := rfl
  rw [e0] at t0
  rw [e1] at t1
  rw [e2] at t2
  have gl : ∀ a b c : SL.D, lstG S' [a, b, c] = some (.lst [a, b, c]) := fun a b c => gLst (by simp)
  have hs := lsame_ok (A := A) (S := S') (x := .lst [.int 0, .int 0, .int 1]) ⟨by simp, fun d hd => by
    simp only [List.mem_cons, List.not_mem_nil, or_false] at hd
    rcases hd with rfl | rfl | rfl <;> trivial⟩
  simp only [appM, callG, consM, nilM, cM, t0, t1, t2, gl, hs, bind_ok, RO_some, List.append_nil, List.length_cons, List.length_nil, Nat.reduceAdd, if_true]
end
end K28

open PySem PySem.W PySem.Calls PyProof.Rows
theorem PySem.Challenge.cw_nearcall_k28_texts_that_are_no_row_holds : PySem.Challenge.rw_nearcall_k28_texts_that_are_no_row.Holds := by
  w_on; o_law
  refine HandSHeadRun.head_any (r := OpenLaw.row PySem.Challenge.rw_nearcall_k28_texts_that_are_no_row) (q := view (OpenLaw.row PySem.Challenge.rw_nearcall_k28_texts_that_are_no_row).prog [29]) (H := K28.hk) (ob := K28.ob) (M := 4000) (loose := K28.loose) (d := HandSHeadRun.topDef (OpenLaw.row PySem.Challenge.rw_nearcall_k28_texts_that_are_no_row).prog 29) (kwd := []) K28.ob_eq
    (by kernel_rfl) (fun s => by kernel_rfl) K28.run (by kernel_rfl) (by kernel_rfl) (by kernel_rfl) (by rfl) (by first | assumption | decide +kernel) (by decide +kernel) ⟨rfl, rfl, rfl, rfl, rfl, by decide +kernel⟩ ?hw ?hc
  case hw => w_witness2
  case hc =>
    refine L2.walk_ofE (l := PySem.Challenge.rw_nearcall_k28_texts_that_are_no_row) (n := 63) (k := 71) (x := "_law_script") (CX := L2.CX0) rfl (by decide) (by kernel_rfl) ⟨rfl, by decide, by decide⟩ ?F (fun _ _ _ _ z => z)
    intro w mg fa h Y G hmg0
    obtain ⟨K, KX, c⟩ := Y
    have hmg : mg ("law" : PySem.Str) = some (.ref fa) := by
      have e : (HandSHeadRun.topDef (OpenLaw.row PySem.Challenge.rw_nearcall_k28_texts_that_are_no_row).prog 29).name = ("law" : PySem.Str) := by kernel_rfl
      rw [← e]
      exact hmg0
    obtain ⟨E, x⟩ := K28.fx_of KX G c
    have e := hmg.symm.trans x.m_law
    cases e
    have b := x.F_law.bindsA (ps := ["_law_script"]) fun _ _ _ _ _ _ us hl => match us, hl with | [_], _ => rfl
    exact ⟨K, _, _, KX, fun s v => b s [v] rfl, fun H a ns hl _ hS => ⟨a, ns, rfl, hS, hl, K28.law_true _ ns hl, fun _ => rfl⟩, fun base _ _ => SL.no_out (K28.p_law x (Nat.le_refl _)) fun _ _ _ _ h => h⟩
