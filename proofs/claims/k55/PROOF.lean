import PyProof.Rows.All
import Wide.All
import OpenK.AllK
import Wide.FinOn
import HandS.ForMost
import HandS.TupAny
import HandS.TupLe
import HandS.WideBits
import HandS.Style
import HandS.Deep
import HandS.TupMul
import HandS.SortInts
import HandS.IsInst
import HandS.Conv
import HandS.More
import HandS.Iter
import KE.GoesNew
import KE.GoesMore
import HandS.Comp
import HandS.Rev
import HandS.Defaults
import HandS.NamedTupSort
import KE.KDictItemsList
import KE.KDictZip
import HandS.ListItems
import PySem.Challenge.RW_sameorapart_k55_how_many_by_all_draws
set_option Elab.async false
set_option linter.all false
set_option maxRecDepth 100000
set_option maxHeartbeats 4000000
namespace Dn
open PySem PySem.Spec PyProof.Rows L2
abbrev St := L2.St

/-! ### values, stores -/
inductive D where
  | non | bl (b : Bool) | int (i : Int) | str (x : Str)
  | tup (xs : List D) | lst (xs : List D) | rol (xs : List Int) | ref (n : Nat)

inductive O where
  | lst (xs : List D)
  | dI (ks : List Key) (xs : List D)
  | fI (ks : List Key) (xs : List D)
  | dT (ks : List (List Int)) (xs : List D)
  | ins (c : Str) (fs : List Str) (xs : List D)
abbrev Store := List O
abbrev Env := List (Option D)
structure Exn where
  cls : Str
  at_ : D
inductive Res (τ : Type) where
  | ok (d : τ) (S : Store) | exc (e : Exn) (S : Store) | bad
def rbind {τ ω : Type} (r : Res τ) (k : τ → Store → Res ω) : Res ω := match r with
  | .ok d S => k d S
  | .exc e S => .exc e S
  | .bad => .bad
abbrev Den := Env → Store → Res D
abbrev DenT := Env → Store → Res Bool
abbrev DenA := Env → Store → Res (List D)
inductive Out where
  | nx (ρ : Env) (S : Store) | bk (ρ : Env) (S : Store) | ct (ρ : Env) (S : Store) | rt (d : D) (S : Store) | exc (e : Exn) (ρ : Env) (S : Store) | bad
abbrev DenS := Env → Store → Out

/-! ### what is represented -/
structure Gx where
  K : PySem.W.Frag
  mg : Str → Option Value
def Fz (α : List Addr) (H : Hp) (a : Addr) (u : HO) : Prop := Rd H a u ∧ a ∉ α
def KTup (K : PySem.W.Frag) (a : Addr) (vs : List V) : Prop :=
  ∃ (o : Obj) (its : Array Value) (n : Nat), K.lookup a = some o ∧ o.cls = .type "tuple" ∧ o.data = .seq its n ∧ its.size ≤ sizeLine ∧ Vals vs its.toList
def KLst (K : PySem.W.Frag) (a : Addr) (vs : List V) : Prop :=
  ∃ (o : Obj) (its : Array Value) (n : Nat), K.lookup a = some o ∧ o.cls = .type "list" ∧ o.dict = none ∧ o.data = .seq its n ∧ its.size ≤ sizeLine ∧ Vals vs its.toList

mutual
inductive Rep (G : Gx) (α : List Addr) (H : Hp) : D → V → Prop where
  | non : Rep G α H .non .non
  | bl (b : Bool) : Rep G α H (.bl b) (.bl b)
  | int (i : Int) : Rep G α H (.int i) (.int i)
  | str (x : Str) : Rep G α H (.str x) (.str x)
  | tup {a : Addr} {xs : List D} {vs : List V} (h : Fz α H a (.tup vs) ∨ KTup G.K a vs) (r : Reps G α H xs vs) : Rep G α H (.tup xs) (.ref a)
  | lst {a : Addr} {xs : List D} {vs : List V} (h : H a = some (.lst vs)) (n : a ∉ α) (r : Reps G α H xs vs) : Rep G α H (.lst xs) (.ref a)
  | rol {a : Addr} {xs : List Int} (h : Fz α H a (.lst (xs.map V.int)) ∨ KLst G.K a (xs.map V.int)) : Rep G α H (.rol xs) (.ref a)
  | ref {n : Nat} {a : Addr} (h : α[n]? = some a) : Rep G α H (.ref n) (.ref a)
inductive Reps (G : Gx) (α : List Addr) (H : Hp) : List D → List V → Prop where
  | nil : Reps G α H [] []
  | cons {d : D} {v : V} {ds : List D} {vs : List V} (r : Rep G α H d v) (t : Reps G α H ds vs) : Reps G α H (d :: ds) (v :: vs)
end

structure Nxt (α : List Addr) (H : Hp) (α' : List Addr) (H' : Hp) : Prop where
  pre : ∃ l, α' = α ++ l
  keep : ∀ a o, H a = some o → a ∉ α → H' a = some o ∧ a ∉ α'
  fz : ∀ a ob u, H a = some (.frz ob u) → H' a = some (.frz ob u)

section
variable {G : Gx} {α α' α2 : List Addr} {H H' H2 : Hp}
theorem Nxt.refl : Nxt α H α H := ⟨⟨[], by simp⟩, fun _ _ h n => ⟨h, n⟩, fun _ _ _ h => h⟩
theorem Nxt.trans (a : Nxt α H α' H') (b : Nxt α' H' α2 H2) : Nxt α H α2 H2 := by
  obtain ⟨l, rfl⟩ := a.pre
  obtain ⟨l', rfl⟩ := b.pre
  refine ⟨⟨l ++ l', by simp⟩, fun x o h n => ?_, fun x ob u h => b.fz x ob u (a.fz x ob u h)⟩
  obtain ⟨h1, n1⟩ := a.keep x o h n
  exact b.keep x o h1 n1
theorem Nxt.at (a : Nxt α H α' H') {n : Nat} {x : Addr} (h : α[n]? = some x) : α'[n]? = some x := by
  obtain ⟨l, rfl⟩ := a.pre
  obtain ⟨hl, e⟩ := List.getElem?_eq_some_iff.mp h
  rw [List.getElem?_append_left hl]
  exact h
def Kp (α : List Addr) (H : Hp) (α' : List Addr) (H' : Hp) : Prop := (∀ (n : Nat) (x : Addr), α[n]? = some x → α'[n]? = some x) ∧ ∀ a o, H a = some o → a ∉ α → H' a = some o ∧ a ∉ α'
theorem Nxt.kp (a : Nxt α H α' H') : Kp α H α' H' := ⟨fun _ _ h => a.at h, a.keep⟩
theorem Fz.mono0 {a : Addr} {u : HO} (h : Fz α H a u) (n : Kp α H α' H') : Fz α' H' a u := by
  obtain ⟨h | ⟨o, h⟩, na⟩ := h
  · obtain ⟨h1, n1⟩ := n.2 a _ h na
    exact ⟨.inl h1, n1⟩
  · obtain ⟨h1, n1⟩ := n.2 a _ h na
    exact ⟨.inr ⟨o, h1⟩, n1⟩
theorem Fz.mono {a : Addr} {u : HO} (h : Fz α H a u) (n : Nxt α H α' H') : Fz α' H' a u := h.mono0 n.kp
mutual
theorem Rep.mono0 (n : Kp α H α' H') : ∀ {d : D} {v : V}, Rep G α H d v → Rep G α' H' d v
  | _, _, .non => .non
  | _, _, .bl b => .bl b
  | _, _, .int i => .int i
  | _, _, .str x => .str x
  | _, _, .tup h r => .tup (h.imp (fun z => z.mono0 n) id) (r.mono0 n)
  | _, _, .lst h m r => .lst (n.2 _ _ h m).1 (n.2 _ _ h m).2 (r.mono0 n)
  | _, _, .rol h => .rol (h.imp (fun z => z.mono0 n) id)
  | _, _, .ref h => .ref (n.1 _ _ h)
theorem Reps.mono0 (n : Kp α H α' H') : ∀ {ds : List D} {vs : List V}, Reps G α H ds vs → Reps G α' H' ds vs
  | _, _, .nil => .nil
  | _, _, .cons r t => .cons (r.mono0 n) (t.mono0 n)
end
theorem Rep.mono (n : Nxt α H α' H') {d : D} {v : V} (r : Rep G α H d v) : Rep G α' H' d v := r.mono0 n.kp
theorem Reps.mono (n : Nxt α H α' H') {ds : List D} {vs : List V} (r : Reps G α H ds vs) : Reps G α' H' ds vs := r.mono0 n.kp
theorem Reps.length {ds : List D} {vs : List V} (h : Reps G α H ds vs) : ds.length = vs.length := by
  induction ds generalizing vs with
  | nil => cases h; rfl
  | cons d ds ih => cases h with | cons r t => simp [ih t]
theorem Reps.get {ds : List D} {vs : List V} (h : Reps G α H ds vs) {i : Nat} {d : D} (e : ds[i]? = some d) : ∃ v, vs[i]? = some v ∧ Rep G α H d v := by
  induction ds generalizing vs i with
  | nil => simp at e
  | cons x ds ih =>
    cases h with
    | cons r t =>
      cases i with
      | zero => simp at e; subst e; exact ⟨_, by simp, r⟩
      | succ i => obtain ⟨v, h1, h2⟩ := ih t (i := i) (by simpa using e); exact ⟨v, by simpa using h1, h2⟩
theorem Reps.getV {ds : List D} {vs : List V} (h : Reps G α H ds vs) {i : Nat} {v : V} (e : vs[i]? = some v) : ∃ d, ds[i]? = some d ∧ Rep G α H d v := by
  induction ds generalizing vs i with
  | nil => cases h; simp at e
  | cons x ds ih =>
    cases h with
    | cons r t =>
      cases i with
      | zero => simp at e; subst e; exact ⟨_, by simp, r⟩
      | succ i => obtain ⟨d, h1, h2⟩ := ih t (i := i) (by simpa using e); exact ⟨d, by simpa using h1, h2⟩
theorem Reps.append {ds es : List D} {vs us : List V} (h : Reps G α H ds vs) (h' : Reps G α H es us) : Reps G α H (ds ++ es) (vs ++ us) := by
  induction ds generalizing vs with
  | nil => cases h; exact h'
  | cons x ds ih => cases h with | cons r t => exact .cons r (ih t)
theorem Reps.take {ds : List D} {vs : List V} (h : Reps G α H ds vs) (n : Nat) : Reps G α H (ds.take n) (vs.take n) := by
  induction ds generalizing vs n with
  | nil => cases h; simp; exact .nil
  | cons x ds ih =>
    cases h with
    | cons r t => cases n with
      | zero => exact .nil
      | succ n => exact .cons r (ih t n)
theorem Reps.drop {ds : List D} {vs : List V} (h : Reps G α H ds vs) (n : Nat) : Reps G α H (ds.drop n) (vs.drop n) := by
  induction ds generalizing vs n with
  | nil => cases h; simp; exact .nil
  | cons x ds ih =>
    cases h with
    | cons r t => cases n with
      | zero => exact .cons r t
      | succ n => exact ih t n
theorem Reps.set {ds : List D} {vs : List V} (h : Reps G α H ds vs) (n : Nat) {d : D} {v : V} (r : Rep G α H d v) : Reps G α H (ds.set n d) (vs.set n v) := by
  induction ds generalizing vs n with
  | nil => cases h; exact .nil
  | cons x ds ih =>
    cases h with
    | cons q t => cases n with
      | zero => exact .cons r t
      | succ n => exact .cons q (ih t n)
theorem Reps.ints {ns : List Int} {vs : List V} (h : Reps G α H (ns.map D.int) vs) : vs = ns.map V.int := by
  induction ns generalizing vs with
  | nil => cases h; rfl
  | cons x ns ih => cases h with | cons r t => cases r; rw [ih t]; rfl
theorem Reps.ofInts (ns : List Int) : Reps G α H (ns.map D.int) (ns.map V.int) := by
  induction ns with
  | nil => exact .nil
  | cons x ns ih => exact .cons (.int x) ih
theorem Rep.sqT {a : Addr} {vs : List V} (h : Fz α H a (.tup vs) ∨ KTup G.K a vs) : SqT G.K H a vs := by
  rcases h with h | ⟨o, its, n, h1, h2, h3, h4, h5⟩
  · exact .inl h.1
  · exact .inr ⟨o, its, n, h1, h2, h3, h4, h5⟩
theorem Rep.sqL {a : Addr} {vs : List V} (h : Fz α H a (.lst vs) ∨ KLst G.K a vs) : SqL G.K H a vs := by
  rcases h with h | ⟨o, its, n, h1, h2, h3, h4, h5⟩
  · exact .inl h.1
  · exact .inr ⟨o, its, n, h1, h2, h3, h4, h5⟩
end

def RepO (G : Gx) (α : List Addr) (H : Hp) (a : Addr) : O → Prop
  | .lst xs => ∃ vs, H a = some (.lst vs) ∧ Reps G α H xs vs
  | .dI ks xs => ∃ vs, H a = some (.dK (ks.zip vs)) ∧ Reps G α H xs vs ∧ ks.length = xs.length
  | .fI ks xs => ∃ ob vs, H a = some (.frz ob (.dK (ks.zip vs))) ∧ Reps G α H xs vs ∧ ks.length = xs.length
  | .dT ks xs => ∃ vs, H a = some (.dT ((ks.map fun k => k.map Sum.inl).zip vs)) ∧ Reps G α H xs vs ∧ ks.length = xs.length
  | .ins c fs xs => ∃ C dx vs, G.mg c = some (.ref C) ∧ H a = some (.ins C dx (fs.zip vs)) ∧ Reps G α H xs vs ∧ fs.length = xs.length
theorem RepO.there {G : Gx} {α : List Addr} {H : Hp} {a : Addr} {o : O} (h : RepO G α H a o) : ∃ u, H a = some u := by
  cases o with
  | lst xs => obtain ⟨vs, e, _⟩ := h; exact ⟨_, e⟩
  | dI ks xs => obtain ⟨vs, e, _⟩ := h; exact ⟨_, e⟩
  | fI ks xs => obtain ⟨ob, vs, e, _⟩ := h; exact ⟨_, e⟩
  | dT ks xs => obtain ⟨vs, e, _⟩ := h; exact ⟨_, e⟩
  | ins c fs xs => obtain ⟨C, dx, vs, _, e, _⟩ := h; exact ⟨_, e⟩
theorem RepO.mono0 {G : Gx} {α α' : List Addr} {H H' : Hp} {a : Addr} {o : O} (h : RepO G α H a o) (n : Kp α H α' H') (e : H' a = H a) : RepO G α' H' a o := by
  cases o with
  | lst xs => obtain ⟨vs, q, r⟩ := h; exact ⟨vs, e.trans q, r.mono0 n⟩
  | dI ks xs => obtain ⟨vs, q, r, l⟩ := h; exact ⟨vs, e.trans q, r.mono0 n, l⟩
  | fI ks xs => obtain ⟨ob, vs, q, r, l⟩ := h; exact ⟨ob, vs, e.trans q, r.mono0 n, l⟩
  | dT ks xs => obtain ⟨vs, q, r, l⟩ := h; exact ⟨vs, e.trans q, r.mono0 n, l⟩
  | ins c fs xs => obtain ⟨C, dx, vs, m, q, r, l⟩ := h; exact ⟨C, dx, vs, m, e.trans q, r.mono0 n, l⟩
theorem RepO.mono {G : Gx} {α α' : List Addr} {H H' : Hp} {a : Addr} {o : O} (h : RepO G α H a o) (n : Nxt α H α' H') (e : H' a = H a) : RepO G α' H' a o := h.mono0 n.kp e

structure RelS (G : Gx) (α : List Addr) (H : Hp) (S : Store) : Prop where
  len : α.length = S.length
  nd : α.Nodup
  ob : ∀ (n : Nat) (a : Addr) (o : O), α[n]? = some a → S[n]? = some o → RepO G α H a o
structure RelE (G : Gx) (α : List Addr) (H : Hp) (ρ : Env) (σ : St) : Prop where
  len : ρ.length = σ.length
  at_ : ∀ (i : Nat) (d : D), ρ[i]? = some (some d) → ∃ v, σ[i]? = some (some v) ∧ Rep G α H d v
def Bnd (K : PySem.W.Frag) (H : Hp) : Prop := ∀ a vs, (SqL K H a vs ∨ SqT K H a vs) → vs.length ≤ sizeLine

section
variable {G : Gx} {α α' α2 : List Addr} {H H' H2 : Hp} {S : Store} {ρ : Env} {σ : St}
theorem RelS.there (h : RelS G α H S) {a : Addr} (m : a ∈ α) : ∃ u, H a = some u := by
  obtain ⟨n, hn, e⟩ := List.getElem_of_mem m
  have hn' : n < S.length := by rw [← h.len]; exact hn
  exact (h.ob n a S[n] (by rw [List.getElem?_eq_getElem hn, e]) (List.getElem?_eq_getElem hn')).there
theorem RelS.new (h : RelS G α H S) {p : Addr} (e : H p = none) : p ∉ α := fun m => by
  obtain ⟨u, q⟩ := h.there m
  rw [e] at q
  cases q
/-- a new object that is no cell of the store -/
theorem RelS.laid (h : RelS G α H S) {p : Addr} {u : HO} (e : H p = none) : Nxt α H α (upd H p u) ∧ RelS G α (upd H p u) S := by
  have n : Nxt α H α (upd H p u) := ⟨⟨[], by simp⟩, fun a o q m => ⟨by rw [upd_ne (ne_of_none q e)]; exact q, m⟩, fun a ob u q => by rw [upd_ne (ne_of_none q e)]; exact q⟩
  refine ⟨n, h.len, h.nd, fun k a o h1 h2 => (h.ob k a o h1 h2).mono n ?_⟩
  obtain ⟨w, q⟩ := (h.ob k a o h1 h2).there
  rw [upd_ne (ne_of_none q e)]
theorem RelE.mono (h : RelE G α H ρ σ) (n : Nxt α H α' H') : RelE G α' H' ρ σ := ⟨h.len, fun i d e => by
  obtain ⟨v, q, r⟩ := h.at_ i d e
  exact ⟨v, q, r.mono n⟩⟩
theorem RelE.set (h : RelE G α H ρ σ) (i : Nat) {d : D} {v : V} (r : Rep G α H d v) : RelE G α H (ρ.set i (some d)) (σ.set i (some v)) := by
  refine ⟨by simp [h.len], fun j x e => ?_⟩
  by_cases hj : i = j
  · subst hj
    have hl : i < ρ.length := by
      have := (List.getElem?_eq_some_iff.mp e).1
      simpa using this
    rw [List.getElem?_set_self hl] at e
    cases e
    exact ⟨v, by rw [List.getElem?_set_self (by rw [← h.len]; exact hl)], r⟩
  · rw [List.getElem?_set_ne hj] at e
    obtain ⟨u, q, r'⟩ := h.at_ j x e
    exact ⟨u, by rw [List.getElem?_set_ne hj]; exact q, r'⟩
/-- a new cell of the store -/
theorem RelS.push (h : RelS G α H S) {p : Addr} {u : HO} {o : O} (e : H p = none) (r : Nxt α H (α ++ [p]) (upd H p u) → RepO G (α ++ [p]) (upd H p u) p o) :
    Nxt α H (α ++ [p]) (upd H p u) ∧ RelS G (α ++ [p]) (upd H p u) (S ++ [o]) := by
  have n : Nxt α H (α ++ [p]) (upd H p u) := ⟨⟨[p], rfl⟩, fun a w q m => ⟨by rw [upd_ne (ne_of_none q e)]; exact q, by
    simp only [List.mem_append, List.mem_singleton, not_or]
    exact ⟨m, ne_of_none q e⟩⟩, fun a ob u q => by rw [upd_ne (ne_of_none q e)]; exact q⟩
  have np : p ∉ α := h.new e
  refine ⟨n, by simp [h.len], ?_, fun k a w h1 h2 => ?_⟩
  · rw [List.nodup_append]
    refine ⟨h.nd, by simp, fun x hx y hy => ?_⟩
    simp at hy
    subst hy
    exact fun q => np (q ▸ hx)
  · by_cases hk : k < α.length
    · rw [List.getElem?_append_left hk] at h1
      rw [List.getElem?_append_left (by rw [← h.len]; exact hk)] at h2
      refine (h.ob k a w h1 h2).mono n ?_
      obtain ⟨z, q⟩ := (h.ob k a w h1 h2).there
      rw [upd_ne (ne_of_none q e)]
    · have hk2 : k = α.length := by
        have := (List.getElem?_eq_some_iff.mp h1).1
        simp at this
        omega
      subst hk2
      simp at h1
      subst h1
      rw [h.len] at h2
      simp at h2
      subst h2
      exact r n
/-- a cell is written -/
theorem RelS.put (h : RelS G α H S) {n : Nat} {a : Addr} {u : HO} {o : O} (e : α[n]? = some a) {w0 : HO} (hw : H a = some w0) (hf : ∀ ob u, w0 ≠ .frz ob u) (r : Nxt α H α (upd H a u) → RepO G α (upd H a u) a o) :
    Nxt α H α (upd H a u) ∧ RelS G α (upd H a u) (S.set n o) := by
  have ma : a ∈ α := List.mem_of_getElem? e
  have nx : Nxt α H α (upd H a u) := ⟨⟨[], by simp⟩, fun b w q m => ⟨by rw [upd_ne (show b ≠ a from fun z => m (by rw [z]; exact ma))]; exact q, m⟩, fun b ob u' q => by rw [upd_ne (show b ≠ a from fun z => by subst z; rw [hw] at q; cases q; exact hf _ _ rfl)]; exact q⟩
  refine ⟨nx, by simp [h.len], h.nd, fun k b w h1 h2 => ?_⟩
  by_cases hk : n = k
  · subst hk
    rw [e] at h1
    cases h1
    have hl : n < S.length := by rw [← h.len]; exact (List.getElem?_eq_some_iff.mp e).1
    rw [List.getElem?_set_self hl] at h2
    cases h2
    exact r nx
  · rw [List.getElem?_set_ne hk] at h2
    have hne : b ≠ a := fun z => by
      subst z
      obtain ⟨l1, e1⟩ := List.getElem?_eq_some_iff.mp e
      obtain ⟨l2, e2⟩ := List.getElem?_eq_some_iff.mp h1
      exact hk ((List.getElem_inj h.nd).mp (e1.trans e2.symm))
    exact (h.ob k b w h1 h2).mono nx (by rw [upd_ne hne])
/-- a cell is unlocked -/
theorem RelS.put0 (h : RelS G α H S) {n : Nat} {a : Addr} {u : HO} {o : O} (e : α[n]? = some a) (r : Kp α H α (upd H a u) → RepO G α (upd H a u) a o) :
    Kp α H α (upd H a u) ∧ RelS G α (upd H a u) (S.set n o) := by
  have ma : a ∈ α := List.mem_of_getElem? e
  have nx : Kp α H α (upd H a u) := ⟨fun _ _ h => h, fun b w q m => ⟨by rw [upd_ne (show b ≠ a from fun z => m (by rw [z]; exact ma))]; exact q, m⟩⟩
  refine ⟨nx, by simp [h.len], h.nd, fun k b w h1 h2 => ?_⟩
  by_cases hk : n = k
  · subst hk
    rw [e] at h1
    cases h1
    have hl : n < S.length := by rw [← h.len]; exact (List.getElem?_eq_some_iff.mp e).1
    rw [List.getElem?_set_self hl] at h2
    cases h2
    exact r nx
  · rw [List.getElem?_set_ne hk] at h2
    have hne : b ≠ a := fun z => by
      subst z
      obtain ⟨l1, e1⟩ := List.getElem?_eq_some_iff.mp e
      obtain ⟨l2, e2⟩ := List.getElem?_eq_some_iff.mp h1
      exact hk ((List.getElem_inj h.nd).mp (e1.trans e2.symm))
    exact (h.ob k b w h1 h2).mono0 nx (by rw [upd_ne hne])
theorem RelS.cell (h : RelS G α H S) {n : Nat} {a : Addr} {o : O} (e : α[n]? = some a) (q : S[n]? = some o) : RepO G α H a o := h.ob n a o e q
end

/-! ### readings of denotations -/
def PostR {τ ω : Type} (G : Gx) (W : XK) (rel : List Addr → Hp → τ → ω → Prop) (α : List Addr) (H : Hp) (Q : ω → Hp → Prop) : Res τ → Prop
  | .ok d S' => ∀ α' H' v, Nxt α H α' H' → RelS G α' H' S' → rel α' H' d v → Q v H'
  | .exc e S' => ∀ α' H' C x v, Nxt α H α' H' → RelS G α' H' S' → G.mg e.cls = some (.ref C) → H' x = some (.xd [("at", v)]) → x ∉ α' → Rep G α' H' e.at_ v → W (.ref C) (some x) H'
  | .bad => False
section
variable {G : Gx} {W : XK} {α α' : List Addr} {H H' : Hp} {τ ω τ' ω' : Type} {rel : List Addr → Hp → τ → ω → Prop} {rel' : List Addr → Hp → τ' → ω' → Prop}
theorem PostR.step {Q : ω → Hp → Prop} {r : Res τ} (n : Nxt α H α' H') (h : PostR G W rel α H Q r) : PostR G W rel α' H' Q r := by
  cases r with
  | ok d S => exact fun a b v n2 rs rp => h a b v (n.trans n2) rs rp
  | exc e S => exact fun a b C x v n2 rs m hx nx rp => h a b C x v (n.trans n2) rs m hx nx rp
  | bad => exact h
theorem PostR.imp {Q Q' : ω → Hp → Prop} {r : Res τ} (h : PostR G W rel α H Q r) (k : ∀ v H', Q v H' → Q' v H') : PostR G W rel α H Q' r := by
  cases r with
  | ok d S => exact fun a b v n2 rs rp => k _ _ (h a b v n2 rs rp)
  | exc e S => exact h
  | bad => exact h
theorem post_bind {Q : ω' → Hp → Prop} {Q1 : ω → Hp → Prop} {r : Res τ} {k : τ → Store → Res τ'} (h : PostR G W rel' α H Q (rbind r k))
    (hk : ∀ d S1 α1 H1 v, Nxt α H α1 H1 → RelS G α1 H1 S1 → rel α1 H1 d v → PostR G W rel' α1 H1 Q (k d S1) → Q1 v H1) : PostR G W rel α H Q1 r := by
  cases r with
  | ok d S => exact fun a b v n2 rs rp => hk d S a b v n2 rs rp (PostR.step n2 h)
  | exc e S => exact h
  | bad => exact h
end

abbrev WK := Value → Option Addr → St → Hp → Prop
def Wat (W : WK) (σ : St) : XK := fun c x H => W c x σ H
def TD (G : Gx) (W : WK) (f : Den) : TE := fun σ H Q => ∃ α ρ S, RelE G α H ρ σ ∧ RelS G α H S ∧ PostR G (Wat W σ) (Rep G) α H (fun v H' => Bnd G.K H' → Q v H') (f ρ S)
def TDT (G : Gx) (W : WK) (f : DenT) : TT := fun σ H Q => ∃ α ρ S, RelE G α H ρ σ ∧ RelS G α H S ∧ PostR G (Wat W σ) (fun _ _ b c => b = c) α H (fun b H' => Bnd G.K H' → Q b H') (f ρ S)
def TDA (G : Gx) (W : WK) (f : DenA) : TA := fun σ H Q => ∃ α ρ S, RelE G α H ρ σ ∧ RelS G α H S ∧ PostR G (Wat W σ) (Reps G) α H (fun v H' => Bnd G.K H' → Q v H') (f ρ S)
def SPost (G : Gx) (W : WK) (D : Ends) (α : List Addr) (H : Hp) : Out → Prop
  | .nx ρ S => ∀ α' H' σ, Nxt α H α' H' → RelS G α' H' S → RelE G α' H' ρ σ → Bnd G.K H' → D.nx σ H'
  | .bk ρ S => ∀ α' H' σ, Nxt α H α' H' → RelS G α' H' S → RelE G α' H' ρ σ → Bnd G.K H' → D.bk σ H'
  | .ct ρ S => ∀ α' H' σ, Nxt α H α' H' → RelS G α' H' S → RelE G α' H' ρ σ → Bnd G.K H' → D.ct σ H'
  | .rt d S => ∀ α' H' v, Nxt α H α' H' → RelS G α' H' S → Rep G α' H' d v → Bnd G.K H' → D.rt v H'
  | .exc e ρ S => ∀ α' H' σ C x v, Nxt α H α' H' → RelS G α' H' S → RelE G α' H' ρ σ → G.mg e.cls = some (.ref C) → H' x = some (.xd [("at", v)]) → x ∉ α' → Rep G α' H' e.at_ v → W (.ref C) (some x) σ H'
  | .bad => False
def TDS (G : Gx) (W : WK) (f : DenS) : TS := fun D σ H => ∃ α ρ S, RelE G α H ρ σ ∧ RelS G α H S ∧ SPost G W D α H (f ρ S)
theorem SPost.step {G : Gx} {W : WK} {D : Ends} {α α' : List Addr} {H H' : Hp} {o : Out} (n : Nxt α H α' H') (h : SPost G W D α H o) : SPost G W D α' H' o := by
  cases o with
  | nx ρ S => exact fun a b σ n2 => h a b σ (n.trans n2)
  | bk ρ S => exact fun a b σ n2 => h a b σ (n.trans n2)
  | ct ρ S => exact fun a b σ n2 => h a b σ (n.trans n2)
  | rt d S => exact fun a b v n2 => h a b v (n.trans n2)
  | exc e ρ S => exact fun a b σ C x v n2 => h a b σ C x v (n.trans n2)
  | bad => exact h

abbrev gxOf (X : Cx) : Gx := ⟨X.K, X.mg⟩
abbrev SE (X : Cx) (W : WK) (e : Expr) (f : Den) : Prop := PE X e (TD (gxOf X) W f)
abbrev SX (X : Cx) (W : WK) (e : Expr) (f : DenT) : Prop := PT X e (TDT (gxOf X) W f)
abbrev SXw (X : Cx) (W : WK) (e : Expr) (f : DenT) : Prop := PW X e (TDT (gxOf X) W f)
abbrev SA (X : Cx) (W : WK) (es : List Expr) (f : DenA) : Prop := PA X es (TDA (gxOf X) W f)
abbrev SS (X : Cx) (W : WK) (st : Stmt) (f : DenS) : Prop := PS X st (TDS (gxOf X) W f)
abbrev SB (X : Cx) (W : WK) (st : List Stmt) (f : DenS) : Prop := PSs X st (TDS (gxOf X) W f)

section
variable {X : Cx} {W : WK}
theorem inv_bnd {pins : List (Addr × Obj)} {σ : St} {H : Hp} {s : Shared} (I : Inv X pins σ H s) : Bnd X.K H := fun a vs h => by
  rcases h with h | h
  · obtain ⟨_, _, _, z⟩ := I.list h; exact z
  · obtain ⟨_, _, _, z⟩ := I.tuple h; exact z
theorem se_of {e : Expr} {t : TE} {f : Den} (h : PE X e t) (imp : ∀ σ H Q, Bnd X.K H → TD (gxOf X) W f σ H Q → t σ H (fun v H' => Bnd X.K H' → Q v H')) : SE X W e f :=
  ⟨fun pins s σ H Q I hw => thn (h.run pins s σ H _ I (imp σ H Q (inv_bnd I) hw)) fun v s1 ⟨x, H1, I1, r1, q1⟩ => ⟨x, H1, I1, r1, q1 (inv_bnd I1)⟩⟩
theorem sx_of {e : Expr} {t : TT} {f : DenT} (h : PT X e t) (imp : ∀ σ H Q, Bnd X.K H → TDT (gxOf X) W f σ H Q → t σ H (fun v H' => Bnd X.K H' → Q v H')) : SX X W e f :=
  ⟨fun pins s σ H Q I hw => thn (h.run pins s σ H _ I (imp σ H Q (inv_bnd I) hw)) fun v s1 ⟨H1, I1, q1⟩ => ⟨H1, I1, q1 (inv_bnd I1)⟩⟩
theorem sxw_of {e : Expr} {t : TT} {f : DenT} (h : PW X e t) (imp : ∀ σ H Q, Bnd X.K H → TDT (gxOf X) W f σ H Q → t σ H (fun v H' => Bnd X.K H' → Q v H')) : SXw X W e f :=
  ⟨fun wh pins s σ H Q I hw => thn (h.run wh pins s σ H _ I (imp σ H Q (inv_bnd I) hw)) fun v s1 ⟨H1, I1, q1⟩ => ⟨H1, I1, q1 (inv_bnd I1)⟩⟩
theorem sa_of {es : List Expr} {t : TA} {f : DenA} (h : PA X es t) (imp : ∀ σ H Q, Bnd X.K H → TDA (gxOf X) W f σ H Q → t σ H (fun v H' => Bnd X.K H' → Q v H')) : SA X W es f :=
  ⟨fun pos pins s σ H Q I hw => thn (h.run pos pins s σ H _ I (imp σ H Q (inv_bnd I) hw)) fun v s1 ⟨x, H1, I1, r1, q1⟩ => ⟨x, H1, I1, r1, q1 (inv_bnd I1)⟩⟩
def EndsB (K : PySem.W.Frag) (D : Ends) : Ends := { nx := fun σ H => Bnd K H → D.nx σ H, rt := fun v H => Bnd K H → D.rt v H, bk := fun σ H => Bnd K H → D.bk σ H, ct := fun σ H => Bnd K H → D.ct σ H }
theorem sp_bnd {pins : List (Addr × Obj)} {D : Ends} {f : Flow} {s : Shared} (h : SP X pins (EndsB X.K D) f s) : SP X pins D f s := by
  cases f with
  | next => obtain ⟨σ', H', I, q⟩ := h; exact ⟨σ', H', I, q (inv_bnd I)⟩
  | brk => obtain ⟨σ', H', I, q⟩ := h; exact ⟨σ', H', I, q (inv_bnd I)⟩
  | cont => obtain ⟨σ', H', I, q⟩ := h; exact ⟨σ', H', I, q (inv_bnd I)⟩
  | ret v => obtain ⟨v', σ', H', I, r, q⟩ := h; exact ⟨v', σ', H', I, r, q (inv_bnd I)⟩
theorem ss_of {st : Stmt} {t : TS} {f : DenS} (h : PS X st t) (imp : ∀ σ H D, Bnd X.K H → TDS (gxOf X) W f D σ H → t (EndsB X.K D) σ H) : SS X W st f :=
  ⟨fun pins s σ H D I hw => thn (h.run pins s σ H _ I (imp σ H D (inv_bnd I) hw)) fun _ _ q => sp_bnd q⟩
theorem sb_of {st : List Stmt} {t : TS} {f : DenS} (h : PSs X st t) (imp : ∀ σ H D, Bnd X.K H → TDS (gxOf X) W f D σ H → t (EndsB X.K D) σ H) : SB X W st f :=
  ⟨fun pins s σ H D I hw => thn (h.run pins s σ H _ I (imp σ H D (inv_bnd I) hw)) fun _ _ q => sp_bnd q⟩
end
end Dn

set_option maxHeartbeats 4000000
namespace Dn
open PySem PySem.Spec PyProof.Rows L2

/-! ### expressions -/
def dVar (i : Nat) : Den := fun ρ S => match ρ[i]? with
  | some (some d) => .ok d S
  | _ => .bad
def dC (d : D) : Den := fun _ S => .ok d S
def dUn (g : D → Store → Res D) (a : Den) : Den := fun ρ S => rbind (a ρ S) fun x S1 => g x S1
def dBin (g : D → D → Store → Res D) (a b : Den) : Den := fun ρ S => rbind (a ρ S) fun x S1 => rbind (b ρ S1) fun y S2 => g x y S2
def dBl (x : D) (S : Store) : Res Bool := match x with
  | .bl b => .ok b S
  | _ => .bad
def xOf (a : Den) : DenT := fun ρ S => rbind (a ρ S) dBl
def xAnd (a b : DenT) : DenT := fun ρ S => rbind (a ρ S) fun x S1 => if x = true then b ρ S1 else .ok false S1
def xOr (a b : DenT) : DenT := fun ρ S => rbind (a ρ S) fun x S1 => if x = true then .ok true S1 else b ρ S1
def xNot (a : DenT) : DenT := fun ρ S => rbind (a ρ S) fun x S1 => .ok (!x) S1
def dT (a : DenT) : Den := fun ρ S => rbind (a ρ S) fun x S1 => .ok (.bl x) S1
def dAnd (a b : Den) : Den := fun ρ S => rbind (a ρ S) fun x S1 => rbind (dBl x S1) fun k S2 => if k = true then b ρ S2 else .ok (.bl false) S2
def dOr (a b : Den) : Den := fun ρ S => rbind (a ρ S) fun x S1 => rbind (dBl x S1) fun k S2 => if k = true then .ok (.bl true) S2 else b ρ S2
def dNot (a : Den) : Den := fun ρ S => rbind (a ρ S) fun x S1 => rbind (dBl x S1) fun k S2 => .ok (.bl (!k)) S2
def dIf (t : DenT) (a b : Den) : Den := fun ρ S => rbind (t ρ S) fun k S1 => if k = true then a ρ S1 else b ρ S1
def aNil : DenA := fun _ S => .ok [] S
def aCons (a : Den) (r : DenA) : DenA := fun ρ S => rbind (a ρ S) fun x S1 => rbind (r ρ S1) fun xs S2 => .ok (x :: xs) S2
def dApp (g : List D → Store → Res D) (a : DenA) : Den := fun ρ S => rbind (a ρ S) g
def dMt (g : D → List D → Store → Res D) (o : Den) (a : DenA) : Den := fun ρ S => rbind (o ρ S) fun x S1 => rbind (a ρ S1) fun xs S2 => g x xs S2
def dTup (a : DenA) : Den := dApp (fun xs S => if xs.length ≤ sizeLine then .ok (.tup xs) S else .bad) a
def dLst (a : DenA) : Den := dApp (fun xs S => if xs.length ≤ sizeLine then .ok (.lst xs) S else .bad) a
def nLst (a : DenA) : Den := dApp (fun xs S => if xs.length ≤ sizeLine then .ok (.ref S.length) (S ++ [.lst xs]) else .bad) a

def OpV (G : Gx) (r : R2) (g : D → D → Store → Res D) : Prop :=
  ∀ (W : XK) α H S x y vx vy Q, RelS G α H S → Bnd G.K H → Rep G α H x vx → Rep G α H y vy → PostR G W (Rep G) α H Q (g x y S) → r vx vy H Q
def UnV (G : Gx) (r : V → Hp → VK → Prop) (g : D → Store → Res D) : Prop :=
  ∀ (W : XK) α H S x vx Q, RelS G α H S → Bnd G.K H → Rep G α H x vx → PostR G W (Rep G) α H Q (g x S) → r vx H Q
def CallV (G : Gx) (r : List V → Hp → VK → Prop) (g : List D → Store → Res D) : Prop :=
  ∀ (W : XK) α H S xs vs Q, RelS G α H S → Bnd G.K H → Reps G α H xs vs → PostR G W (Rep G) α H Q (g xs S) → r vs H Q
def MtV (G : Gx) (r : V → List V → Hp → VK → Prop) (g : D → List D → Store → Res D) : Prop :=
  ∀ (W : XK) α H S x vx xs vs Q, RelS G α H S → Bnd G.K H → Rep G α H x vx → Reps G α H xs vs → PostR G W (Rep G) α H Q (g x xs S) → r vx vs H Q

section
variable {X : Cx} {W : WK} {a b c : Expr} {fa fb fc : Den} {ta tb tc : DenT} {pos : Pos}

/-- what TD gives at once -/
theorem td_at {G : Gx} {σ : St} {H : Hp} {Q : VK} {f : Den} {α : List Addr} {ρ : Env} {S : Store} (hE : RelE G α H ρ σ) (hS : RelS G α H S)
    (h : PostR G (Wat W σ) (Rep G) α H (fun v H' => Bnd G.K H' → Q v H') (f ρ S)) : TD G W f σ H Q := ⟨α, ρ, S, hE, hS, h⟩

theorem se_var {i : Nat} {x : Str} (h : PE X (.Name x pos) (tVar i)) : SE X W (.Name x pos) (dVar i) := by
  refine se_of h fun σ H Q hb ⟨α, ρ, S, hE, hS, h⟩ => ?_
  unfold dVar at h
  split at h
  · rename_i d e
    obtain ⟨v, q, r⟩ := hE.at_ i d e
    exact ⟨v, q, h α H v .refl hS r⟩
  · exact h.elim
theorem se_c {e : Expr} {d : D} {v : V} (h : PE X e (tC v)) (r : ∀ α H, Rep (gxOf X) α H d v) : SE X W e (dC d) := by
  refine se_of h fun σ H Q hb ⟨α, ρ, S, hE, hS, h⟩ => ?_
  exact h α H v .refl hS (r α H)
theorem se_int {i : Int} {j} : SE X W (.Constant (.int i) j pos) (dC (.int i)) := se_c pe_int fun _ _ => .int i
theorem se_bl {i : Bool} {j} : SE X W (.Constant (.bool i) j pos) (dC (.bl i)) := se_c pe_bl fun _ _ => .bl i
theorem se_non {j} : SE X W (.Constant .none j pos) (dC .non) := se_c pe_non fun _ _ => .non
theorem se_str {x} {j} : SE X W (.Constant (.str x) j pos) (dC (.str x)) := se_c pe_str fun _ _ => .str x
theorem se_glob {x : Str} {d : D} {v : V} {u : Value} (hg : Gl X x) (hm : X.mg x = some u) (r : RelV v u) (rp : ∀ α H, Rep (gxOf X) α H d v) (hd : (x == ("__debug__" : Str)) = false := by decide) : SE X W (.Name x pos) (dC d) :=
  se_c (pe_glob hg hm r hd) rp

theorem se_op {e : Expr} {r : R2} {g : D → D → Store → Res D} (h : PE X e (tOp r (TD (gxOf X) W fa) (TD (gxOf X) W fb))) (hv : OpV (gxOf X) r g) : SE X W e (dBin g fa fb) := by
  refine se_of h fun σ H Q hb ⟨α, ρ, S, hE, hS, h⟩ => ?_
  refine td_at hE hS (post_bind h fun d S1 α1 H1 v1 n1 s1 r1 h => fun b1 => ?_)
  refine td_at (hE.mono n1) s1 (post_bind h fun d2 S2 α2 H2 v2 n2 s2 r2 h => fun b2 => ?_)
  exact hv _ α2 H2 S2 d d2 v1 v2 _ s2 b2 (r1.mono n2) r2 h
theorem se_bin {op : Operator} {r : R2} {g : D → D → Store → Res D} (ho : OpR X (binaryOp op) r) (hv : OpV (gxOf X) r g) (ha : SE X W a fa) (hb : SE X W b fb) : SE X W (.BinOp a op b pos) (dBin g fa fb) :=
  se_op (pe_op ho ha hb) hv
theorem se_cmp {op : CmpOp} {r : R2} {g : D → D → Store → Res D} (ho : OpR X (compareOp op) r) (hv : OpV (gxOf X) r g) (ha : SE X W a fa) (hb : SE X W b fb) (hm : behindInMarks op b = false) : SE X W (.Compare a [op] [b] pos) (dBin g fa fb) :=
  se_op (pe_cmpR ho ha hb hm) hv
theorem se_un {op : UnaryOp} {r : V → Hp → VK → Prop} {g : D → Store → Res D} (ho : UnR X (unaryOp op) r) (hv : UnV (gxOf X) r g) (ha : SE X W a fa) : SE X W (.UnaryOp op a pos) (dUn g fa) := by
  refine se_of (pe_un ho ha) fun σ H Q hb ⟨α, ρ, S, hE, hS, h⟩ => ?_
  refine td_at hE hS (post_bind h fun d S1 α1 H1 v1 n1 s1 r1 h => fun b1 => ?_)
  exact hv _ α1 H1 S1 d v1 _ s1 b1 r1 h
/-- the tests -/
theorem sx_val {e : Expr} {f : Den} (h : SE X W e f) (he : ∀ whole, isTrue e X.env whole = (do let v ← whole; standAt e.pos; holding [v] (truthy v)) := by intro _; rfl) : SX X W e (xOf f) := by
  refine sx_of (pt_val h he) fun σ H Q hb ⟨α, ρ, S, hE, hS, h⟩ => ?_
  refine td_at hE hS (post_bind h fun d S1 α1 H1 v1 n1 s1 r1 h => fun b1 => ?_)
  cases r1 with
  | bl b => exact ⟨b, rfl, h α1 H1 b .refl s1 rfl⟩
  | _ => exact h.elim
theorem sx_cmp {op : CmpOp} {r : R2} {g : D → D → Store → Res D} (ho : OpR X (compareOp op) r) (hv : OpV (gxOf X) r g) (ha : SE X W a fa) (hb : SE X W b fb) (hm : behindInMarks op b = false) : SX X W (.Compare a [op] [b] pos) (xOf (dBin g fa fb)) := by
  refine sx_of (pt_cmpR ho ha hb hm) fun σ H Q hb ⟨α, ρ, S, hE, hS, h⟩ => ?_
  show tOp r _ _ σ H _
  have h : PostR (gxOf X) (Wat W σ) (fun _ _ b c => b = c) α H (fun b H' => Bnd X.K H' → Q b H') (rbind (fa ρ S) fun x S1 => rbind (fb ρ S1) fun y S2 => rbind (g x y S2) dBl) := by
    have e : xOf (dBin g fa fb) ρ S = (rbind (fa ρ S) fun x S1 => rbind (fb ρ S1) fun y S2 => rbind (g x y S2) dBl) := by
      unfold xOf dBin
      cases fa ρ S with
      | ok d S1 => show rbind (rbind (fb ρ S1) _) _ = rbind (fb ρ S1) _; cases fb ρ S1 <;> rfl
      | _ => rfl
    rw [← e]; exact h
  refine td_at hE hS (post_bind h fun d S1 α1 H1 v1 n1 s1 r1 h => fun b1 => ?_)
  refine td_at (hE.mono n1) s1 (post_bind h fun d2 S2 α2 H2 v2 n2 s2 r2 h => fun b2 => ?_)
  refine hv _ α2 H2 S2 d d2 v1 v2 _ s2 b2 (r1.mono n2) r2 (post_bind h fun z S3 α3 H3 v3 n3 s3 r3 h => ?_)
  cases r3 with
  | bl b => exact ⟨b, rfl, h α3 H3 b .refl s3 rfl⟩
  | _ => exact h.elim
theorem tdt_bind {G : Gx} {σ : St} {H : Hp} {α : List Addr} {ρ : Env} {S : Store} {f : DenT} {τ' ω' : Type} {rel' : List Addr → Hp → τ' → ω' → Prop} {Q : ω' → Hp → Prop} {Q1 : Bool → Hp → Prop} {k : Bool → Store → Res τ'} (hE : RelE G α H ρ σ) (hS : RelS G α H S)
    (h : PostR G (Wat W σ) rel' α H Q (rbind (f ρ S) k))
    (hk : ∀ b S1 α1 H1, RelE G α1 H1 ρ σ → RelS G α1 H1 S1 → Bnd G.K H1 → PostR G (Wat W σ) rel' α1 H1 Q (k b S1) → Q1 b H1) : TDT G W f σ H Q1 :=
  ⟨α, ρ, S, hE, hS, post_bind h fun d S1 α1 H1 v n1 s1 e h => fun b1 => by cases e; exact hk d S1 α1 H1 (hE.mono n1) s1 b1 h⟩
theorem td_bind {G : Gx} {σ : St} {H : Hp} {α : List Addr} {ρ : Env} {S : Store} {f : Den} {τ' ω' : Type} {rel' : List Addr → Hp → τ' → ω' → Prop} {Q : ω' → Hp → Prop} {Q1 : VK} {k : D → Store → Res τ'} (hE : RelE G α H ρ σ) (hS : RelS G α H S)
    (h : PostR G (Wat W σ) rel' α H Q (rbind (f ρ S) k))
    (hk : ∀ d S1 α1 H1 v, Nxt α H α1 H1 → RelE G α1 H1 ρ σ → RelS G α1 H1 S1 → Bnd G.K H1 → Rep G α1 H1 d v → PostR G (Wat W σ) rel' α1 H1 Q (k d S1) → Q1 v H1) : TD G W f σ H Q1 :=
  ⟨α, ρ, S, hE, hS, post_bind h fun d S1 α1 H1 v n1 s1 e h => fun b1 => hk d S1 α1 H1 v n1 (hE.mono n1) s1 b1 e h⟩
theorem tda_bind {G : Gx} {σ : St} {H : Hp} {α : List Addr} {ρ : Env} {S : Store} {f : DenA} {τ' ω' : Type} {rel' : List Addr → Hp → τ' → ω' → Prop} {Q : ω' → Hp → Prop} {Q1 : List V → Hp → Prop} {k : List D → Store → Res τ'} (hE : RelE G α H ρ σ) (hS : RelS G α H S)
    (h : PostR G (Wat W σ) rel' α H Q (rbind (f ρ S) k))
    (hk : ∀ d S1 α1 H1 v, Nxt α H α1 H1 → RelE G α1 H1 ρ σ → RelS G α1 H1 S1 → Bnd G.K H1 → Reps G α1 H1 d v → PostR G (Wat W σ) rel' α1 H1 Q (k d S1) → Q1 v H1) : TDA G W f σ H Q1 :=
  ⟨α, ρ, S, hE, hS, post_bind h fun d S1 α1 H1 v n1 s1 e h => fun b1 => hk d S1 α1 H1 v n1 (hE.mono n1) s1 b1 e h⟩
theorem sw_and1 (ha : SX X W a ta) : SXw X W (.BoolOp .And [a] pos) ta := pw_and1 ha
theorem sw_or1 (ha : SX X W a ta) : SXw X W (.BoolOp .Or [a] pos) ta := pw_or1 ha
variable {rest : List Expr}
theorem sw_and (ha : SX X W a ta) (hb : SXw X W (.BoolOp .And (b :: rest) pos) tb) : SXw X W (.BoolOp .And (a :: b :: rest) pos) (xAnd ta tb) := by
  refine sxw_of (pw_and ha hb) fun σ H Q hb ⟨α, ρ, S, hE, hS, h⟩ => ?_
  refine tdt_bind hE hS h fun k S1 α1 H1 hE1 s1 b1 h => ?_
  cases k with
  | true => exact ⟨α1, ρ, S1, hE1, s1, h.imp fun v H' q _ => q⟩
  | false => exact h α1 H1 false .refl s1 rfl
theorem sw_or (ha : SX X W a ta) (hb : SXw X W (.BoolOp .Or (b :: rest) pos) tb) : SXw X W (.BoolOp .Or (a :: b :: rest) pos) (xOr ta tb) := by
  refine sxw_of (pw_or ha hb) fun σ H Q hb ⟨α, ρ, S, hE, hS, h⟩ => ?_
  refine tdt_bind hE hS h fun k S1 α1 H1 hE1 s1 b1 h => ?_
  cases k with
  | true => exact h α1 H1 true .refl s1 rfl
  | false => exact ⟨α1, ρ, S1, hE1, s1, h.imp fun v H' q _ => q⟩
theorem sx_w {e : Expr} (h : SXw X W e ta) : SX X W e ta := h.pt
theorem sx_not (ha : SX X W a ta) : SX X W (.UnaryOp .Not a pos) (xNot ta) := by
  refine sx_of (pt_not ha) fun σ H Q hb ⟨α, ρ, S, hE, hS, h⟩ => ?_
  refine tdt_bind hE hS h fun k S1 α1 H1 hE1 s1 b1 h => ?_
  exact h α1 H1 (!k) .refl s1 rfl
theorem se_one {op} (h : SE X W a fa) : SE X W (.BoolOp op [a] pos) fa := pe_one h
theorem se_and (ha : SE X W a fa) (hb : SE X W (.BoolOp .And (b :: rest) pos) fb) : SE X W (.BoolOp .And (a :: b :: rest) pos) (dAnd fa fb) := by
  refine se_of (pe_and ha hb) fun σ H Q hb ⟨α, ρ, S, hE, hS, h⟩ => ?_
  refine td_bind hE hS h fun d S1 α1 H1 v n1 hE1 s1 b1 r1 h => ?_
  cases r1 with
  | bl k =>
    refine ⟨k, rfl, ?_⟩
    cases k with
    | true => exact ⟨α1, ρ, S1, hE1, s1, h.imp fun v H' q _ => q⟩
    | false => exact h α1 H1 _ .refl s1 (.bl false)
  | _ => exact h.elim
theorem se_or (ha : SE X W a fa) (hb : SE X W (.BoolOp .Or (b :: rest) pos) fb) : SE X W (.BoolOp .Or (a :: b :: rest) pos) (dOr fa fb) := by
  refine se_of (pe_or ha hb) fun σ H Q hb ⟨α, ρ, S, hE, hS, h⟩ => ?_
  refine td_bind hE hS h fun d S1 α1 H1 v n1 hE1 s1 b1 r1 h => ?_
  cases r1 with
  | bl k =>
    refine ⟨k, rfl, ?_⟩
    cases k with
    | true => exact h α1 H1 _ .refl s1 (.bl true)
    | false => exact ⟨α1, ρ, S1, hE1, s1, h.imp fun v H' q _ => q⟩
  | _ => exact h.elim
theorem se_not (ha : SE X W a fa) : SE X W (.UnaryOp .Not a pos) (dNot fa) := by
  refine se_of (pe_not ha) fun σ H Q hb ⟨α, ρ, S, hE, hS, h⟩ => ?_
  refine td_bind hE hS h fun d S1 α1 H1 v n1 hE1 s1 b1 r1 h => ?_
  cases r1 with
  | bl k => exact ⟨k, rfl, h α1 H1 _ .refl s1 (.bl _)⟩
  | _ => exact h.elim
theorem se_ifE (hc : SX X W c ta) (ha : SE X W a fa) (hb : SE X W b fb) : SE X W (.IfExp c a b pos) (dIf ta fa fb) := by
  refine se_of (pe_ifExp hc ha hb) fun σ H Q hb ⟨α, ρ, S, hE, hS, h⟩ => ?_
  refine tdt_bind hE hS h fun k S1 α1 H1 hE1 s1 b1 h => ?_
  cases k with
  | true => exact ⟨α1, ρ, S1, hE1, s1, h.imp fun v H' q _ => q⟩
  | false => exact ⟨α1, ρ, S1, hE1, s1, h.imp fun v H' q _ => q⟩
/-- a chain a op b op' c -/
def dChain (g g' : D → D → Store → Res D) (a b c : Den) : Den := fun ρ S => rbind (a ρ S) fun x S1 => rbind (b ρ S1) fun y S2 => rbind (g x y S2) fun z S3 => rbind (dBl z S3) fun k S4 =>
  if k = true then rbind (c ρ S4) fun w S5 => g' y w S5 else .ok (.bl false) S4
theorem se_chain {op op' : CmpOp} {r r' : R2} {g g' : D → D → Store → Res D} (ho : OpR X (compareOp op) r) (hv : OpV (gxOf X) r g) (ho' : OpR X (compareOp op') r') (hv' : OpV (gxOf X) r' g') (ha : SE X W a fa) (hb : SE X W b fb) (hc : SE X W c fc)
    (hm : lastMarks [op, op'] [b, c] = false := by with_unfolding_all rfl) : SE X W (.Compare a [op, op'] [b, c] pos) (dChain g g' fa fb fc) := by
  refine se_of (pe_chain ho ho' ha hb hc hm) fun σ H Q hb ⟨α, ρ, S, hE, hS, h⟩ => ?_
  refine td_bind hE hS h fun d S1 α1 H1 v n1 hE1 s1 b1 r1 h => ?_
  refine td_bind hE1 s1 h fun d2 S2 α2 H2 v2 n2 hE2 s2 b2 r2 h => ?_
  refine hv _ α2 H2 S2 d d2 v v2 _ s2 b2 (r1.mono n2) r2 (post_bind h fun z S3 α3 H3 v3 n3 s3 r3 h => ?_)
  cases r3 with
  | bl k =>
    refine ⟨k, rfl, ?_⟩
    cases k with
    | true =>
      refine td_bind (hE2.mono n3) s3 h fun d4 S4 α4 H4 v4 n4 hE4 s4 b4 r4 h => ?_
      exact hv' _ α4 H4 S4 d2 d4 v2 v4 _ s4 b4 ((r2.mono n3).mono n4) r4 h
    | false => exact h α3 H3 _ .refl s3 (.bl false)
  | _ => exact h.elim
theorem sx_chain {op op' : CmpOp} {r r' : R2} {g g' : D → D → Store → Res D} (ho : OpR X (compareOp op) r) (hv : OpV (gxOf X) r g) (ho' : OpR X (compareOp op') r') (hv' : OpV (gxOf X) r' g') (ha : SE X W a fa) (hb : SE X W b fb) (hc : SE X W c fc)
    (hm : lastMarks [op, op'] [b, c] = false := by with_unfolding_all rfl) : SX X W (.Compare a [op, op'] [b, c] pos) (xOf (dChain g g' fa fb fc)) := by
  refine sx_of (pt_chain ho ho' ha hb hc hm) fun σ H Q hb ⟨α, ρ, S, hE, hS, h⟩ => ?_
  have h : PostR (gxOf X) (Wat W σ) (fun _ _ b c => b = c) α H (fun b H' => Bnd X.K H' → Q b H') (rbind (fa ρ S) fun x S1 => rbind (fb ρ S1) fun y S2 => rbind (g x y S2) fun z S3 => rbind (dBl z S3) fun k S4 =>
      if k = true then rbind (fc ρ S4) fun w S5 => rbind (g' y w S5) dBl else .ok false S4) := by
    have e : xOf (dChain g g' fa fb fc) ρ S = (rbind (fa ρ S) fun x S1 => rbind (fb ρ S1) fun y S2 => rbind (g x y S2) fun z S3 => rbind (dBl z S3) fun k S4 =>
      if k = true then rbind (fc ρ S4) fun w S5 => rbind (g' y w S5) dBl else .ok false S4) := by
      unfold xOf dChain
      cases fa ρ S with
      | ok d S1 =>
        show rbind (rbind (fb ρ S1) _) _ = rbind (fb ρ S1) _
        cases fb ρ S1 with
        | ok d2 S2 =>
          show rbind (rbind (g d d2 S2) _) _ = rbind (g d d2 S2) _
          cases g d d2 S2 with
          | ok z S3 =>
            show rbind (rbind (dBl z S3) _) _ = rbind (dBl z S3) _
            cases dBl z S3 with
            | ok k S4 =>
              cases k with
              | true => show rbind (rbind (fc ρ S4) _) _ = rbind (fc ρ S4) _; cases fc ρ S4 <;> rfl
              | false => rfl
            | _ => rfl
          | _ => rfl
        | _ => rfl
      | _ => rfl
    rw [← e]; exact h
  refine td_bind hE hS h fun d S1 α1 H1 v n1 hE1 s1 b1 r1 h => ?_
  refine td_bind hE1 s1 h fun d2 S2 α2 H2 v2 n2 hE2 s2 b2 r2 h => ?_
  refine hv _ α2 H2 S2 d d2 v v2 _ s2 b2 (r1.mono n2) r2 (post_bind h fun z S3 α3 H3 v3 n3 s3 r3 h => ?_)
  cases r3 with
  | bl k =>
    refine ⟨k, rfl, ?_⟩
    cases k with
    | true =>
      refine td_bind (hE2.mono n3) s3 h fun d4 S4 α4 H4 v4 n4 hE4 s4 b4 r4 h => ?_
      refine hv' _ α4 H4 S4 d2 d4 v2 v4 _ s4 b4 ((r2.mono n3).mono n4) r4 (post_bind h fun z S5 α5 H5 v5 n5 s5 r5 h => ?_)
      cases r5 with
      | bl b => exact ⟨b, rfl, h α5 H5 b .refl s5 rfl⟩
      | _ => exact h.elim
    | false => exact ⟨false, rfl, h α3 H3 _ .refl s3 rfl⟩
  | _ => exact h.elim

/-! ### arguments, displays -/
theorem sa_nil : SA X W [] aNil := sa_of pa_nil fun σ H Q hb ⟨α, ρ, S, hE, hS, h⟩ => h α H [] .refl hS .nil
theorem sa_cons {e : Expr} {es : List Expr} {f : Den} {fs : DenA} (he : SE X W e f) (hs : SA X W es fs) (hm : starEach (e :: es) X.env = (false, eval e X.env) :: starEach es X.env := by rfl) : SA X W (e :: es) (aCons f fs) := by
  refine sa_of (pa_cons he hs hm) fun σ H Q hb ⟨α, ρ, S, hE, hS, h⟩ => ?_
  refine td_bind hE hS h fun d S1 α1 H1 v n1 hE1 s1 b1 r1 h => ?_
  refine tda_bind hE1 s1 h fun d2 S2 α2 H2 v2 n2 hE2 s2 b2 r2 h => ?_
  exact h α2 H2 _ .refl s2 (.cons (r1.mono n2) r2)
theorem se_tup {es : List Expr} {fs : DenA} {k} (hs : SA X W es fs) : SE X W (.Tuple es k pos) (dTup fs) := by
  refine se_of (pe_tup hs) fun σ H Q hb ⟨α, ρ, S, hE, hS, h⟩ => ?_
  refine tda_bind hE hS h fun d S1 α1 H1 v n1 hE1 s1 b1 r1 h => ?_
  have hl := r1.length
  simp only at h
  split at h
  · refine ⟨by omega, fun p hp => ?_⟩
    obtain ⟨n, rs⟩ := s1.laid (u := .tup v) hp
    exact h α1 _ _ n rs (.tup (.inl ⟨.inl upd_same, s1.new hp⟩) (r1.mono n))
  · exact h.elim
theorem se_lst {es : List Expr} {fs : DenA} (hs : SA X W es fs) : SE X W (.List es pos) (dLst fs) := by
  refine se_of (pe_lst hs) fun σ H Q hb ⟨α, ρ, S, hE, hS, h⟩ => ?_
  refine tda_bind hE hS h fun d S1 α1 H1 v n1 hE1 s1 b1 r1 h => ?_
  have hl := r1.length
  simp only at h
  split at h
  · refine ⟨by omega, fun p hp => ?_⟩
    obtain ⟨n, rs⟩ := s1.laid (u := .lst v) hp
    exact h α1 _ _ n rs (.lst upd_same (s1.new hp) (r1.mono n))
  · exact h.elim
theorem RelS.newAt {G : Gx} {α : List Addr} {H : Hp} {S : Store} (h : RelS G α H S) (p : Addr) : (α ++ [p])[S.length]? = some p := by
  rw [← h.len]; simp
theorem sn_lst {es : List Expr} {fs : DenA} (hs : SA X W es fs) : SE X W (.List es pos) (nLst fs) := by
  refine se_of (pe_lst hs) fun σ H Q hb ⟨α, ρ, S, hE, hS, h⟩ => ?_
  refine tda_bind hE hS h fun d S1 α1 H1 v n1 hE1 s1 b1 r1 h => ?_
  have hl := r1.length
  simp only at h
  split at h
  · refine ⟨by omega, fun p hp => ?_⟩
    obtain ⟨n, rs⟩ := s1.push (u := .lst v) (o := .lst d) hp fun n => ⟨v, upd_same, r1.mono n⟩
    exact h _ _ _ n rs (.ref (s1.newAt p))
  · exact h.elim
/-- a call of a builtin by its name -/
theorem se_app {e : Expr} {r : List V → Hp → VK → Prop} {g : List D → Store → Res D} {fs : DenA} (h : PE X e (fun σ H Q => TDA (gxOf X) W fs σ H fun xs H1 => r xs H1 Q)) (hv : CallV (gxOf X) r g) : SE X W e (dApp g fs) := by
  refine se_of h fun σ H Q hb ⟨α, ρ, S, hE, hS, h⟩ => ?_
  refine tda_bind hE hS h fun d S1 α1 H1 v n1 hE1 s1 b1 r1 h => ?_
  exact hv _ α1 H1 S1 d v _ s1 b1 r1 h
end
end Dn

set_option maxHeartbeats 4000000
namespace Dn
open PySem PySem.Spec PyProof.Rows L2

/-! ### targets -/
inductive Tgt where
  | nm (i : Nat) | tp (ts : List Tgt)
mutual
def tset : Tgt → D → Env → Option Env
  | .nm i, d, ρ => some (ρ.set i (some d))
  | .tp ts, .tup ds, ρ => tsets ts ds ρ
  | .tp _, _, _ => none
def tsets : List Tgt → List D → Env → Option Env
  | [], [], ρ => some ρ
  | t :: ts, d :: ds, ρ => match tset t d ρ with
    | some ρ1 => tsets ts ds ρ1
    | none => none
  | _, _, _ => none
end
mutual
def Tgt.slots : Tgt → List Nat
  | .nm i => [i]
  | .tp ts => slotsL ts
def slotsL : List Tgt → List Nat
  | [] => []
  | t :: ts => t.slots ++ slotsL ts
end
def TDG (G : Gx) (t : Tgt) : TG := fun v σ H Q => ∃ α ρ d, RelE G α H ρ σ ∧ Rep G α H d v ∧ ∃ ρ', tset t d ρ = some ρ' ∧ ∀ σ', RelE G α H ρ' σ' → (∀ j, j ∉ t.slots → σ'[j]? = σ[j]?) → Q σ' H
def TDGs (G : Gx) (ts : List Tgt) : TGs := fun vs σ H Q => ∃ α ρ ds, RelE G α H ρ σ ∧ Reps G α H ds vs ∧ ∃ ρ', tsets ts ds ρ = some ρ' ∧ ∀ σ', RelE G α H ρ' σ' → (∀ j, j ∉ slotsL ts → σ'[j]? = σ[j]?) → Q σ' H
abbrev SG (X : Cx) (e : Expr) (t : Tgt) : Prop := PG X e (TDG (gxOf X) t)
abbrev SGs (X : Cx) (es : List Expr) (ts : List Tgt) : Prop := PGs X es (TDGs (gxOf X) ts)
section
variable {X : Cx} {pos : Pos}
theorem sg_of {e : Expr} {g g' : TG} (h : PG X e g) (k : ∀ v σ H Q, g' v σ H Q → g v σ H Q) : PG X e g' := ⟨fun pins s σ H v u Q I r hw => h.run pins s σ H v u Q I r (k _ _ _ _ hw)⟩
theorem sgs_of {e : List Expr} {g g' : TGs} (h : PGs X e g) (k : ∀ v σ H Q, g' v σ H Q → g v σ H Q) : PGs X e g' := ⟨fun pins s σ H v u Q I r hw => h.run pins s σ H v u Q I r (k _ _ _ _ hw)⟩
theorem sg_nm {i : Nat} {e : Expr} (h : PG X e (gName i)) : SG X e (.nm i) := sg_of h fun v σ H Q ⟨α, ρ, d, hE, r, ρ', e, q⟩ => by
  unfold tset at e
  cases e
  refine q _ (hE.set i r) fun j hj => ?_
  unfold Tgt.slots at hj
  rw [List.getElem?_set_ne (by simp at hj; exact fun z => hj z.symm)]
theorem sgs_nil : SGs X [] [] := sgs_of pgs_nil fun v σ H Q ⟨α, ρ, d, hE, r, ρ', e, q⟩ => by
  cases r with
  | nil =>
    simp [tsets] at e
    subst e
    exact ⟨rfl, q σ hE fun _ _ => rfl⟩
  | cons r t => simp [tsets] at e
theorem sgs_cons {e : Expr} {es : List Expr} {t : Tgt} {ts : List Tgt} (h1 : SG X e t) (h2 : SGs X es ts)
    (hs : (assignEach (e :: es) X.env).map (·.2) = assign e X.env :: (assignEach es X.env).map (·.2) := by rfl) : SGs X (e :: es) (t :: ts) := sgs_of (pgs_cons h1 h2 hs) fun v σ H Q ⟨α, ρ, d, hE, r, ρ', e, q⟩ => by
  cases r with
  | nil => simp [tsets] at e
  | @cons d v ds vs r rs =>
    unfold tsets at e
    cases h3 : tset t d ρ with
    | none => rw [h3] at e; cases e
    | some ρ1 =>
      rw [h3] at e
      refine ⟨v, vs, rfl, α, ρ, d, hE, r, ρ1, h3, fun σ1 hE1 f1 => ⟨α, ρ1, ds, hE1, rs, ρ', e, fun σ2 hE2 f2 => q σ2 hE2 fun j hj => ?_⟩⟩
      unfold slotsL at hj
      rw [List.mem_append, not_or] at hj
      exact (f2 j hj.2).trans (f1 j hj.1)
theorem sg_tup {es : List Expr} {k : Nat} {ts : List Tgt} {n : Nat} (hc : X.calm = true) (h : SGs X es ts)
    (hn : (assignEach es X.env).length = n := by rfl) (hst : (assignEach es X.env).findIdx? (·.1) = none := by rfl) (hl : ts.length = n := by rfl) : SG X (.Tuple es k pos) (.tp ts) :=
  sg_of (pg_tup hc h hn hst) fun v σ H Q ⟨α, ρ, d, hE, r, ρ', e, q⟩ => by
  cases r with
  | @tup a xs vs z rs =>
    unfold tset at e
    have hl2 : ∀ (ts : List Tgt) (xs : List D) (ρ ρ' : Env), tsets ts xs ρ = some ρ' → xs.length = ts.length := by
      intro ts
      induction ts with
      | nil => intro xs ρ ρ' e; cases xs with
        | nil => rfl
        | cons _ _ => simp [tsets] at e
      | cons t ts ih => intro xs ρ ρ' e; cases xs with
        | nil => simp [tsets] at e
        | cons x xs =>
          unfold tsets at e
          cases h3 : tset t x ρ with
          | none => rw [h3] at e; cases e
          | some ρ1 => rw [h3] at e; simp [ih xs ρ1 ρ' e]
    refine ⟨a, vs, rfl, Rep.sqT z, ?_, α, ρ, xs, hE, rs, ρ', e, fun σ' hE' f => q σ' hE' fun j hj => f j ?_⟩
    · have := hl2 _ _ _ _ e
      have := rs.length
      omega
    · unfold Tgt.slots at hj; exact hj
  | _ => simp [tset] at e
end

/-! ### statements -/
def obind {τ : Type} (r : Res τ) (ρ : Env) (k : τ → Store → Out) : Out := match r with
  | .ok d S => k d S
  | .exc e S => .exc e ρ S
  | .bad => .bad
def sSeq (f g : DenS) : DenS := fun ρ S => match f ρ S with
  | .nx ρ' S' => g ρ' S'
  | o => o
def sNext : DenS := fun ρ S => .nx ρ S
def sBrk : DenS := fun ρ S => .bk ρ S
def sCnt : DenS := fun ρ S => .ct ρ S
def sSet (i : Nat) (f : Den) : DenS := fun ρ S => obind (f ρ S) ρ fun d S1 => .nx (ρ.set i (some d)) S1
def sAsg (t : Tgt) (f : Den) : DenS := fun ρ S => obind (f ρ S) ρ fun d S1 => match tset t d ρ with
  | some ρ' => .nx ρ' S1
  | none => .bad
def sRet (f : Den) : DenS := fun ρ S => obind (f ρ S) ρ fun d S1 => .rt d S1
def sRetN : DenS := fun _ S => .rt .non S
def sDrop (f : Den) : DenS := fun ρ S => obind (f ρ S) ρ fun _ S1 => .nx ρ S1
def sIf (t : DenT) (f g : DenS) : DenS := fun ρ S => obind (t ρ S) ρ fun b S1 => if b = true then f ρ S1 else g ρ S1
def wipeE (dead : List Nat) (ρ : Env) : Env := dead.foldl (fun r i => r.set i none) ρ

section
variable {X : Cx} {W : WK} {pos : Pos} {st : Stmt} {rest : List Stmt} {f g : DenS} {e : Expr} {fe : Den}
theorem spost_bind {G : Gx} {τ ω : Type} {rel : List Addr → Hp → τ → ω → Prop} {D : Ends} {α : List Addr} {H : Hp} {σ : St} {ρ : Env} {r : Res τ} {k : τ → Store → Out} {Q1 : ω → Hp → Prop} (hE : RelE G α H ρ σ) (h : SPost G W D α H (obind r ρ k))
    (hk : ∀ d S1 α1 H1 v, Nxt α H α1 H1 → RelE G α1 H1 ρ σ → RelS G α1 H1 S1 → rel α1 H1 d v → SPost G W D α1 H1 (k d S1) → Q1 v H1) : PostR G (Wat W σ) rel α H Q1 r := by
  cases r with
  | ok d S => exact fun a b v n2 rs rp => hk d S a b v n2 (hE.mono n2) rs rp (SPost.step n2 h)
  | exc e S => exact fun a b C x v n2 rs m hx nx rp => h a b σ C x v n2 rs (hE.mono n2) m hx nx rp
  | bad => exact h
theorem SPost.endsB {G : Gx} {D : Ends} {α : List Addr} {H : Hp} {o : Out} (h : SPost G W D α H o) : SPost G W (EndsB G.K D) α H o := by
  cases o with
  | nx ρ S => exact fun a b σ n r e z _ => h a b σ n r e z
  | bk ρ S => exact fun a b σ n r e z _ => h a b σ n r e z
  | ct ρ S => exact fun a b σ n r e z _ => h a b σ n r e z
  | rt d S => exact fun a b v n r e z _ => h a b v n r e z
  | exc e ρ S => exact h
  | bad => exact h
theorem sb_nil : SB X W [] sNext := sb_of pss_nil fun σ H D hb ⟨α, ρ, S, hE, hS, h⟩ _ => h α H σ .refl hS hE hb
theorem sb_cons (h1 : SS X W st f) (h2 : SB X W rest g) : SB X W (st :: rest) (sSeq f g) := sb_of (pss_cons h1 h2) fun σ H D hb ⟨α, ρ, S, hE, hS, h⟩ => by
  refine ⟨α, ρ, S, hE, hS, ?_⟩
  unfold sSeq at h
  cases hf : f ρ S with
  | nx ρ' S' =>
    rw [hf] at h
    exact fun a b σ' n r e z => ⟨a, ρ', S', e, r, (SPost.step n h).endsB⟩
  | bk ρ' S' => rw [hf] at h; exact fun a b σ n r e z _ => h a b σ n r e z
  | ct ρ' S' => rw [hf] at h; exact fun a b σ n r e z _ => h a b σ n r e z
  | rt d S' => rw [hf] at h; exact fun a b σ n r e z _ => h a b σ n r e z
  | exc e ρ' S' => rw [hf] at h; exact h
  | bad => rw [hf] at h; exact h
theorem sb_one (h1 : SS X W st f) : SB X W [st] f := sb_of (pss_one h1) fun σ H D hb ⟨α, ρ, S, hE, hS, h⟩ => ⟨α, ρ, S, hE, hS, h.endsB⟩
theorem ss_pass : SS X W (.Pass pos) sNext := ss_of ps_pass fun σ H D hb ⟨α, ρ, S, hE, hS, h⟩ _ => h α H σ .refl hS hE hb
theorem ss_brk : SS X W (.Break pos) sBrk := ss_of ps_break fun σ H D hb ⟨α, ρ, S, hE, hS, h⟩ _ => h α H σ .refl hS hE hb
theorem ss_cnt : SS X W (.Continue pos) sCnt := ss_of ps_continue fun σ H D hb ⟨α, ρ, S, hE, hS, h⟩ _ => h α H σ .refl hS hE hb
theorem ss_asgG {tg : Expr} {t : Tgt} (h : PS X (.Assign [tg] e pos) (tAsg (TD (gxOf X) W fe) (TDG (gxOf X) t))) : SS X W (.Assign [tg] e pos) (sAsg t fe) := ss_of h fun σ H D hb ⟨α, ρ, S, hE, hS, h⟩ => by
  refine ⟨α, ρ, S, hE, hS, spost_bind hE h fun d S1 α1 H1 v n1 hE1 s1 r1 h b1 => ?_⟩
  cases ht : tset t d ρ with
  | none => rw [ht] at h; exact h.elim
  | some ρ' =>
    rw [ht] at h
    exact ⟨α1, ρ, d, hE1, r1, ρ', ht, fun σ' hE' _ b => h α1 H1 σ' .refl s1 hE' b⟩
theorem ss_asg {tg : Expr} {t : Tgt} (he : SE X W e fe) (hg : SG X tg t) (hs : swapsWithSole [tg] e pos.line X.env = pure false := by rfl) (hw : swappedStores [tg] e X.env = pure none := by rfl)
    (h1 : (assignEach [tg] X.env).map (·.2) = [assign tg X.env] := by rfl) : SS X W (.Assign [tg] e pos) (sAsg t fe) := ss_asgG (ps_asg he hg hs hw h1)
theorem ss_set {i : Nat} {x : Str} {pos' : Pos} (h : PS X (.Assign [.Name x pos'] e pos) (tAsg (TD (gxOf X) W fe) (gName i))) : SS X W (.Assign [.Name x pos'] e pos) (sSet i fe) := ss_of h fun σ H D hb ⟨α, ρ, S, hE, hS, h⟩ => by
  refine ⟨α, ρ, S, hE, hS, spost_bind hE h fun d S1 α1 H1 v n1 hE1 s1 r1 h b1 b2 => ?_⟩
  exact h α1 H1 _ .refl s1 (hE1.set i r1) b2
theorem ss_ret (he : SE X W e fe) : SS X W (.Return (some e) pos) (sRet fe) := ss_of (ps_ret he) fun σ H D hb ⟨α, ρ, S, hE, hS, h⟩ =>
  ⟨α, ρ, S, hE, hS, spost_bind hE h fun d S1 α1 H1 v n1 hE1 s1 r1 h b1 b2 => h α1 H1 v .refl s1 r1 b2⟩
theorem ss_retN : SS X W (.Return none pos) sRetN := ss_of ps_retN fun σ H D hb ⟨α, ρ, S, hE, hS, h⟩ b => h α H .non .refl hS .non b
theorem ss_expr (he : SE X W e fe) (hs : swapsWith e none pos.line X.env = pure false := by rfl) : SS X W (.Expr e pos) (sDrop fe) := ss_of (ps_expr he hs) fun σ H D hb ⟨α, ρ, S, hE, hS, h⟩ =>
  ⟨α, ρ, S, hE, hS, spost_bind hE h fun d S1 α1 H1 v n1 hE1 s1 r1 h b1 b2 => h α1 H1 σ .refl s1 hE1 b2⟩
theorem ss_if {c : Expr} {a b : List Stmt} {t : DenT} (hc : SX X W c t) (ha : SB X W a f) (hb : SB X W b g) : SS X W (.If c a b pos) (sIf t f g) := ss_of (ps_if hc ha hb) fun σ H D hb ⟨α, ρ, S, hE, hS, h⟩ => by
  refine ⟨α, ρ, S, hE, hS, spost_bind hE h fun d S1 α1 H1 v n1 hE1 s1 r1 h b1 => ?_⟩
  cases r1
  cases d with
  | true => exact ⟨α1, ρ, S1, hE1, s1, h.endsB⟩
  | false => exact ⟨α1, ρ, S1, hE1, s1, h.endsB⟩
/-- a, b = x, y (plain local names) -/
def sPar (i j : Nat) (a b : Den) : DenS := fun ρ S => obind (a ρ S) ρ fun x S1 => obind (b ρ S1) ρ fun y S2 => .nx ((ρ.set i (some x)).set j (some y)) S2
theorem ss_par {i j : Nat} {tgt tup : Expr} {a b : Den} (h : PS X (.Assign [tgt] tup pos) (tPar i j (TDA (gxOf X) W (aCons a (aCons b aNil))))) : SS X W (.Assign [tgt] tup pos) (sPar i j a b) := ss_of h fun σ H D hb ⟨α, ρ, S, hE, hS, h⟩ => by
  have h : SPost (gxOf X) W D α H (obind (aCons a (aCons b aNil) ρ S) ρ fun xs S2 => match xs with
      | [x, y] => .nx ((ρ.set i (some x)).set j (some y)) S2
      | _ => .bad) := by
    have e : sPar i j a b ρ S = (obind (aCons a (aCons b aNil) ρ S) ρ fun xs S2 => match xs with
      | [x, y] => .nx ((ρ.set i (some x)).set j (some y)) S2
      | _ => .bad) := by
      unfold sPar aCons aNil
      cases a ρ S with
      | ok d S1 => show obind (b ρ S1) ρ _ = obind (rbind (rbind (b ρ S1) _) _) ρ _; cases b ρ S1 <;> rfl
      | _ => rfl
    rw [← e]; exact h
  refine ⟨α, ρ, S, hE, hS, spost_bind hE h fun d S1 α1 H1 v n1 hE1 s1 r1 h b1 => ?_⟩
  cases r1 with
  | nil => exact h.elim
  | cons r1 t1 => cases t1 with
    | nil => exact h.elim
    | cons r2 t2 => cases t2 with
      | nil => exact ⟨_, _, rfl, fun b2 => h α1 H1 _ .refl s1 ((hE1.set i r1).set j r2) b2⟩
      | cons r3 t3 => exact h.elim
/-- x op= e -/
theorem ss_aug {i : Nat} {x : Str} {op : Operator} {ti : TIp} {g : D → D → Store → Res D} {pos' : Pos} (h : PS X (.AugAssign (.Name x pos') op e pos) (tAug i (TD (gxOf X) W fe) ti)) (hv : OpV (gxOf X) ti g) : SS X W (.AugAssign (.Name x pos') op e pos) (sSet i (dBin g (dVar i) fe)) :=
  ss_of h fun σ H D hb ⟨α, ρ, S, hE, hS, h⟩ => by
  unfold sSet dBin dVar at h
  cases hx : ρ[i]? with
  | none => rw [hx] at h; exact h.elim
  | some o => cases o with
    | none => rw [hx] at h; exact h.elim
    | some d =>
      rw [hx] at h
      obtain ⟨v, q, r⟩ := hE.at_ i d hx
      refine ⟨v, q, ?_⟩
      have h : SPost (gxOf X) W D α H (obind (fe ρ S) ρ fun y S2 => obind (g d y S2) ρ fun z S3 => .nx (ρ.set i (some z)) S3) := by
        have e : (obind (rbind (Res.ok d S) fun x S1 => rbind (fe ρ S1) fun y S2 => g x y S2) ρ fun d S1 => Out.nx (ρ.set i (some d)) S1) = (obind (fe ρ S) ρ fun y S2 => obind (g d y S2) ρ fun z S3 => .nx (ρ.set i (some z)) S3) := by
          show obind (rbind (fe ρ S) _) ρ _ = _
          cases fe ρ S <;> rfl
        rw [← e]; exact h
      refine ⟨α, ρ, S, hE, hS, spost_bind hE h fun d2 S1 α1 H1 v2 n1 hE1 s1 r1 h b1 => ?_⟩
      refine hv (Wat W σ) α1 H1 S1 d d2 v v2 _ s1 b1 (r.mono n1) r1 (spost_bind hE1 h fun z S3 α3 H3 v3 n3 hE3 s3 r3 h => fun b3 => ?_)
      exact h α3 H3 _ .refl s3 (hE3.set i r3) b3
end

/-! ### loops -/
structure Itm where
  xs : List D
  grd : Option (Nat × O) := none
abbrev DenI := Env → Store → Res Itm
def grdOk : Option (Nat × O) → Store → Prop
  | none, _ => True
  | some (n, o), S => S[n]? = some o
open Classical in
noncomputable def forD (t : Tgt) (dead : List Nat) (body : DenS) (grd : Option (Nat × O)) : List D → Env → Store → Out
  | [], ρ, S => if grdOk grd S then .nx ρ S else .bad
  | x :: xs, ρ, S => if grdOk grd S then match tset t x ρ with
      | none => .bad
      | some ρ1 => match body ρ1 S with
        | .nx ρ2 S2 => forD t dead body grd xs (wipeE dead ρ2) S2
        | .ct ρ2 S2 => forD t dead body grd xs (wipeE dead ρ2) S2
        | .bk ρ2 S2 => .nx (wipeE dead ρ2) S2
        | o => o
    else .bad
noncomputable def sFor (it : DenI) (t : Tgt) (dead : List Nat) (body : DenS) : DenS := fun ρ S => obind (it ρ S) ρ fun i S1 => forD t dead body i.grd i.xs ρ S1
def GoodIt (G : Gx) (α : List Addr) (H : Hp) (it : Itm) (J : It) : Prop := it.xs.length ≤ sizeLine ∧ ∀ α2 H2 S2, Nxt α H α2 H2 → RelS G α2 H2 S2 → grdOk it.grd S2 → ∀ i : Nat,
  (∀ d, it.xs[i]? = some d → J.go i H2 ∧ ∀ x H3, J.yld i H2 x H3 → Nxt α2 H2 α2 H3 ∧ RelS G α2 H3 S2 ∧ Rep G α2 H3 d x) ∧ (i = it.xs.length → J.stop i H2)
theorem GoodIt.mono {G : Gx} {α α' : List Addr} {H H' : Hp} {it : Itm} {J : It} (h : GoodIt G α H it J) (n : Nxt α H α' H') : GoodIt G α' H' it J := ⟨h.1, fun a b S n2 => h.2 a b S (n.trans n2)⟩
def TDI (G : Gx) (W : WK) (f : DenI) : TI := fun σ H R => ∃ α ρ S, RelE G α H ρ σ ∧ RelS G α H S ∧ PostR G (Wat W σ) (GoodIt G) α H (fun J H' => Bnd G.K H' → R J H') (f ρ S)
abbrev SI (X : Cx) (W : WK) (tg e : Expr) (f : DenI) : Prop := PI X tg e (TDI (gxOf X) W f)
theorem RelE.wipe {G : Gx} {α : List Addr} {H : Hp} {ρ : Env} {σ : St} (dead : List Nat) (h : RelE G α H ρ σ) : RelE G α H (wipeE dead ρ) σ := by
  unfold wipeE
  induction dead generalizing ρ with
  | nil => exact h
  | cons i r ih =>
    refine ih ⟨by simp [h.len], fun j d e => ?_⟩
    by_cases hj : i = j
    · subst hj
      rw [List.getElem?_set] at e
      simp at e
    · rw [List.getElem?_set_ne hj] at e
      exact h.at_ j d e
section
variable {X : Cx} {W : WK} {pos : Pos} {tg iter : Expr} {body : List Stmt} {t : Tgt} {fi : DenI} {fb : DenS}
theorem si_of {wi : TI} (h : PI X tg iter wi) (imp : ∀ σ H R, Bnd X.K H → TDI (gxOf X) W fi σ H R → wi σ H (fun J H' => Bnd X.K H' → R J H')) : SI X W tg iter fi :=
  ⟨fun pins s σ H R I hw => thn (h.run pins s σ H _ I (imp σ H R (inv_bnd I) hw)) fun v s1 q => thn q fun itv s2 ⟨it, fp, tn, J, H', e, I2, T, st, f2, r⟩ => ⟨it, fp, tn, J, H', e, I2, T, st, f2, r (inv_bnd I2)⟩⟩
/-- what stands behind a turn, without the records of the loop -/
theorem ss_for (dead : List Nat) (hp : PassesOwn (model X.prog X.w) X.A X.env X.xe) (hc : X.calm = true) (hi : SI X W tg iter fi) (hg : SG X tg t) (hb : SB X W body fb)
    (hs : ∀ x, foldedSetIterable iter X.env x = pure x := by intro _; rfl) : SS X W (.For tg iter body [] pos) (sFor fi t dead fb) := ss_of (ps_for hp hc hi hg hb hs) fun σ0 H0 D hb ⟨α, ρ, S, hE, hS, h⟩ => by
  refine ⟨α, ρ, S, hE, hS, spost_bind hE h fun it S1 α1 H1 J n1 hE1 s1 r1 h b1 => ?_⟩
  refine ⟨fun i m σ H => ∃ α2 ρ2 S2, Nxt α1 H1 α2 H ∧ RelE (gxOf X) α2 H ρ2 σ ∧ RelS (gxOf X) α2 H S2 ∧ i ≤ it.xs.length ∧ m = it.xs.length - i ∧ SPost (gxOf X) W (EndsB X.K D) α2 H (forD t dead fb it.grd (it.xs.drop i) ρ2 S2),
    ⟨_, α1, ρ, S1, .refl, hE1, s1, Nat.zero_le _, rfl, h.endsB⟩, ?_⟩
  rintro i m σ H ⟨α2, ρ2, S2, n2, hE2, s2, hi, rfl, h⟩
  by_cases hlt : i < it.xs.length
  · right
    rw [List.drop_eq_getElem_cons hlt] at h
    unfold forD at h
    split at h
    · rename_i hgrd
      obtain ⟨go, stop⟩ := r1.2 α2 H S2 n2 s2 hgrd i
      obtain ⟨go, yld⟩ := go it.xs[i] (List.getElem?_eq_getElem hlt)
      refine ⟨go, fun σ' H' => ∃ m', m' < it.xs.length - i ∧ ∃ α2 ρ2 S2, Nxt α1 H1 α2 H' ∧ RelE (gxOf X) α2 H' ρ2 σ' ∧ RelS (gxOf X) α2 H' S2 ∧ i + 1 ≤ it.xs.length ∧ m' = it.xs.length - (i + 1) ∧ SPost (gxOf X) W (EndsB X.K D) α2 H' (forD t dead fb it.grd (it.xs.drop (i + 1)) ρ2 S2),
        fun σ' H' q => q, fun x H' hy => ?_⟩
      obtain ⟨n3, s3, r3⟩ := yld x H' hy
      cases ht : tset t it.xs[i] ρ2 with
      | none => rw [ht] at h; exact h.elim
      | some ρ3 =>
        rw [ht] at h
        refine ⟨α2, ρ2, it.xs[i], hE2.mono n3, r3, ρ3, ht, fun σ3 hE3 _ => ⟨α2, ρ3, S2, hE3, s3, ?_⟩⟩
        have h := SPost.step n3 h
        simp only at h
        cases hf : fb ρ3 S2 with
        | nx ρ4 S4 =>
          rw [hf] at h
          exact fun a b σ4 n4 rs4 re4 z => ⟨_, by omega, a, wipeE dead ρ4, S4, (n2.trans n3).trans n4, re4.wipe dead, rs4, hlt, rfl, SPost.step n4 h⟩
        | ct ρ4 S4 =>
          rw [hf] at h
          exact fun a b σ4 n4 rs4 re4 z => ⟨_, by omega, a, wipeE dead ρ4, S4, (n2.trans n3).trans n4, re4.wipe dead, rs4, hlt, rfl, SPost.step n4 h⟩
        | bk ρ4 S4 =>
          rw [hf] at h
          exact fun a b σ4 n4 rs4 re4 z => h a b σ4 n4 rs4 (re4.wipe dead) z
        | rt d S4 => rw [hf] at h; exact h
        | exc e ρ4 S4 => rw [hf] at h; exact h
        | bad => rw [hf] at h; exact h
    · exact h.elim
  · left
    have e : i = it.xs.length := by omega
    subst e
    rw [List.drop_length] at h
    unfold forD at h
    split at h
    · rename_i hgrd
      obtain ⟨go, stop⟩ := r1.2 α2 H S2 n2 s2 hgrd it.xs.length
      exact ⟨stop rfl, fun b => h α2 H σ .refl s2 hE2 b b⟩
    · exact h.elim
end

def whileN (c : DenT) (dead : List Nat) (body : DenS) : Nat → Env → Store → Out
  | 0, _, _ => .bad
  | n + 1, ρ, S => obind (c ρ S) ρ fun b S1 => if b = true then match body ρ S1 with
      | .nx ρ2 S2 => whileN c dead body n (wipeE dead ρ2) S2
      | .ct ρ2 S2 => whileN c dead body n (wipeE dead ρ2) S2
      | .bk ρ2 S2 => .nx (wipeE dead ρ2) S2
      | o => o
    else .nx ρ S1
open Classical in
noncomputable def sWhile (c : DenT) (dead : List Nat) (body : DenS) : DenS := fun ρ S => if h : ∃ n, whileN c dead body n ρ S ≠ .bad then whileN c dead body h.choose ρ S else .bad
section
variable {X : Cx} {W : WK} {pos : Pos} {c : Expr} {body : List Stmt} {fc : DenT} {fb : DenS}
theorem ss_while (dead : List Nat) (hp : PassesOwn (model X.prog X.w) X.A X.env X.xe) (hc : SX X W c fc) (hb : SB X W body fb) : SS X W (.While c body [] pos) (sWhile fc dead fb) := ss_of (ps_while hp hc hb) fun σ0 H0 D hb ⟨α, ρ, S, hE, hS, h⟩ => by
  unfold sWhile at h
  split at h
  · rename_i hn
    refine ⟨fun m σ H => ∃ α2 ρ2 S2, RelE (gxOf X) α2 H ρ2 σ ∧ RelS (gxOf X) α2 H S2 ∧ SPost (gxOf X) W (EndsB X.K D) α2 H (whileN fc dead fb m ρ2 S2), ⟨_, α, ρ, S, hE, hS, h.endsB⟩, ?_⟩
    rintro m σ H ⟨α2, ρ2, S2, hE2, s2, h⟩
    cases m with
    | zero => exact h.elim
    | succ m =>
      unfold whileN at h
      refine ⟨α2, ρ2, S2, hE2, s2, spost_bind hE2 h fun b S1 α1 H1 v n1 hE1 s1 r1 h b1 => ?_⟩
      cases r1
      cases b with
      | false => exact fun b2 => h α1 H1 σ .refl s1 hE1 b2 b2
      | true =>
        refine ⟨fun σ' H' => ∃ m', m' < m + 1 ∧ ∃ α2 ρ2 S2, RelE (gxOf X) α2 H' ρ2 σ' ∧ RelS (gxOf X) α2 H' S2 ∧ SPost (gxOf X) W (EndsB X.K D) α2 H' (whileN fc dead fb m' ρ2 S2), fun σ' H' q => q, α1, ρ2, S1, hE1, s1, ?_⟩
        simp only [if_true] at h
        cases hf : fb ρ2 S1 with
        | nx ρ4 S4 =>
          rw [hf] at h
          exact fun a b σ4 n4 rs4 re4 z => ⟨m, Nat.lt_succ_self _, a, wipeE dead ρ4, S4, re4.wipe dead, rs4, SPost.step n4 h⟩
        | ct ρ4 S4 =>
          rw [hf] at h
          exact fun a b σ4 n4 rs4 re4 z => ⟨m, Nat.lt_succ_self _, a, wipeE dead ρ4, S4, re4.wipe dead, rs4, SPost.step n4 h⟩
        | bk ρ4 S4 =>
          rw [hf] at h
          exact fun a b σ4 n4 rs4 re4 z => h a b σ4 n4 rs4 (re4.wipe dead) z
        | rt d S4 => rw [hf] at h; exact h
        | exc e ρ4 S4 => rw [hf] at h; exact h
        | bad => rw [hf] at h; exact h
  · exact h.elim
end
end Dn

set_option maxHeartbeats 4000000
namespace Dn
open PySem PySem.Spec PyProof.Rows L2

/-! ### sequences of the store -/
def asL (S : Store) : D → Option (List D)
  | .lst xs => some xs
  | .ref n => match S[n]? with
    | some (.lst xs) => some xs
    | _ => none
  | _ => none
/-- a list or a tuple -/
def asQ (S : Store) : D → Option (List D)
  | .tup xs => some xs
  | .lst xs => some xs
  | .rol xs => some (xs.map D.int)
  | .ref n => match S[n]? with
    | some (.lst xs) => some xs
    | _ => none
  | _ => none
section
variable {G : Gx} {α : List Addr} {H : Hp} {S : Store} {d : D} {v : V} {xs : List D}
theorem asL_rep (hS : RelS G α H S) (r : Rep G α H d v) (e : asL S d = some xs) : ∃ a vs, v = .ref a ∧ H a = some (.lst vs) ∧ Reps G α H xs vs := by
  cases r with
  | lst h n r => simp [asL] at e; subst e; exact ⟨_, _, rfl, h, r⟩
  | @ref n a h =>
    unfold asL at e
    split at e <;> simp at *
    rename_i n' heq
    subst heq
    split at e
    · rename_i q
      simp at e
      subst e
      obtain ⟨vs, h1, h2⟩ := hS.cell h q
      exact ⟨vs, h1, h2⟩
    · simp at e
  | _ => simp [asL] at e
theorem asQ_rep (hS : RelS G α H S) (r : Rep G α H d v) (e : asQ S d = some xs) : ∃ a vs, v = .ref a ∧ (SqL G.K H a vs ∨ SqT G.K H a vs) ∧ Reps G α H xs vs := by
  cases r with
  | lst h n r => simp [asQ] at e; subst e; exact ⟨_, _, rfl, .inl (SqL.of h), r⟩
  | tup h r => simp [asQ] at e; subst e; exact ⟨_, _, rfl, .inr (Rep.sqT h), r⟩
  | rol h => simp [asQ] at e; subst e; exact ⟨_, _, rfl, .inl (Rep.sqL h), Reps.ofInts _⟩
  | @ref n a h =>
    unfold asQ at e
    split at e <;> simp at *
    rename_i n' heq
    subst heq
    split at e
    · rename_i q
      simp at e
      subst e
      obtain ⟨vs, h1, h2⟩ := hS.cell h q
      exact ⟨vs, .inl (SqL.of h1), h2⟩
    · simp at e
  | _ => simp [asQ] at e
/-- a new frozen list, tuple; a new cell -/
theorem post_lst {W : XK} {Q : VK} {vs : List V} (hS : RelS G α H S) (r : Reps G α H xs vs) (h : PostR G W (Rep G) α H Q (.ok (.lst xs) S)) : ∀ p, H p = none → Q (.ref p) (upd H p (.lst vs)) := fun p hp => by
  obtain ⟨n, rs⟩ := hS.laid (u := .lst vs) hp
  exact h α _ _ n rs (.lst upd_same (hS.new hp) (r.mono n))
theorem post_tup {W : XK} {Q : VK} {vs : List V} (hS : RelS G α H S) (r : Reps G α H xs vs) (h : PostR G W (Rep G) α H Q (.ok (.tup xs) S)) : ∀ p, H p = none → Q (.ref p) (upd H p (.tup vs)) := fun p hp => by
  obtain ⟨n, rs⟩ := hS.laid (u := .tup vs) hp
  exact h α _ _ n rs (.tup (.inl ⟨.inl upd_same, hS.new hp⟩) (r.mono n))
theorem post_new {W : XK} {Q : VK} {vs : List V} (hS : RelS G α H S) (r : Reps G α H xs vs) (h : PostR G W (Rep G) α H Q (.ok (.ref S.length) (S ++ [.lst xs]))) : ∀ p, H p = none → Q (.ref p) (upd H p (.lst vs)) := fun p hp => by
  obtain ⟨n, rs⟩ := hS.push (u := .lst vs) (o := .lst xs) hp fun n => ⟨vs, upd_same, r.mono n⟩
  exact h _ _ _ n rs (.ref (hS.newAt p))
end

/-! ### ints -/
def gI (C : Int → Int → Bool) (f : Int → Int → D) : D → D → Store → Res D
  | .int i, .int j, S => if C i j = true then .ok (f i j) S else .bad
  | _, _, _ => .bad
theorem gI_ok {G : Gx} {C : Int → Int → Bool} {C' : Int → Int → Prop} {f : Int → Int → D} {f' : Int → Int → V} (hC : ∀ i j, C i j = true → C' i j) (hf : ∀ α H i j, C i j = true → Rep G α H (f i j) (f' i j)) : OpV G (rI C' f') (gI C f) := by
  intro W α H S x y vx vy Q hS hB rx ry h
  unfold gI at h
  split at h
  · cases rx; cases ry
    split at h
    · rename_i hc
      exact ⟨_, _, rfl, rfl, hC _ _ hc, h α H _ .refl hS (hf α H _ _ hc)⟩
    · exact h.elim
  · exact h.elim
theorem gI0_ok {G : Gx} {f : Int → Int → D} {f' : Int → Int → V} (hf : ∀ α H i j, Rep G α H (f i j) (f' i j)) : OpV G (rI0 f') (gI (fun _ _ => true) f) := by
  intro W α H S x y vx vy Q hS hB rx ry h
  unfold gI at h
  split at h
  · cases rx; cases ry
    exact ⟨_, _, rfl, rfl, h α H _ .refl hS (hf α H _ _)⟩
  · exact h.elim
def gSubI := gI (fun _ _ => true) fun i j => D.int (i - j)
def gMulI := gI (fun i j => decide ((Builtin.Int.intBits i : Int) + (Builtin.Int.intBits j : Int) ≤ 134217728)) fun i j => D.int (i * j)
def gDiv := gI (fun _ j => decide (0 < j ∧ j.natAbs.log2 < 9000)) fun i j => D.int (i / j)
def gMod := gI (fun _ j => decide (0 < j)) fun i j => D.int (i % j)
def gPow := gI (fun i j => decide (0 ≤ j ∧ j ≤ 1000000 ∧ i.natAbs < 2 ^ 64)) fun i j => D.int (i ^ j.toNat)
def gShl := gI (fun i j => decide (0 ≤ j ∧ j ≤ 1000000 ∧ i.natAbs < 2 ^ 64)) fun i j => D.int (i * 2 ^ j.toNat)
def gShr := gI (fun _ j => decide (0 ≤ j)) fun i j => D.int (i / 2 ^ j.toNat)
section
variable {X : Cx}
theorem v_sub : OpV (gxOf X) (rI0 fun i j => .int (i - j)) gSubI := gI0_ok fun _ _ i j => .int _
theorem v_mulI : OpV (gxOf X) (rI CMulX fun i j => .int (i * j)) gMulI := gI_ok (fun i j h => by have h' := of_decide_eq_true h; exact h') fun _ _ i j _ => .int _
theorem v_div : OpV (gxOf X) (rI CDivW fun i j => .int (i / j)) gDiv := gI_ok (fun i j h => by have h' := of_decide_eq_true h; exact h') fun _ _ i j _ => .int _
theorem v_mod : OpV (gxOf X) (rI (fun _ j => 0 < j) fun i j => .int (i % j)) gMod := gI_ok (fun i j h => by have h' := of_decide_eq_true h; exact h') fun _ _ i j _ => .int _
theorem v_pow : OpV (gxOf X) (rI CPow fun i j => .int (i ^ j.toNat)) gPow := gI_ok (fun i j h => by have h' := of_decide_eq_true h; exact h') fun _ _ i j _ => .int _
theorem v_shl : OpV (gxOf X) (rI CPow fun i j => .int (i * 2 ^ j.toNat)) gShl := gI_ok (fun i j h => by have h' := of_decide_eq_true h; exact h') fun _ _ i j _ => .int _
theorem v_shr : OpV (gxOf X) (rI (fun _ j => 0 ≤ j) fun i j => .int (i / 2 ^ j.toNat)) gShr := gI_ok (fun i j h => by have h' := of_decide_eq_true h; exact h') fun _ _ i j _ => .int _
end
/-! ### + -/
def gAdd (x y : D) (S : Store) : Res D := match x, y with
  | .int i, .int j => .ok (.int (i + j)) S
  | .tup xs, .tup ys => if xs.length + ys.length ≤ sizeLine then .ok (.tup (xs ++ ys)) S else .bad
  | _, _ => match asL S x, asL S y with
    | some xs, some ys => if xs.length + ys.length ≤ sizeLine then .ok (.lst (xs ++ ys)) S else .bad
    | _, _ => .bad
section
variable {X : Cx}
theorem op_add3 : OpR X (binaryOp .Add) (fun x y H Q => rI0 (fun i j => .int (i + j)) x y H Q ∨ rCatA X.K x y H Q ∨ rCat x y H Q) := op_add.or (op_catA.or op_cat)
theorem v_add : OpV (gxOf X) (fun x y H Q => rI0 (fun i j => .int (i + j)) x y H Q ∨ rCatA X.K x y H Q ∨ rCat x y H Q) gAdd := by
  intro W α H S x y vx vy Q hS hB rx ry h
  unfold gAdd at h
  split at h
  · cases rx; cases ry
    exact .inl ⟨_, _, rfl, rfl, h α H _ .refl hS (.int _)⟩
  · cases rx with
    | @tup a xs vs hx rx => cases ry with
      | @tup b ys us hy ry =>
        split at h
        · have l1 := rx.length
          have l2 := ry.length
          refine .inr (.inl ⟨a, b, vs, us, rfl, rfl, Rep.sqT hx, Rep.sqT hy, by omega, fun e => ?_, fun e1 e2 => ?_, fun e1 e2 => ?_⟩)
          · subst e
            cases rx
            exact h α H _ .refl hS (.tup hy ry)
          · subst e2
            cases ry
            rw [List.append_nil] at h
            exact h α H _ .refl hS (.tup hx rx)
          · exact post_tup hS (rx.append ry) h
        · exact h.elim
  · split at h
    · rename_i xs ys e1 e2
      split at h
      · obtain ⟨a, vs, rfl, h1, r1⟩ := asL_rep hS rx e1
        obtain ⟨b, us, rfl, h2, r2⟩ := asL_rep hS ry e2
        have l1 := r1.length
        have l2 := r2.length
        exact .inr (.inr ⟨a, b, vs, us, rfl, rfl, h1, h2, by omega, post_lst hS (r1.append r2) h⟩)
      · exact h.elim
    · exact h.elim
end
/-! ### * -/
def gMul (x y : D) (S : Store) : Res D := match x, y with
  | .int i, .int j => gMulI (.int i) (.int j) S
  | .tup xs, .int k => if xs ≠ [] ∧ 2 ≤ k ∧ k ≤ 1000 ∧ xs.length ≤ 1000 then .ok (.tup (List.replicate k.toNat xs).flatten) S else .bad
  | _, .int k => match asL S x with
    | some xs => if -(2 ^ 63) ≤ k ∧ k < 2 ^ 63 ∧ xs.length * k.toNat ≤ sizeLine then .ok (.lst (List.replicate k.toNat xs).flatten) S else .bad
    | none => .bad
  | _, _ => .bad

def gMulN (x y : D) (S : Store) : Res D := match y with
  | .int k => match asL S x with
    | some xs => if -(2 ^ 63) ≤ k ∧ k < 2 ^ 63 ∧ xs.length * k.toNat ≤ sizeLine then .ok (.ref S.length) (S ++ [.lst (List.replicate k.toNat xs).flatten]) else .bad
    | none => .bad
  | _ => .bad
theorem Reps.rep {G : Gx} {α : List Addr} {H : Hp} {xs : List D} {vs : List V} (r : Reps G α H xs vs) : ∀ k : Nat, Reps G α H (List.replicate k xs).flatten (List.replicate k vs).flatten
  | 0 => .nil
  | k + 1 => by rw [List.replicate_succ, List.replicate_succ]; exact r.append (r.rep k)
section
variable {X : Cx}
def rMul3 (K : PySem.W.Frag) : R2 := fun x y H Q => rI CMulX (fun i j => .int (i * j)) x y H Q ∨ rRepT K x y H Q ∨ rRep x y H Q
theorem op_mul3 : OpR X (binaryOp .Mult) (rMul3 X.K) := op_mulX.or (op_repT.or op_rep)
theorem v_mul : OpV (gxOf X) (rMul3 X.K) gMul := by
  intro W α H S x y vx vy Q hS hB rx ry h
  unfold gMul at h
  split at h
  · exact .inl (v_mulI (X := X) W α H S _ _ vx vy Q hS hB rx ry h)
  · cases ry
    cases rx with
    | @tup a xs vs hx rx =>
      split at h
      · rename_i hc
        have l1 := rx.length
        obtain ⟨c1, c2, c3, c4⟩ := hc
        refine .inr (.inl ⟨a, _, vs, rfl, rfl, Rep.sqT hx, fun e => c1 ?_, c2, c3, by omega, post_tup hS (rx.rep _) h⟩)
        subst e
        cases rx
        rfl
      · exact h.elim
  · cases ry
    split at h
    · rename_i xs e1
      split at h
      · rename_i hc
        obtain ⟨a, vs, rfl, h1, r1⟩ := asL_rep hS rx e1
        have l1 := r1.length
        obtain ⟨c1, c2, c3⟩ := hc
        exact .inr (.inr ⟨a, _, vs, rfl, rfl, h1, c1, c2, by rw [← l1]; exact c3, post_lst hS (r1.rep _) h⟩)
      · exact h.elim
    · exact h.elim
  · exact h.elim
theorem v_mulN : OpV (gxOf X) (rMul3 X.K) gMulN := by
  intro W α H S x y vx vy Q hS hB rx ry h
  unfold gMulN at h
  split at h
  · cases ry
    split at h
    · rename_i xs e1
      split at h
      · rename_i hc
        obtain ⟨a, vs, rfl, h1, r1⟩ := asL_rep hS rx e1
        have l1 := r1.length
        obtain ⟨c1, c2, c3⟩ := hc
        exact .inr (.inr ⟨a, _, vs, rfl, rfl, h1, c1, c2, by rw [← l1]; exact c3, post_new hS (r1.rep _) h⟩)
      · exact h.elim
    · exact h.elim
  · exact h.elim
end

/-! ### data: == , in -/
mutual
def pyOf : D → Option PyData
  | .non => some .none
  | .bl b => some (.bool b)
  | .int i => some (.int i)
  | .str x => if PyData.strOk x = true then some (.str x) else none
  | .tup xs => (pyAll xs).map PyData.tuple
  | .lst xs => (pyAll xs).map PyData.list
  | .rol xs => some (.list (xs.map PyData.int))
  | .ref _ => none
def pyAll : List D → Option (List PyData)
  | [] => some []
  | d :: ds => match pyOf d, pyAll ds with
    | some x, some xs => some (x :: xs)
    | _, _ => none
end
def pyTop (S : Store) : D → Option PyData
  | .ref n => match S[n]? with
    | some (.lst xs) => (pyAll xs).map PyData.list
    | _ => none
  | d => pyOf d
theorem ints_dp {K : PySem.W.Frag} {H : Hp} : ∀ xs : List Int, DpAll K H (xs.map V.int) (xs.map PyData.int)
  | [] => .nil
  | x :: xs => .cons (.int x) (ints_dp xs)
theorem ints_lay : ∀ xs : List Int, PyData.canLayAll0 (xs.map PyData.int) = true
  | [] => by simp [PyData.canLayAll0]
  | x :: xs => by simp [PyData.canLayAll0, PyData.canLay0, ints_lay xs]
section
variable {G : Gx} {α : List Addr} {H : Hp} {S : Store}
mutual
theorem pyOf_dp : ∀ {d : D} {v : V} {p : PyData}, Rep G α H d v → pyOf d = some p → Dp G.K H v p ∧ p.canLay0 = true
  | _, _, p, .non, e => by simp [pyOf] at e; subst e; exact ⟨.non, by simp [PyData.canLay0]⟩
  | _, _, p, .bl b, e => by simp [pyOf] at e; subst e; exact ⟨.bl b, by simp [PyData.canLay0]⟩
  | _, _, p, .int b, e => by simp [pyOf] at e; subst e; exact ⟨.int b, by simp [PyData.canLay0]⟩
  | _, _, p, .str b, e => by
    unfold pyOf at e
    split at e
    · rename_i hs; cases e; exact ⟨.str b, by simp [PyData.canLay0, hs]⟩
    · cases e
  | _, _, p, .tup h r, e => by
    unfold pyOf at e
    obtain ⟨ps, e1, rfl⟩ := Option.map_eq_some_iff.mp e
    obtain ⟨h1, h2⟩ := pyAll_dp r e1
    exact ⟨.tup (Rep.sqT h) h1, by simp [PyData.canLay0, h2]⟩
  | _, _, p, .lst h n r, e => by
    unfold pyOf at e
    obtain ⟨ps, e1, rfl⟩ := Option.map_eq_some_iff.mp e
    obtain ⟨h1, h2⟩ := pyAll_dp r e1
    exact ⟨.lst (SqL.of h) h1, by simp [PyData.canLay0, h2]⟩
  | _, _, p, .rol h, e => by
    unfold pyOf at e
    cases e
    exact ⟨.lst (Rep.sqL h) (ints_dp _), by simp [PyData.canLay0, ints_lay]⟩
  | _, _, p, .ref h, e => by simp [pyOf] at e
theorem pyAll_dp : ∀ {ds : List D} {vs : List V} {ps : List PyData}, Reps G α H ds vs → pyAll ds = some ps → DpAll G.K H vs ps ∧ PyData.canLayAll0 ps = true
  | _, _, ps, .nil, e => by simp [pyAll] at e; subst e; exact ⟨.nil, by simp [PyData.canLayAll0]⟩
  | _, _, ps, .cons r t, e => by
    unfold pyAll at e
    split at e
    · rename_i x xs e1 e2
      cases e
      obtain ⟨a1, a2⟩ := pyOf_dp r e1
      obtain ⟨b1, b2⟩ := pyAll_dp t e2
      exact ⟨.cons a1 b1, by simp [PyData.canLayAll0, a2, b2]⟩
    · cases e
end
theorem pyTop_dp (hS : RelS G α H S) {d : D} {v : V} {p : PyData} (r : Rep G α H d v) (e : pyTop S d = some p) : Dp G.K H v p ∧ p.canLay0 = true := by
  cases r with
  | @ref n a h =>
    unfold pyTop at e
    split at e
    · rename_i n' heq
      cases heq
      split at e
      · rename_i xs q
        obtain ⟨ps, e1, rfl⟩ := Option.map_eq_some_iff.mp e
        obtain ⟨vs, h1, h2⟩ := hS.cell h q
        obtain ⟨b1, b2⟩ := pyAll_dp h2 e1
        exact ⟨.lst (SqL.of h1) b1, by simp [PyData.canLay0, b2]⟩
      · cases e
    · rename_i hn; exact absurd rfl (hn n)
  | non => exact pyOf_dp (α := α) .non e
  | bl b => exact pyOf_dp (α := α) (.bl b) e
  | int b => exact pyOf_dp (α := α) (.int b) e
  | str b => exact pyOf_dp (α := α) (.str b) e
  | tup h r => exact pyOf_dp (α := α) (.tup h r) e
  | lst h n r => exact pyOf_dp (α := α) (.lst h n r) e
  | rol h => exact pyOf_dp (α := α) (.rol h) e
end
def gEq (neg : Bool) (x y : D) (S : Store) : Res D := match pyTop S x, pyTop S y with
  | some d, some e => if d.depth ≤ 64 ∧ e.depth ≤ 64 then .ok (.bl (if neg then !PyData.eqv d e else PyData.eqv d e)) S else .bad
  | _, _ => .bad
def rEqND (neg : Bool) (K : PySem.W.Frag) : R2 := fun x y H Q => ∃ d e, Dp K H x d ∧ Dp K H y e ∧ SeqAt.shaped d = true ∧ SeqAt.shaped e = true ∧ Q (.bl (if neg then !PyData.eqv d e else PyData.eqv d e)) H
section
variable {X : Cx}
theorem op_eqDn (hu : X.A.units + 64 < cLine) : OpR X (compareOp .Eq) (rEqND false X.K) := op_eqD hu
theorem op_neDn (hu : X.A.units + 64 < cLine) : OpR X (compareOp .NotEq) (rEqND true X.K) := op_neD hu
theorem v_eq {neg : Bool} : OpV (gxOf X) (rEqND neg X.K) (gEq neg) := by
  intro W α H S x y vx vy Q hS hB rx ry h
  unfold gEq at h
  split at h
  · rename_i d e e1 e2
    split at h
    · rename_i hd
      obtain ⟨a1, a2⟩ := pyTop_dp hS rx e1
      obtain ⟨b1, b2⟩ := pyTop_dp hS ry e2
      exact ⟨d, e, a1, b1, by simp [SeqAt.shaped, a2, hd.1], by simp [SeqAt.shaped, b2, hd.2], h α H _ .refl hS (.bl _)⟩
    · exact h.elim
  · exact h.elim
end
def gIn (neg : Bool) (x y : D) (S : Store) : Res D := match pyTop S x, asQ S y with
  | some d, some ys => match pyAll ys with
    | some ds => if d.depth ≤ 64 then .ok (.bl (if neg then !(ds.any fun z => PyData.eqv z d) else ds.any fun z => PyData.eqv z d)) S else .bad
    | none => .bad
  | _, _ => .bad
def rInA (neg : Bool) (K : PySem.W.Frag) : R2 := fun x y H Q => ∃ d ds, Dp K H x d ∧ (Dp K H y (.list ds) ∨ Dp K H y (.tuple ds)) ∧ d.canLay0 = true ∧ PyData.canLayAll0 ds = true ∧ d.depth ≤ 64 ∧ Q (.bl (if neg then !(ds.any fun z => PyData.eqv z d) else ds.any fun z => PyData.eqv z d)) H
section
variable {X : Cx}
theorem room_any {A : Around} {ds : List PyData} {d : PyData} (h : d.depth ≤ 64) (hu : A.units + 65 < cLine) : A.units + 1 + min (PyData.depthAll ds) d.depth < cLine := by
  have : min (PyData.depthAll ds) d.depth ≤ d.depth := Nat.min_le_right _ _
  omega
theorem op_inA (hu : X.A.units + 65 < cLine) : OpR X (compareOp .In) (rInA false X.K) := by
  intro pins s σ H x y v u Q I rx ry h
  obtain ⟨d, ds, hd, he, sd, se, hdp, q⟩ := h
  obtain ⟨as, r1⟩ := Dp.reads I d x v hd rx
  rcases he with he | he
  · obtain ⟨bs, r2⟩ := Dp.reads I (.list ds) y u he ry
    exact SeqAt.in_list_reads r2 r1 se sd (room_any hdp hu) ⟨.bl _, H, I, rfl, q⟩
  · obtain ⟨bs, r2⟩ := Dp.reads I (.tuple ds) y u he ry
    exact SeqAt.in_tuple_reads r2 r1 se sd (room_any hdp hu) ⟨.bl _, H, I, rfl, q⟩
theorem op_notInA (hu : X.A.units + 65 < cLine) : OpR X (compareOp .NotIn) (rInA true X.K) := by
  intro pins s σ H x y v u Q I rx ry h
  obtain ⟨d, ds, hd, he, sd, se, hdp, q⟩ := h
  obtain ⟨as, r1⟩ := Dp.reads I d x v hd rx
  rcases he with he | he
  · obtain ⟨bs, r2⟩ := Dp.reads I (.list ds) y u he ry
    exact SeqAt.notIn_list_reads r2 r1 se sd (room_any hdp hu) ⟨.bl _, H, I, rfl, q⟩
  · obtain ⟨bs, r2⟩ := Dp.reads I (.tuple ds) y u he ry
    exact SeqAt.notIn_tuple_reads r2 r1 se sd (room_any hdp hu) ⟨.bl _, H, I, rfl, q⟩
theorem v_in {neg : Bool} : OpV (gxOf X) (rInA neg X.K) (gIn neg) := by
  intro W α H S x y vx vy Q hS hB rx ry h
  unfold gIn at h
  split at h
  · rename_i d ys e1 e2
    split at h
    · rename_i ds e3
      split at h
      · rename_i hd
        obtain ⟨a1, a2⟩ := pyTop_dp hS rx e1
        have key : (Dp X.K H vy (.list ds) ∨ Dp X.K H vy (.tuple ds)) ∧ PyData.canLayAll0 ds = true := by
          obtain ⟨a, vs, rfl, hq, r⟩ := asQ_rep hS ry e2
          obtain ⟨b1, b2⟩ := pyAll_dp r e3
          rcases hq with hq | hq
          · exact ⟨.inl (.lst hq b1), b2⟩
          · exact ⟨.inr (.tup hq b1), b2⟩
        exact ⟨d, ds, a1, key.1, a2, key.2, hd, h α H _ .refl hS (.bl _)⟩
      · exact h.elim
    · exact h.elim
  · exact h.elim
/-! ### is None, is True -/
def gIsN (neg : Bool) (x y : D) (S : Store) : Res D := match y with
  | .non => match x with
    | .non => .ok (.bl (!neg)) S
    | _ => .ok (.bl neg) S
  | .bl b => match x with
    | .bl a => .ok (.bl (if neg then !decide (a = b) else decide (a = b))) S
    | _ => .ok (.bl neg) S
  | _ => .bad
/-- what is no bool -/
def NoBl (x : V) : Prop := x = .non ∨ (∃ i, x = .int i) ∨ (∃ t, x = .str t) ∨ ∃ a, x = .ref a
theorem op_is_ob : OpR X (compareOp .Is) (fun x y H Q => ∃ b, y = .bl b ∧ NoBl x ∧ Q (.bl false) H) := by
  intro pins s σ H x y v u Q I rx ry h
  obtain ⟨b, rfl, hx, q⟩ := h
  cases (show u = Value.bool b from ry)
  rcases hx with rfl | ⟨i, rfl⟩ | ⟨t, rfl⟩ | ⟨a, rfl⟩
  · cases rx
    exact wpAny_is_other rfl (by simp) ⟨.bl false, H, I, rfl, q⟩
  · obtain ⟨t, rfl⟩ := rx
    exact wpAny_is_other rfl (by simp) ⟨.bl false, H, I, rfl, q⟩
  · obtain ⟨t, rfl⟩ := rx
    exact wpAny_is_other rfl (by simp) ⟨.bl false, H, I, rfl, q⟩
  · cases rx
    exact wpAny_is_other rfl (by simp) ⟨.bl false, H, I, rfl, q⟩
theorem op_isnot_ob : OpR X (compareOp .IsNot) (fun x y H Q => ∃ b, y = .bl b ∧ NoBl x ∧ Q (.bl true) H) := by
  intro pins s σ H x y v u Q I rx ry h
  obtain ⟨b, rfl, hx, q⟩ := h
  cases (show u = Value.bool b from ry)
  rcases hx with rfl | ⟨i, rfl⟩ | ⟨t, rfl⟩ | ⟨a, rfl⟩
  · cases rx
    exact wpAny_isNot_other rfl (by simp) ⟨.bl true, H, I, rfl, q⟩
  · obtain ⟨t, rfl⟩ := rx
    exact wpAny_isNot_other rfl (by simp) ⟨.bl true, H, I, rfl, q⟩
  · obtain ⟨t, rfl⟩ := rx
    exact wpAny_isNot_other rfl (by simp) ⟨.bl true, H, I, rfl, q⟩
  · cases rx
    exact wpAny_isNot_other rfl (by simp) ⟨.bl true, H, I, rfl, q⟩
def rIsA (neg : Bool) : R2 := fun x y H Q => ((y = .non ∧ Q (.bl (if neg then !decide (x = .non) else decide (x = .non))) H) ∨ (∃ a b, x = .bl a ∧ y = .bl b ∧ Q (.bl (if neg then !decide (a = b) else decide (a = b))) H)) ∨ (∃ b, y = .bl b ∧ NoBl x ∧ Q (.bl neg) H)
theorem op_isA : OpR X (compareOp .Is) (rIsA false) := (op_isN.or op_is_bl).or op_is_ob
theorem op_isNA : OpR X (compareOp .IsNot) (rIsA true) := (op_notN.or op_isnot_bl).or op_isnot_ob
theorem v_is {neg : Bool} : OpV (gxOf X) (rIsA neg) (gIsN neg) := by
  intro W α H S x y vx vy Q hS hB rx ry h
  unfold gIsN at h
  split at h
  · cases ry
    left
    left
    refine ⟨rfl, ?_⟩
    cases rx with
    | non => have h := h α H _ .refl hS (.bl _); cases neg <;> exact h
    | _ => have h := h α H _ .refl hS (.bl _); cases neg <;> simpa using h
  · cases ry
    split at h
    · cases rx
      exact .inl (.inr ⟨_, _, rfl, rfl, h α H _ .refl hS (.bl _)⟩)
    · rename_i hx
      refine .inr ⟨_, rfl, ?_, h α H _ .refl hS (.bl _)⟩
      cases rx with
      | non => exact .inl rfl
      | bl a => exact absurd rfl (hx a)
      | int i => exact .inr (.inl ⟨i, rfl⟩)
      | str t => exact .inr (.inr (.inl ⟨t, rfl⟩))
      | tup _ _ => exact .inr (.inr (.inr ⟨_, rfl⟩))
      | lst _ _ _ => exact .inr (.inr (.inr ⟨_, rfl⟩))
      | rol _ => exact .inr (.inr (.inr ⟨_, rfl⟩))
      | ref _ => exact .inr (.inr (.inr ⟨_, rfl⟩))
  · exact h.elim
end
end Dn

set_option maxHeartbeats 4000000
namespace Dn
open PySem PySem.Spec PyProof.Rows L2

/-! ### ints of a list -/
def unInt : D → Option Int
  | .int i => some i
  | _ => none
def unBl : D → Option Bool
  | .bl b => some b
  | _ => none
def unInts : List D → Option (List Int)
  | [] => some []
  | d :: ds => match unInt d, unInts ds with
    | some i, some is => some (i :: is)
    | _, _ => none
def unBls : List D → Option (List Bool)
  | [] => some []
  | d :: ds => match unBl d, unBls ds with
    | some i, some is => some (i :: is)
    | _, _ => none
theorem unInts_eq : ∀ {ds : List D} {is : List Int}, unInts ds = some is → ds = is.map D.int
  | [], is, e => by simp [unInts] at e; subst e; rfl
  | d :: ds, is, e => by
    unfold unInts at e
    split at e
    · rename_i i js e1 e2
      cases e
      cases d <;> simp [unInt] at e1
      subst e1
      rw [unInts_eq e2]; rfl
    · cases e
theorem unInts_map : ∀ is : List Int, unInts (is.map D.int) = some is
  | [] => rfl
  | i :: is => by show (match unInt (D.int i), unInts (is.map D.int) with | some i, some is => some (i :: is) | _, _ => none) = _; rw [unInts_map is]; rfl
theorem unBls_eq : ∀ {ds : List D} {is : List Bool}, unBls ds = some is → ds = is.map D.bl
  | [], is, e => by simp [unBls] at e; subst e; rfl
  | d :: ds, is, e => by
    unfold unBls at e
    split at e
    · rename_i i js e1 e2
      cases e
      cases d <;> simp [unBl] at e1
      subst e1
      rw [unBls_eq e2]; rfl
    · cases e
theorem unBls_map : ∀ is : List Bool, unBls (is.map D.bl) = some is
  | [] => rfl
  | i :: is => by show (match unBl (D.bl i), unBls (is.map D.bl) with | some i, some is => some (i :: is) | _, _ => none) = _; rw [unBls_map is]; rfl
theorem Reps.bls {G : Gx} {α : List Addr} {H : Hp} {ns : List Bool} {vs : List V} (h : Reps G α H (ns.map D.bl) vs) : vs = ns.map V.bl := by
  induction ns generalizing vs with
  | nil => cases h; rfl
  | cons x ns ih => cases h with | cons r t => cases r; rw [ih t]; rfl

/-! ### < and so on -/
def lexLe : List Int → List Int → Bool
  | [], _ => true
  | _ :: _, [] => false
  | x :: xs, y :: ys => if x = y then lexLe xs ys else decide (x ≤ y)
def gLt (x y : D) (S : Store) : Res D := match x, y with
  | .int i, .int j => .ok (.bl (decide (i < j))) S
  | .tup xs, .tup ys => match unInts xs, unInts ys with
    | some ns, some ms => .ok (.bl (HT.lexLt ns ms)) S
    | _, _ => .bad
  | _, _ => .bad
def gLe (x y : D) (S : Store) : Res D := match x, y with
  | .int i, .int j => .ok (.bl (decide (i ≤ j))) S
  | .tup xs, .tup ys => match unInts xs, unInts ys with
    | some ns, some ms => .ok (.bl (lexLe ns ms)) S
    | _, _ => .bad
  | _, _ => .bad
def gGt := gI (fun _ _ => true) fun i j => D.bl (decide (j < i))
def gGe := gI (fun _ _ => true) fun i j => D.bl (decide (j ≤ i))
theorem lexAt_lexLe (ns ms : List Int) : Ob.lexAt (fun j => decide (ns.getD j 0 = ms.getD j 0)) (fun j => decide (ns.getD j 0 ≤ ms.getD j 0)) (decide (ns.length ≤ ms.length)) 0 (min ns.length ms.length) = lexLe ns ms := by
  have key : ∀ (k : Nat) (as bs : List Int) (p : Nat), (∀ j, ns.getD (p + j) 0 = as.getD j 0) → (∀ j, ms.getD (p + j) 0 = bs.getD j 0) → (decide (ns.length ≤ ms.length) = decide (as.length ≤ bs.length)) → k = min as.length bs.length →
      Ob.lexAt (fun j => decide (ns.getD j 0 = ms.getD j 0)) (fun j => decide (ns.getD j 0 ≤ ms.getD j 0)) (decide (ns.length ≤ ms.length)) p k = lexLe as bs := by
    intro k
    induction k with
    | zero =>
      intro as bs p h1 h2 h3 h4
      rw [Ob.lexAt_zero, h3]
      cases as with
      | nil => simp [lexLe]
      | cons a as => cases bs with
        | nil => simp [lexLe]
        | cons b bs => simp at h4
    | succ k ih =>
      intro as bs p h1 h2 h3 h4
      cases as with
      | nil => simp at h4
      | cons a as => cases bs with
        | nil => simp at h4
        | cons b bs =>
          rw [Ob.lexAt_succ]
          have e1 : ns.getD p 0 = a := by have := h1 0; simpa using this
          have e2 : ms.getD p 0 = b := by have := h2 0; simpa using this
          rw [e1, e2]
          unfold lexLe
          by_cases hab : a = b
          · rw [if_pos (decide_eq_true hab), if_pos hab]
            refine ih as bs (p + 1) (fun j => ?_) (fun j => ?_) ?_ ?_
            · have := h1 (j + 1); rw [show p + 1 + j = p + (j + 1) by omega, this]; simp
            · have := h2 (j + 1); rw [show p + 1 + j = p + (j + 1) by omega, this]; simp
            · rw [h3]; simp
            · simp at h4; omega
          · rw [if_neg (by simp [hab]), if_neg hab]
  exact key _ ns ms 0 (by simp) (by simp) rfl rfl
section
variable {X : Cx}
def rLtA (K : PySem.W.Frag) : R2 := fun x y H Q => rI0 (fun i j => .bl (decide (i < j))) x y H Q ∨ rLtT K x y H Q
def rLeA (K : PySem.W.Frag) : R2 := fun x y H Q => rI0 (fun i j => .bl (decide (i ≤ j))) x y H Q ∨ rLeT K x y H Q
theorem op_ltA (hu : X.A.units < cLine) : OpR X (compareOp .Lt) (rLtA X.K) := op_lt.or (op_ltT hu)
theorem op_leA (hu : X.A.units < cLine) : OpR X (compareOp .LtE) (rLeA X.K) := op_le.or (op_leT hu)
theorem v_lt : OpV (gxOf X) (rLtA X.K) gLt := by
  intro W α H S x y vx vy Q hS hB rx ry h
  unfold gLt at h
  split at h
  · cases rx; cases ry
    exact .inl ⟨_, _, rfl, rfl, h α H _ .refl hS (.bl _)⟩
  · cases rx with
    | @tup a xs vs hx rx => cases ry with
      | @tup b ys us hy ry =>
        split at h
        · rename_i ns ms e1 e2
          have e1 := unInts_eq e1
          have e2 := unInts_eq e2
          subst e1
          subst e2
          have l1 := rx.ints
          have l2 := ry.ints
          subst l1
          subst l2
          exact .inr ⟨a, b, ns, ms, rfl, rfl, Rep.sqT hx, Rep.sqT hy, h α H _ .refl hS (.bl _)⟩
        · exact h.elim
  · exact h.elim
theorem v_le : OpV (gxOf X) (rLeA X.K) gLe := by
  intro W α H S x y vx vy Q hS hB rx ry h
  unfold gLe at h
  split at h
  · cases rx; cases ry
    exact .inl ⟨_, _, rfl, rfl, h α H _ .refl hS (.bl _)⟩
  · cases rx with
    | @tup a xs vs hx rx => cases ry with
      | @tup b ys us hy ry =>
        split at h
        · rename_i ns ms e1 e2
          have e1 := unInts_eq e1
          have e2 := unInts_eq e2
          subst e1
          subst e2
          have l1 := rx.ints
          have l2 := ry.ints
          subst l1
          subst l2
          refine .inr ⟨a, b, ns, ms, rfl, rfl, Rep.sqT hx, Rep.sqT hy, ?_⟩
          rw [lexAt_lexLe]
          exact h α H _ .refl hS (.bl _)
        · exact h.elim
  · exact h.elim
theorem v_gt : OpV (gxOf X) (rI0 fun i j => .bl (decide (j < i))) gGt := gI0_ok fun _ _ i j => .bl _
theorem v_ge : OpV (gxOf X) (rI0 fun i j => .bl (decide (j ≤ i))) gGe := gI0_ok fun _ _ i j => .bl _
def gNeg (x : D) (S : Store) : Res D := match x with
  | .int i => .ok (.int (-i)) S
  | _ => .bad
theorem v_neg : UnV (gxOf X) (rU fun i => .int (-i)) gNeg := by
  intro W α H S x vx Q hS hB rx h
  unfold gNeg at h
  split at h
  · cases rx; exact ⟨_, rfl, h α H _ .refl hS (.int _)⟩
  · exact h.elim
theorem v_augAdd : OpV (gxOf X) (ipI fun i j => i + j) (gI (fun _ _ => true) fun i j => D.int (i + j)) := gI0_ok (f' := fun i j => .int (i + j)) fun _ _ i j => .int _
theorem v_augSub : OpV (gxOf X) (ipI fun i j => i - j) gSubI := gI0_ok (f' := fun i j => .int (i - j)) fun _ _ i j => .int _
def gAugAdd := gI (fun _ _ => true) fun i j => D.int (i + j)

/-! ### subscripts, slices -/
def gIdx (x y : D) (S : Store) : Res D := match asQ S x, y with
  | some xs, .int i => match atI xs i with
    | some d => .ok d S
    | none => .bad
  | _, _ => .bad
theorem Reps.atI {G : Gx} {α : List Addr} {H : Hp} {xs : List D} {vs : List V} (r : Reps G α H xs vs) {i : Int} {d : D} (e : L2.atI xs i = some d) : ∃ v, L2.atI vs i = some v ∧ Rep G α H d v := by
  have hl := r.length
  unfold L2.atI at e ⊢
  rw [← hl]
  cases hq : ixN xs.length i with
  | none => rw [hq] at e; cases e
  | some j =>
    rw [hq] at e
    exact r.get e
theorem v_idx : OpV (gxOf X) (rIx X.K) gIdx := by
  intro W α H S x y vx vy Q hS hB rx ry h
  unfold gIdx at h
  split at h
  · rename_i xs i e1
    cases ry
    split at h
    · rename_i d e2
      obtain ⟨a, vs, rfl, hq, r⟩ := asQ_rep hS rx e1
      obtain ⟨v, e3, r3⟩ := r.atI e2
      rcases hq with hq | hq
      · exact .inl ⟨a, vs, _, v, rfl, rfl, hq, e3, h α H v .refl hS r3⟩
      · exact .inr (.inl ⟨a, vs, _, v, rfl, rfl, hq, e3, h α H v .refl hS r3⟩)
    · exact h.elim
  · exact h.elim
theorem se_idx {a b : Expr} {fa fb : Den} {W : WK} {pos : Pos} (ha : SE X W a fa) (hb : SE X W b fb) (hs : PlainIx b := by exact fun _ _ => rfl) : SE X W (.Subscript a b pos) (dBin gIdx fa fb) :=
  se_op (pe_ix ix_seq ha hb hs) v_idx
/-- a part of a slice -/
abbrev DenO := Env → Store → Res (Option Int)
def oNone : DenO := fun _ S => .ok none S
def oSome (f : Den) : DenO := fun ρ S => rbind (f ρ S) fun d S1 => match d with
  | .int i => .ok (some i) S1
  | _ => .bad
def TDO (G : Gx) (W : WK) (f : DenO) : TO := fun σ H Q => ∃ α ρ S, RelE G α H ρ σ ∧ RelS G α H S ∧ PostR G (Wat W σ) (fun _ _ b c => b = c) α H (fun b H' => Bnd G.K H' → Q b H') (f ρ S)
abbrev SO (X : Cx) (W : WK) (e : Option Expr) (f : DenO) : Prop := PO X e (TDO (gxOf X) W f)
theorem so_of {e : Option Expr} {t : TO} {W : WK} {f : DenO} (h : PO X e t) (imp : ∀ σ H Q, Bnd X.K H → TDO (gxOf X) W f σ H Q → t σ H (fun v H' => Bnd X.K H' → Q v H')) : SO X W e f := by
  constructor
  intro pins s σ H Q I hw
  exact thn (h.run pins s σ H _ I (imp σ H Q (inv_bnd I) hw)) fun v s1 q => by
    obtain ⟨o, H1, I1, r1, q1⟩ := q
    exact ⟨o, H1, I1, r1, q1 (inv_bnd I1)⟩
theorem so_none {W : WK} : SO X W none oNone := so_of po_none fun σ H Q hb ⟨α, ρ, S, hE, hS, h⟩ => h α H none .refl hS rfl
theorem so_some {e : Expr} {W : WK} {f : Den} (h : SE X W e f) : SO X W (some e) (oSome f) := so_of (po_some h) fun σ H Q hb ⟨α, ρ, S, hE, hS, h⟩ => by
  refine td_bind hE hS h fun d S1 α1 H1 v n1 hE1 s1 b1 r1 h => ?_
  simp only at h
  split at h
  · cases r1; exact ⟨_, rfl, h α1 H1 _ .refl s1 rfl⟩
  · exact h.elim
def cutD {τ : Type} (xs : List τ) (lo hi : Option Int) : List τ := (xs.drop (HT.sIx xs.length 0 lo)).take (HT.sIx xs.length xs.length hi - HT.sIx xs.length 0 lo)
def gSl (x : D) (lo hi : Option Int) (S : Store) : Res D := match x with
  | .tup xs => .ok (.tup (cutD xs lo hi)) S
  | _ => match asL S x with
    | some xs => .ok (.lst (cutD xs lo hi)) S
    | none => .bad
def dSl (a : Den) (lo hi : DenO) : Den := fun ρ S => rbind (a ρ S) fun x S1 => rbind (lo ρ S1) fun l S2 => rbind (hi ρ S2) fun u S3 => gSl x l u S3
theorem Reps.cut {G : Gx} {α : List Addr} {H : Hp} {xs : List D} {vs : List V} (r : Reps G α H xs vs) (lo hi : Option Int) : Reps G α H (cutD xs lo hi) (cutV vs lo hi) := by
  unfold cutD cutV
  rw [r.length]
  exact (r.drop _).take _
theorem cutD_all {τ : Type} {xs : List τ} {lo hi : Option Int} (h : HT.sIx xs.length 0 lo = 0 ∧ HT.sIx xs.length xs.length hi = xs.length) : cutD xs lo hi = xs := by
  unfold cutD
  rw [h.1, h.2]
  simp
theorem se_slice {e : Expr} {lo hi : Option Expr} {fe : Den} {fl fh : DenO} {W : WK} {pos p2 : Pos} (he : SE X W e fe) (hl : SO X W lo fl) (hh : SO X W hi fh) : SE X W (.Subscript e (.Slice lo hi none p2) pos) (dSl fe fl fh) := by
  refine se_of (pe_slice (sl_tupA.or sl_list) he hl hh) fun σ H Q hb ⟨α, ρ, S, hE, hS, h⟩ => ?_
  refine td_bind hE hS h fun d S1 α1 H1 v n1 hE1 s1 b1 r1 h => ?_
  refine ⟨α1, ρ, S1, hE1, s1, post_bind h fun l S2 α2 H2 v2 n2 s2 r2 h => fun b2 => ?_⟩
  cases r2
  refine ⟨α2, ρ, S2, hE1.mono n2, s2, post_bind h fun u S3 α3 H3 v3 n3 s3 r3 h => fun b3 => ?_⟩
  cases r3
  have r1 := (r1.mono n2).mono n3
  unfold gSl at h
  split at h
  · cases r1 with
    | @tup a xs vs hx rx =>
      refine .inl ⟨a, vs, rfl, Rep.sqT hx, fun e => ?_, fun e => post_tup s3 (rx.cut l u) h⟩
      rw [← rx.length] at e
      rw [cutD_all e] at h
      exact h α3 H3 _ .refl s3 (.tup hx rx)
  · split at h
    · rename_i xs e1
      obtain ⟨a, vs, rfl, h1, r⟩ := asL_rep s3 r1 e1
      exact .inr ⟨a, vs, rfl, SqL.of h1, post_lst s3 (r.cut l u) h⟩
    · exact h.elim
end

/-! ### builtins -/
def gLen : List D → Store → Res D
  | [.str x], S => if x.length ≤ sizeLine then .ok (.int x.length) S else .bad
  | [.ref n], S => match S[n]? with
    | some (.lst xs) => .ok (.int xs.length) S
    | _ => .bad
  | [d], S => match asQ S d with
    | some xs => .ok (.int xs.length) S
    | none => .bad
  | _, _ => .bad
def gAbs : List D → Store → Res D
  | [.int i], S => .ok (.int (if i < 0 then -i else i)) S
  | _, _ => .bad
def gInt : List D → Store → Res D
  | [.int i], S => .ok (.int i) S
  | _, _ => .bad
def gMax2 : List D → Store → Res D
  | [.int i, .int j], S => .ok (.int (if j > i then j else i)) S
  | _, _ => .bad
def gMin2 : List D → Store → Res D
  | [.int i, .int j], S => .ok (.int (if j < i then j else i)) S
  | _, _ => .bad
def onInts (f : List Int → Option D) : List D → Store → Res D
  | [d], S => match asL S d with
    | some xs => match unInts xs with
      | some is => match f is with
        | some r => .ok r S
        | none => .bad
      | none => .bad
    | none => .bad
  | _, _ => .bad
def onBls (f : List Bool → D) : List D → Store → Res D
  | [d], S => match asL S d with
    | some xs => match unBls xs with
      | some is => .ok (f is) S
      | none => .bad
    | none => .bad
  | _, _ => .bad
def maxL : List Int → Option Int
  | [] => none
  | x :: xs => some (xs.foldl max x)
def minL : List Int → Option Int
  | [] => none
  | x :: xs => some (xs.foldl min x)
theorem maxL_eq {xs : List Int} {m : Int} (h1 : m ∈ xs) (h2 : ∀ y, y ∈ xs → y ≤ m) : maxL xs = some m := by
  cases xs with
  | nil => cases h1
  | cons x xs =>
    have key : ∀ (l : List Int) (a : Int), (a ≤ l.foldl max a ∧ (∀ y ∈ l, y ≤ l.foldl max a)) ∧ (l.foldl max a = a ∨ l.foldl max a ∈ l) := by
      intro l
      induction l with
      | nil => intro a; simp
      | cons b l ih =>
        intro a
        obtain ⟨⟨i1, i2⟩, i3⟩ := ih (max a b)
        simp only [List.foldl_cons, List.mem_cons]
        refine ⟨⟨by omega, fun y hy => ?_⟩, ?_⟩
        · rcases hy with rfl | hy
          · omega
          · exact i2 y hy
        · rcases i3 with e | e
          · rw [e]; omega
          · exact .inr (.inr e)
    obtain ⟨⟨k1, k2⟩, k3⟩ := key xs x
    have a1 : xs.foldl max x ≤ m := by
      rcases k3 with e | e
      · rw [e]; exact h2 x List.mem_cons_self
      · exact h2 _ (List.mem_cons_of_mem _ e)
    have a2 : m ≤ xs.foldl max x := by
      rcases List.mem_cons.mp h1 with rfl | e
      · exact k1
      · exact k2 m e
    show some _ = some m
    rw [show xs.foldl max x = m by omega]
theorem minL_eq {xs : List Int} {m : Int} (h1 : m ∈ xs) (h2 : ∀ y, y ∈ xs → m ≤ y) : minL xs = some m := by
  cases xs with
  | nil => cases h1
  | cons x xs =>
    have key : ∀ (l : List Int) (a : Int), (l.foldl min a ≤ a ∧ (∀ y ∈ l, l.foldl min a ≤ y)) ∧ (l.foldl min a = a ∨ l.foldl min a ∈ l) := by
      intro l
      induction l with
      | nil => intro a; simp
      | cons b l ih =>
        intro a
        obtain ⟨⟨i1, i2⟩, i3⟩ := ih (min a b)
        simp only [List.foldl_cons, List.mem_cons]
        refine ⟨⟨by omega, fun y hy => ?_⟩, ?_⟩
        · rcases hy with rfl | hy
          · omega
          · exact i2 y hy
        · rcases i3 with e | e
          · rw [e]; omega
          · exact .inr (.inr e)
    obtain ⟨⟨k1, k2⟩, k3⟩ := key xs x
    have a1 : m ≤ xs.foldl min x := by
      rcases k3 with e | e
      · rw [e]; exact h2 x List.mem_cons_self
      · exact h2 _ (List.mem_cons_of_mem _ e)
    have a2 : xs.foldl min x ≤ m := by
      rcases List.mem_cons.mp h1 with rfl | e
      · exact k1
      · exact k2 m e
    show some _ = some m
    rw [show xs.foldl min x = m by omega]
def gSum := onInts fun is => some (.int is.sum)
def gMaxL := onInts fun is => (maxL is).map D.int
def gMinL := onInts fun is => (minL is).map D.int
def gAny := onBls fun bs => .bl (bs.any id)
def gAll := onBls fun bs => .bl (bs.all id)
def sortI (is : List Int) : List Int := is.mergeSort (fun a b => decide (a ≤ b))
theorem sortI_eq {is js : List Int} (p : js.Perm is) (s : js.Pairwise (· ≤ ·)) : sortI is = js := by
  have p2 : (sortI is).Perm js := (List.mergeSort_perm _ _).trans p.symm
  have s2 : (sortI is).Pairwise (fun a b => decide (a ≤ b) = true) := List.pairwise_mergeSort (fun a b c h1 h2 => by simp at *; omega) (fun a b => by simp; omega) _
  have s2' : (sortI is).Pairwise (· ≤ ·) := s2.imp fun h => by simpa using h
  exact List.Perm.eq_of_pairwise (fun a b _ _ h1 h2 => by omega) s2' s p2
def gSortI := onInts fun is => some (.lst ((sortI is).map D.int))
def gTuple : List D → Store → Res D
  | [.tup xs], S => .ok (.tup xs) S
  | [d], S => match asL S d with
    | some xs => .ok (.tup xs) S
    | none => .bad
  | _, _ => .bad
def gList : List D → Store → Res D
  | [d], S => match asQ S d with
    | some xs => .ok (.lst xs) S
    | none => .bad
  | _, _ => .bad
def nList : List D → Store → Res D
  | [d], S => match asQ S d with
    | some xs => .ok (.ref S.length) (S ++ [.lst xs])
    | none => .bad
  | _, _ => .bad
section
variable {X : Cx}
theorem reps1 {G : Gx} {α : List Addr} {H : Hp} {d : D} {vs : List V} (r : Reps G α H [d] vs) : ∃ v, vs = [v] ∧ Rep G α H d v := by
  cases r with
  | cons r t => cases t; exact ⟨_, rfl, r⟩
theorem reps2 {G : Gx} {α : List Addr} {H : Hp} {d e : D} {vs : List V} (r : Reps G α H [d, e] vs) : ∃ v u, vs = [v, u] ∧ Rep G α H d v ∧ Rep G α H e u := by
  cases r with
  | cons r t => cases t with
    | cons r2 t => cases t; exact ⟨_, _, rfl, r, r2⟩
def rLen (K : PySem.W.Frag) : List V → Hp → VK → Prop := fun xs H Q => ∃ x n, xs = [x] ∧ LenV K x H n ∧ Q (.int n) H
theorem call_lenA : CallR X (.builtin "len") (rLen X.K) := call_len
theorem v_len : CallV (gxOf X) (rLen X.K) gLen := by
  intro W α H S xs vs Q hS hB r h
  unfold gLen at h
  split at h
  · obtain ⟨v, rfl, q1⟩ := reps1 r
    clear r; have r := q1; clear q1
    cases r
    split at h
    · rename_i x hz
      exact ⟨_, x.length, rfl, ⟨hz, rfl⟩, h α H _ .refl hS (.int _)⟩
    · exact h.elim
  · obtain ⟨v, rfl, q1⟩ := reps1 r
    clear r; have r := q1; clear q1
    cases r with
    | ref hn =>
      split at h
      · rename_i xs q
        obtain ⟨us, h1, h2⟩ := hS.cell hn q
        refine ⟨_, us.length, rfl, .inl ⟨us, SqL.of h1, rfl⟩, ?_⟩
        rw [← h2.length]
        exact h α H _ .refl hS (.int _)
      · exact h.elim
  · obtain ⟨v, rfl, q1⟩ := reps1 r
    clear r; have r := q1; clear q1
    split at h
    · rename_i xs e1
      obtain ⟨a, us, rfl, hq, h2⟩ := asQ_rep hS r e1
      refine ⟨_, us.length, rfl, ?_, ?_⟩
      · rcases hq with hq | hq
        · exact .inl ⟨us, hq, rfl⟩
        · exact .inr ⟨us, hq, rfl⟩
      · rw [← h2.length]
        exact h α H _ .refl hS (.int _)
    · exact h.elim
  · exact h.elim
def rAbs : List V → Hp → VK → Prop := fun xs H Q => ∃ i, xs = [.int i] ∧ Q (.int (if i < 0 then -i else i)) H
theorem v_abs : CallV (gxOf X) rAbs gAbs := by
  intro W α H S xs vs Q hS hB r h
  unfold gAbs at h
  split at h
  · obtain ⟨v, rfl, q1⟩ := reps1 r
    clear r; have r := q1; clear q1
    cases r
    exact ⟨_, rfl, h α H _ .refl hS (.int _)⟩
  · exact h.elim
def rInt1 : List V → Hp → VK → Prop := fun xs H Q => (∃ i, xs = [.int i] ∧ Q (.int i) H) ∨ ∃ k, xs = [.bl k] ∧ Q (.int (if k then 1 else 0)) H
theorem v_int : CallV (gxOf X) rInt1 gInt := by
  intro W α H S xs vs Q hS hB r h
  unfold gInt at h
  split at h
  · obtain ⟨v, rfl, q1⟩ := reps1 r
    clear r; have r := q1; clear q1
    cases r
    exact .inl ⟨_, rfl, h α H _ .refl hS (.int _)⟩
  · exact h.elim
def rMax2 : List V → Hp → VK → Prop := fun xs H Q => ∃ i j, xs = [.int i, .int j] ∧ Q (.int (if j > i then j else i)) H
def rMin2 : List V → Hp → VK → Prop := fun xs H Q => ∃ i j, xs = [.int i, .int j] ∧ Q (.int (if j < i then j else i)) H
theorem v_max2 : CallV (gxOf X) rMax2 gMax2 := by
  intro W α H S xs vs Q hS hB r h
  unfold gMax2 at h
  split at h
  · obtain ⟨v, u, rfl, q1, r2⟩ := reps2 r
    clear r; have r := q1; clear q1
    cases r; cases r2
    exact ⟨_, _, rfl, h α H _ .refl hS (.int _)⟩
  · exact h.elim
theorem v_min2 : CallV (gxOf X) rMin2 gMin2 := by
  intro W α H S xs vs Q hS hB r h
  unfold gMin2 at h
  split at h
  · obtain ⟨v, u, rfl, q1, r2⟩ := reps2 r
    clear r; have r := q1; clear q1
    cases r; cases r2
    exact ⟨_, _, rfl, h α H _ .refl hS (.int _)⟩
  · exact h.elim
theorem onInts_ok {r : List V → Hp → VK → Prop} {f : List Int → Option D}
    (k : ∀ (W : XK) α H S a is d Q, RelS (gxOf X) α H S → H a = some (.lst (is.map V.int)) → f is = some d → PostR (gxOf X) W (Rep (gxOf X)) α H Q (.ok d S) → r [.ref a] H Q) : CallV (gxOf X) r (onInts f) := by
  intro W α H S xs vs Q hS hB r h
  unfold onInts at h
  split at h
  · obtain ⟨v, rfl, q1⟩ := reps1 r
    clear r; have r := q1; clear q1
    split at h
    · rename_i xs e1
      split at h
      · rename_i is e2
        split at h
        · rename_i d e3
          obtain ⟨a, us, rfl, h1, h2⟩ := asL_rep hS r e1
          have e2 := unInts_eq e2
          subst e2
          have := h2.ints
          subst this
          exact k W α H S a is d Q hS h1 e3 h
        · exact h.elim
      · exact h.elim
    · exact h.elim
  · exact h.elim
theorem onBls_ok {r : List V → Hp → VK → Prop} {f : List Bool → D}
    (k : ∀ (W : XK) α H S a is Q, RelS (gxOf X) α H S → H a = some (.lst (is.map V.bl)) → PostR (gxOf X) W (Rep (gxOf X)) α H Q (.ok (f is) S) → r [.ref a] H Q) : CallV (gxOf X) r (onBls f) := by
  intro W α H S xs vs Q hS hB r h
  unfold onBls at h
  split at h
  · obtain ⟨v, rfl, q1⟩ := reps1 r
    clear r; have r := q1; clear q1
    split at h
    · rename_i xs e1
      split at h
      · rename_i is e2
        obtain ⟨a, us, rfl, h1, h2⟩ := asL_rep hS r e1
        have e2 := unBls_eq e2
        subst e2
        have := h2.bls
        subst this
        exact k W α H S a is Q hS h1 h
      · exact h.elim
    · exact h.elim
  · exact h.elim
theorem v_sum : CallV (gxOf X) (rSum X.K) gSum := onInts_ok fun W α H S a is d Q hS h1 e h => by
  cases e
  exact ⟨a, is, rfl, SqL.of h1, h α H _ .refl hS (.int _)⟩
theorem v_maxL : CallV (gxOf X) (rMax X.K) gMaxL := onInts_ok fun W α H S a is d Q hS h1 e h => by
  obtain ⟨m, e1, rfl⟩ := Option.map_eq_some_iff.mp e
  refine ⟨a, is, rfl, SqL.of h1, ?_, fun m' hm hy => ?_⟩
  · cases is with
    | nil => cases e1
    | cons _ _ => simp
  · have e2 := maxL_eq hm hy
    rw [e1] at e2
    cases e2
    exact h α H _ .refl hS (.int _)
theorem v_minL : CallV (gxOf X) (rMin X.K) gMinL := onInts_ok fun W α H S a is d Q hS h1 e h => by
  obtain ⟨m, e1, rfl⟩ := Option.map_eq_some_iff.mp e
  refine ⟨a, is, rfl, SqL.of h1, ?_, fun m' hm hy => ?_⟩
  · cases is with
    | nil => cases e1
    | cons _ _ => simp
  · have e2 := minL_eq hm hy
    rw [e1] at e2
    cases e2
    exact h α H _ .refl hS (.int _)
theorem v_any : CallV (gxOf X) (rAny X.K) gAny := onBls_ok fun W α H S a is Q hS h1 h => ⟨a, is, rfl, SqL.of h1, h α H _ .refl hS (.bl _)⟩
theorem v_all : CallV (gxOf X) (rAll X.K) gAll := onBls_ok fun W α H S a is Q hS h1 h => ⟨a, is, rfl, SqL.of h1, h α H _ .refl hS (.bl _)⟩
theorem v_sortI : CallV (gxOf X) (rSortedI X.K) gSortI := onInts_ok fun W α H S a is d Q hS h1 e h => by
  cases e
  refine ⟨a, is, rfl, SqL.of h1, fun js p hp hs hn => ?_⟩
  rw [sortI_eq hp hs] at h
  exact post_lst hS (Reps.ofInts js) h p hn
def rTuple (K : PySem.W.Frag) : List V → Hp → VK → Prop := fun xs H Q => ∃ p ys, xs = [.ref p] ∧ ((SqL K H p ys ∧ ∀ l, H l = none → Q (.ref l) (upd H l (.tup ys))) ∨ (SqT K H p ys ∧ Q (.ref p) H))
def rList (K : PySem.W.Frag) : List V → Hp → VK → Prop := fun xs H Q => ∃ p ys, xs = [.ref p] ∧ (SqL K H p ys ∨ SqT K H p ys) ∧ ∀ l, H l = none → Q (.ref l) (upd H l (.lst ys))
theorem v_tuple : CallV (gxOf X) (rTuple X.K) gTuple := by
  intro W α H S xs vs Q hS hB r h
  unfold gTuple at h
  split at h
  · obtain ⟨v, rfl, q1⟩ := reps1 r
    clear r; have r := q1; clear q1
    cases r with
    | @tup a xs us hx rx => exact ⟨a, us, rfl, .inr ⟨Rep.sqT hx, h α H _ .refl hS (.tup hx rx)⟩⟩
  · obtain ⟨v, rfl, q1⟩ := reps1 r
    clear r; have r := q1; clear q1
    split at h
    · rename_i xs e1
      obtain ⟨a, us, rfl, h1, h2⟩ := asL_rep hS r e1
      exact ⟨a, us, rfl, .inl ⟨SqL.of h1, post_tup hS h2 h⟩⟩
    · exact h.elim
  · exact h.elim
theorem v_list : CallV (gxOf X) (rList X.K) gList := by
  intro W α H S xs vs Q hS hB r h
  unfold gList at h
  split at h
  · obtain ⟨v, rfl, q1⟩ := reps1 r
    clear r; have r := q1; clear q1
    split at h
    · rename_i xs e1
      obtain ⟨a, us, rfl, h1, h2⟩ := asQ_rep hS r e1
      exact ⟨a, us, rfl, h1, post_lst hS h2 h⟩
    · exact h.elim
  · exact h.elim
theorem v_nlist : CallV (gxOf X) (rList X.K) nList := by
  intro W α H S xs vs Q hS hB r h
  unfold nList at h
  split at h
  · obtain ⟨v, rfl, q1⟩ := reps1 r
    clear r; have r := q1; clear q1
    split at h
    · rename_i xs e1
      obtain ⟨a, us, rfl, h1, h2⟩ := asQ_rep hS r e1
      exact ⟨a, us, rfl, h1, post_new hS h2 h⟩
    · exact h.elim
  · exact h.elim
/-! isinstance(e, T), T a built-in type by its name -/
def tyOf : D → String
  | .non => "NoneType"
  | .bl _ => "bool"
  | .int _ => "int"
  | .str _ => "str"
  | .tup _ => "tuple"
  | .lst _ => "list"
  | .rol _ => "list"
  | .ref _ => "?"
def gIsi (T : String) : List D → Store → Res D
  | [.ref _], _ => .bad
  | [.rol _], _ => .bad
  | [d], S => match kitB (tyOf d) T with
    | some b => .ok (.bl b) S
    | none => .bad
  | _, _ => .bad
theorem tyX_of {G : Gx} {α : List Addr} {H : Hp} {d : D} {v : V} (r : Rep G α H d v) (h1 : ∀ n, d ≠ .ref n) (h2 : ∀ n, d ≠ .rol n) : TyX G.K H v (.type (tyOf d)) := by
  cases r with
  | non => exact .base .non
  | bl b => exact .base (.bl b)
  | int b => exact .base (.int b)
  | str b => exact .base (.str b)
  | lst h n r => exact .base (.lst h)
  | tup h r =>
    rcases h with ⟨h | ⟨o, h⟩, _⟩ | ⟨o, its, n, e, c, _⟩
    · exact .base (.tup h)
    · exact .fTuple h
    · exact .kTuple e c
  | rol h => exact absurd rfl (h2 _)
  | ref h => exact absurd rfl (h1 _)
def rIsiT (T : String) (K : PySem.W.Frag) : List V → Hp → VK → Prop := fun xs H Q => ∃ (x : V) (t : Value) (b : Bool), xs = [x] ∧ TyX K H x t ∧ PySem.W.kitOne K t (.type T) = some b ∧ Q (.bl b) H
theorem v_isi {T : String} : CallV (gxOf X) (rIsiT T X.K) (gIsi T) := by
  intro W α H S xs vs Q hS hB r h
  unfold gIsi at h
  split at h
  · exact h.elim
  · exact h.elim
  · rename_i d n1 n2
    obtain ⟨v, rfl, q1⟩ := reps1 r
    clear r; have r := q1; clear q1
    split at h
    · rename_i b e
      exact ⟨v, _, b, rfl, tyX_of r (fun n e => n1 n e) (fun n e => n2 n e), kit_ty e, h α H _ .refl hS (.bl _)⟩
    · exact h.elim
  · exact h.elim
end
end Dn

set_option maxHeartbeats 4000000
namespace Dn
open PySem PySem.Spec PyProof.Rows L2

/-! ### methods of lists -/
def dMtL (g : D → List D → Store → Res D) (o : Den) (a : DenA) : Den := fun ρ S => rbind (o ρ S) fun x S1 => match asL S1 x with
  | some _ => rbind (a ρ S1) fun xs S2 => g x xs S2
  | none => .bad
section
variable {X : Cx} {W : WK} {fo : Den} {fa : DenA}
theorem se_mtL {e : Expr} {r : V → List V → Hp → VK → Prop} {g : D → List D → Store → Res D} (h : PE X e (tBM X.K "list" r (TD (gxOf X) W fo) (TDA (gxOf X) W fa))) (hv : MtV (gxOf X) r g) : SE X W e (dMtL g fo fa) := by
  refine se_of h fun σ H Q hb ⟨α, ρ, S, hE, hS, h⟩ => ?_
  refine td_bind hE hS h fun d S1 α1 H1 v n1 hE1 s1 b1 r1 h => ?_
  simp only at h
  split at h
  · rename_i xs e1
    obtain ⟨a, vs, rfl, h1, _⟩ := asL_rep s1 r1 e1
    refine ⟨.inl ⟨rfl, vs, SqL.of h1⟩, tda_bind hE1 s1 h fun d2 S2 α2 H2 v2 n2 hE2 s2 b2 r2 h => ?_⟩
    exact hv _ α2 H2 S2 d _ d2 v2 _ s2 b2 (r1.mono n2) r2 h
  · exact h.elim
theorem se_mtL0 {e : Expr} {r : V → List V → Hp → VK → Prop} {g : D → List D → Store → Res D} (h : PE X e (tBM0 X.K "list" r (TD (gxOf X) W fo))) (hv : MtV (gxOf X) r g) : SE X W e (dMtL g fo aNil) := by
  refine se_of h fun σ H Q hb ⟨α, ρ, S, hE, hS, h⟩ => ?_
  refine td_bind hE hS h fun d S1 α1 H1 v n1 hE1 s1 b1 r1 h => ?_
  simp only at h
  split at h
  · rename_i xs e1
    obtain ⟨a, vs, rfl, h1, _⟩ := asL_rep s1 r1 e1
    refine ⟨.inl ⟨rfl, vs, SqL.of h1⟩, ?_⟩
    exact hv _ α1 H1 S1 d _ [] [] _ s1 b1 r1 .nil h
  · exact h.elim
end
/-- the list in a cell -/
def cellL (S : Store) : D → Option (Nat × List D)
  | .ref n => match S[n]? with
    | some (.lst xs) => some (n, xs)
    | _ => none
  | _ => none
def gAppend (x : D) (a : List D) (S : Store) : Res D := match cellL S x, a with
  | some (n, xs), [d] => if xs.length < sizeLine then .ok .non (S.set n (.lst (xs ++ [d]))) else .bad
  | _, _ => .bad
def gPop (x : D) (a : List D) (S : Store) : Res D := match cellL S x, a with
  | some (n, xs), [] => match xs[xs.length - 1]? with
    | some d => .ok d (S.set n (.lst xs.dropLast))
    | none => .bad
  | _, _ => .bad
def gPopAt (x : D) (a : List D) (S : Store) : Res D := match cellL S x, a with
  | some (n, xs), [.int i] => if -(2 ^ 63) ≤ i ∧ i < 2 ^ 63 then match seqIndex? i xs.length with
      | some k => match xs[k]? with
        | some d => .ok d (S.set n (.lst (xs.eraseIdx k)))
        | none => .bad
      | none => .bad
    else .bad
  | _, _ => .bad
def gInsert (x : D) (a : List D) (S : Store) : Res D := match cellL S x, a with
  | some (n, xs), [.int i, d] => if xs.length < sizeLine ∧ 0 ≤ i ∧ i < 2 ^ 63 then .ok .non (S.set n (.lst (xs.take i.toNat ++ [d] ++ xs.drop i.toNat))) else .bad
  | _, _ => .bad
def gExtend (x : D) (a : List D) (S : Store) : Res D := match cellL S x, a with
  | some (n, xs), [d] => match asL S d with
    | some ys => if xs.length + ys.length ≤ sizeLine then .ok .non (S.set n (.lst (xs ++ ys))) else .bad
    | none => .bad
  | _, _ => .bad
section
variable {G : Gx} {α : List Addr} {H : Hp} {S : Store} {d : D} {v : V}
theorem cellL_rep {n : Nat} {xs : List D} (hS : RelS G α H S) (r : Rep G α H d v) (e : cellL S d = some (n, xs)) : ∃ a vs, v = .ref a ∧ α[n]? = some a ∧ H a = some (.lst vs) ∧ Reps G α H xs vs := by
  cases r with
  | @ref m a h =>
    unfold cellL at e
    simp only at e
    split at e
    · rename_i ys q
      cases e
      obtain ⟨vs, h1, h2⟩ := hS.cell h q
      exact ⟨a, vs, rfl, h, h1, h2⟩
    · cases e
  | _ => simp [cellL] at e
theorem post_put {W : XK} {Q : VK} {n : Nat} {a : Addr} {xs : List D} {vs : List V} {e : D} {u : V} (hS : RelS G α H S) (h1 : α[n]? = some a) {us : List V} (h2 : H a = some (.lst us)) (r : Reps G α H xs vs) (ru : Rep G α H e u)
    (h : PostR G W (Rep G) α H Q (.ok e (S.set n (.lst xs)))) : Q u (upd H a (.lst vs)) := by
  obtain ⟨nx, rs⟩ := hS.put (u := .lst vs) (o := .lst xs) h1 h2 (fun _ _ e => nomatch e) fun nx => ⟨vs, upd_same, r.mono nx⟩
  exact h α _ _ nx rs (ru.mono nx)
end
theorem Reps.eraseIdx {G : Gx} {α : List Addr} {H : Hp} {ds : List D} {vs : List V} (h : Reps G α H ds vs) (n : Nat) : Reps G α H (ds.eraseIdx n) (vs.eraseIdx n) := by
  induction ds generalizing vs n with
  | nil => cases h; exact .nil
  | cons x ds ih =>
    cases h with
    | cons q t => cases n with
      | zero => exact t
      | succ n => exact .cons q (ih t n)
theorem Reps.dropLast {G : Gx} {α : List Addr} {H : Hp} {ds : List D} {vs : List V} (h : Reps G α H ds vs) : Reps G α H ds.dropLast vs.dropLast := by
  rw [List.dropLast_eq_take, List.dropLast_eq_take, h.length]
  exact h.take _
section
variable {X : Cx}
theorem v_append : MtV (gxOf X) rAppend gAppend := by
  intro W α H S x vx xs vs Q hS hB rx r h
  unfold gAppend at h
  split at h
  · rename_i n ys d e1
    obtain ⟨a, us, rfl, h1, h2, h3⟩ := cellL_rep hS rx e1
    obtain ⟨v, rfl, r1⟩ := reps1 r
    have hl := h3.length
    split at h
    · exact ⟨a, us, v, rfl, rfl, h2, by omega, post_put hS h1 h2 (h3.append (.cons r1 .nil)) .non h⟩
    · exact h.elim
  · exact h.elim
theorem v_pop : MtV (gxOf X) rPop gPop := by
  intro W α H S x vx xs vs Q hS hB rx r h
  unfold gPop at h
  split at h
  · rename_i n ys e1
    obtain ⟨a, us, rfl, h1, h2, h3⟩ := cellL_rep hS rx e1
    cases r
    split at h
    · rename_i d e2
      obtain ⟨v, e3, r3⟩ := h3.get e2
      rw [h3.length] at e3
      exact ⟨a, us, v, rfl, rfl, h2, e3, post_put hS h1 h2 h3.dropLast r3 h⟩
    · exact h.elim
  · exact h.elim
theorem v_popAt : MtV (gxOf X) rPopAt gPopAt := by
  intro W α H S x vx xs vs Q hS hB rx r h
  unfold gPopAt at h
  split at h
  · rename_i n ys i e1
    obtain ⟨a, us, rfl, h1, h2, h3⟩ := cellL_rep hS rx e1
    obtain ⟨v, rfl, r1⟩ := reps1 r
    cases r1
    split at h
    · rename_i hb
      split at h
      · rename_i k e2
        split at h
        · rename_i d e3
          obtain ⟨v, e4, r3⟩ := h3.get e3
          rw [h3.length] at e2
          exact ⟨a, us, _, k, v, rfl, rfl, h2, hb.1, hb.2, e2, e4, post_put hS h1 h2 (h3.eraseIdx k) r3 h⟩
        · exact h.elim
      · exact h.elim
    · exact h.elim
  · exact h.elim
def rInsert : V → List V → Hp → VK → Prop := fun x vs H Q => ∃ (l : Addr) (xs : List V) (i : Int) (y : V), x = .ref l ∧ vs = [.int i, y] ∧ H l = some (.lst xs) ∧ xs.length < sizeLine ∧ 0 ≤ i ∧ i < 2 ^ 63 ∧
    Q .non (upd H l (.lst (xs.take i.toNat ++ [y] ++ xs.drop i.toNat)))
theorem mt_insertA : MtR X "list.insert" rInsert := mt_insert
theorem v_insert : MtV (gxOf X) rInsert gInsert := by
  intro W α H S x vx xs vs Q hS hB rx r h
  unfold gInsert at h
  split at h
  · rename_i n ys i d e1
    obtain ⟨a, us, rfl, h1, h2, h3⟩ := cellL_rep hS rx e1
    obtain ⟨v, u, rfl, r1, r2⟩ := reps2 r
    cases r1
    have hl := h3.length
    split at h
    · rename_i hb
      exact ⟨a, us, _, u, rfl, rfl, h2, by omega, hb.2.1, hb.2.2, post_put hS h1 h2 (((h3.take _).append (.cons r2 .nil)).append (h3.drop _)) .non h⟩
    · exact h.elim
  · exact h.elim
theorem v_extend : MtV (gxOf X) rExtend gExtend := by
  intro W α H S x vx xs vs Q hS hB rx r h
  unfold gExtend at h
  split at h
  · rename_i n ys d e1
    obtain ⟨a, us, rfl, h1, h2, h3⟩ := cellL_rep hS rx e1
    obtain ⟨v, rfl, r1⟩ := reps1 r
    have hl := h3.length
    split at h
    · rename_i zs e2
      obtain ⟨b, ws, rfl, h4, h5⟩ := asL_rep hS r1 e2
      have hl2 := h5.length
      split at h
      · exact ⟨a, b, us, ws, rfl, rfl, h2, h4, by omega, post_put hS h1 h2 (h3.append h5) .non h⟩
      · exact h.elim
    · exact h.elim
  · exact h.elim
end

/-! ### xs[i] = e -/
def sSetI (o i v : Den) : DenS := fun ρ S => obind (v ρ S) ρ fun z S1 => obind (o ρ S1) ρ fun x S2 => obind (i ρ S2) ρ fun y S3 => match cellL S3 x, y with
  | some (n, xs), .int k => match ixN xs.length k with
    | some j => .nx ρ (S3.set n (.lst (xs.set j z)))
    | none => .bad
  | _, _ => .bad
section
variable {X : Cx} {W : WK} {fo fi fv : Den}
theorem ss_setI {tg e : Expr} {pos : Pos} (h : PS X (.Assign [tg] e pos) (tAsg (TD (gxOf X) W fv) (gSub (TD (gxOf X) W fo) (TD (gxOf X) W fi) rSetL))) : SS X W (.Assign [tg] e pos) (sSetI fo fi fv) := ss_of h fun σ H E hb ⟨α, ρ, S, hE, hS, h⟩ => by
  refine ⟨α, ρ, S, hE, hS, spost_bind hE h fun z S1 α1 H1 vz n1 hE1 s1 rz h b1 => ?_⟩
  refine ⟨α1, ρ, S1, hE1, s1, spost_bind hE1 h fun x S2 α2 H2 vx n2 hE2 s2 rx h b2 => ?_⟩
  refine ⟨α2, ρ, S2, hE2, s2, spost_bind hE2 h fun y S3 α3 H3 vy n3 hE3 s3 ry h b3 => ?_⟩
  try simp only at h
  split at h
  · rename_i n xs k e1
    cases ry
    split at h
    · rename_i j e2
      obtain ⟨a, us, rfl, h1, h2, h3⟩ := cellL_rep s3 (rx.mono n3) e1
      refine ⟨a, us, _, j, rfl, rfl, h2, by rw [← h3.length]; exact e2, fun b4 => ?_⟩
      obtain ⟨nx, rs⟩ := s3.put (u := .lst (us.set j vz)) (o := .lst (xs.set j z)) h1 h2 (fun _ _ e => nomatch e) fun nx => ⟨_, upd_same, (h3.set j ((rz.mono n2).mono n3)).mono nx⟩
      exact h α3 _ σ nx rs (hE3.mono nx) b4
    · exact h.elim
  · exact h.elim
end

/-! ### dicts with int keys -/
def lkD {κ τ : Type} [DecidableEq κ] : List κ → List τ → κ → Option τ
  | k :: ks, x :: xs, i => if k = i then some x else lkD ks xs i
  | _, _, _ => none
def stD {κ τ : Type} [DecidableEq κ] : List κ → List τ → κ → τ → List τ
  | k :: ks, x :: xs, i, y => (if k = i then y else x) :: stD ks xs i y
  | _, _, _, _ => []
theorem stD_length {κ τ : Type} [DecidableEq κ] : ∀ (ks : List κ) (xs : List τ) (i : κ) (y : τ), ks.length = xs.length → (stD ks xs i y).length = xs.length
  | [], [], _, _, _ => rfl
  | [], _ :: _, _, _, h => by simp at h
  | _ :: _, [], _, _, h => by simp at h
  | k :: ks, x :: xs, i, y, h => by
    show (stD ks xs i y).length + 1 = xs.length + 1
    rw [stD_length ks xs i y (by simpa using h)]
theorem valV_zip {κ μ : Type} [DecidableEq κ] [DecidableEq μ] (f : κ → μ) (hf : ∀ a b, f a = f b → a = b) (i : κ) : ∀ (ks : List κ) (vs : List V), ks.length = vs.length → valV ((ks.map f).zip vs) (f i) = lkD ks vs i
  | [], vs, _ => by simp [valV, lkD]
  | k :: ks, [], h => by simp at h
  | k :: ks, v :: vs, h => by
    show valV ((f k, v) :: (ks.map f).zip vs) (f i) = if k = i then some v else lkD ks vs i
    by_cases e : k = i
    · rw [valV_pos (by rw [e]), if_pos e]
    · rw [valV_neg (fun q => e (hf _ _ q)), if_neg e]
      exact valV_zip f hf i ks vs (by simpa using h)
theorem lkD_none {κ τ : Type} [DecidableEq κ] {i : κ} : ∀ {ks : List κ} {xs : List τ}, ks.length = xs.length → (lkD ks xs i = none ↔ i ∉ ks)
  | [], xs, _ => by simp [lkD]
  | k :: ks, [], h => by simp at h
  | k :: ks, x :: xs, h => by
    unfold lkD
    by_cases e : k = i
    · simp [e]
    · rw [if_neg e, lkD_none (by simpa using h)]
      simp [show i ≠ k from fun q => e q.symm]
theorem map_zip_st {κ μ : Type} [DecidableEq κ] [DecidableEq μ] (f : κ → μ) (hf : ∀ a b, f a = f b → a = b) (i : κ) (y : V) : ∀ (ks : List κ) (vs : List V), ks.length = vs.length →
    (((ks.map f).zip vs).map fun kv => if kv.1 = f i then (kv.1, y) else kv) = (ks.map f).zip (stD ks vs i y)
  | [], [], _ => rfl
  | [], _ :: _, h => by simp at h
  | _ :: _, [], h => by simp at h
  | k :: ks, v :: vs, h => by
    show (if f k = f i then (f k, y) else (f k, v)) :: (((ks.map f).zip vs).map fun kv => if kv.1 = f i then (kv.1, y) else kv) = (f k, if k = i then y else v) :: (ks.map f).zip (stD ks vs i y)
    rw [map_zip_st f hf i y ks vs (by simpa using h)]
    by_cases e : k = i
    · rw [if_pos (by rw [e]), if_pos e]
    · rw [if_neg (fun q => e (hf _ _ q)), if_neg e]
theorem putK_zip {κ μ : Type} [DecidableEq κ] [DecidableEq μ] (f : κ → μ) (hf : ∀ a b, f a = f b → a = b) (i : κ) (y : V) (ks : List κ) (vs : List V) (hl : ks.length = vs.length) :
    putK ((ks.map f).zip vs) (f i) y = if i ∈ ks then (ks.map f).zip (stD ks vs i y) else ((ks ++ [i]).map f).zip (vs ++ [y]) := by
  by_cases e : i ∈ ks
  · rw [if_pos e]
    have h1 : (valV ((ks.map f).zip vs) (f i)).isSome = true := by
      rw [valV_zip f hf i ks vs hl]
      cases q : lkD ks vs i with
      | none => exact absurd e ((lkD_none hl).mp q)
      | some _ => rfl
    unfold putK
    rw [if_pos (by rw [valV_any]; exact h1)]
    exact map_zip_st f hf i y ks vs hl
  · rw [if_neg e, putK_new _ (by rw [valV_zip f hf i ks vs hl]; exact (lkD_none hl).mpr e)]
    rw [List.map_append, List.zip_append (by simpa using hl)]
    rfl
theorem Reps.lk {G : Gx} {α : List Addr} {H : Hp} {κ : Type} [DecidableEq κ] {i : κ} : ∀ {ks : List κ} {xs : List D} {vs : List V}, Reps G α H xs vs → ∀ {d : D}, lkD ks xs i = some d → ∃ v, lkD ks vs i = some v ∧ Rep G α H d v
  | [], xs, vs, r, d, e => by simp [lkD] at e
  | k :: ks, _, _, .nil, d, e => by simp [lkD] at e
  | k :: ks, _, _, .cons (v := v) r t, d, e => by
    unfold lkD at e ⊢
    by_cases q : k = i
    · rw [if_pos q] at e ⊢; cases e; exact ⟨_, rfl, r⟩
    · rw [if_neg q] at e ⊢; exact Reps.lk t e
theorem Reps.st {G : Gx} {α : List Addr} {H : Hp} {κ : Type} [DecidableEq κ] {i : κ} {d : D} {v : V} (rd : Rep G α H d v) : ∀ {ks : List κ} {xs : List D} {vs : List V}, Reps G α H xs vs → Reps G α H (stD ks xs i d) (stD ks vs i v)
  | [], xs, vs, r => .nil
  | k :: ks, _, _, .nil => .nil
  | k :: ks, _, _, .cons r t => by
    unfold stD
    refine .cons ?_ (Reps.st rd t)
    split
    · exact rd
    · exact r
instance keyMem (i : Key) (ks : List Key) : Decidable (i ∈ ks) := @List.instDecidableMemOfLawfulBEq Key instBEqOfDecidableEq inferInstance i ks
def keyOf : D → Option Key
  | .int i => some (.inl i)
  | .str x => some (.inr x)
  | _ => none
theorem keyOf_rep {G : Gx} {α : List Addr} {H : Hp} {d : D} {v : V} {k : Key} (r : Rep G α H d v) (e : keyOf d = some k) : v = kV k := by
  cases r with
  | int i => simp [keyOf] at e; subst e; rfl
  | str i => simp [keyOf] at e; subst e; rfl
  | _ => simp [keyOf] at e
def cellI (S : Store) : D → Option (Nat × List Key × List D)
  | .ref n => match S[n]? with
    | some (.dI ks xs) => some (n, ks, xs)
    | _ => none
  | _ => none
def readI (S : Store) : D → Option (List Key × List D)
  | .ref n => match S[n]? with
    | some (.dI ks xs) => some (ks, xs)
    | some (.fI ks xs) => some (ks, xs)
    | _ => none
  | _ => none
section
variable {G : Gx} {α : List Addr} {H : Hp} {S : Store} {d : D} {v : V}
theorem cellI_rep {n : Nat} {ks : List Key} {xs : List D} (hS : RelS G α H S) (r : Rep G α H d v) (e : cellI S d = some (n, ks, xs)) :
    ∃ a vs, v = .ref a ∧ α[n]? = some a ∧ H a = some (.dK (ks.zip vs)) ∧ Reps G α H xs vs ∧ ks.length = xs.length ∧ ks.length = vs.length := by
  cases r with
  | @ref m a h =>
    unfold cellI at e
    simp only at e
    split at e
    · rename_i ks' ys q
      cases e
      obtain ⟨vs, h1, h2, h3⟩ := hS.cell h q
      exact ⟨a, vs, rfl, h, h1, h2, h3, by rw [h3, h2.length]⟩
    · cases e
  | _ => simp [cellI] at e
theorem readI_rep {ks : List Key} {xs : List D} (hS : RelS G α H S) (r : Rep G α H d v) (e : readI S d = some (ks, xs)) :
    ∃ a vs, v = .ref a ∧ Rd H a (.dK (ks.zip vs)) ∧ Reps G α H xs vs ∧ ks.length = xs.length ∧ ks.length = vs.length := by
  cases r with
  | @ref m a h =>
    unfold readI at e
    simp only at e
    split at e
    · rename_i ks' ys q
      cases e
      obtain ⟨vs, h1, h2, h3⟩ := hS.cell h q
      exact ⟨a, vs, rfl, .inl h1, h2, h3, by rw [h3, h2.length]⟩
    · rename_i ks' ys q
      cases e
      obtain ⟨ob, vs, h1, h2, h3⟩ := hS.cell h q
      exact ⟨a, vs, rfl, .inr ⟨ob, h1⟩, h2, h3, by rw [h3, h2.length]⟩
    · cases e
  | _ => simp [readI] at e
theorem valV_zip0 (i : Key) (ks : List Key) (vs : List V) (h : ks.length = vs.length) : valV (ks.zip vs) i = lkD ks vs i := by
  have := valV_zip (id : Key → Key) (fun _ _ e => e) i ks vs h
  simpa using this
end
def nDict : Den := fun _ S => .ok (.ref S.length) (S ++ [.dI [] []])
def gDGet (x y : D) (S : Store) : Res D := match readI S x, keyOf y with
  | some (ks, xs), some i => match lkD ks xs i with
    | some d => .ok d S
    | none => .bad
  | _, _ => .bad
def gDIn (neg : Bool) (y x : D) (S : Store) : Res D := match readI S x, keyOf y with
  | some (ks, _), some i => .ok (.bl (if neg then !decide (i ∈ ks) else decide (i ∈ ks))) S
  | _, _ => .bad
def putI (ks : List Key) (xs : List D) (i : Key) (d : D) : O := if i ∈ ks then .dI ks (stD ks xs i d) else .dI (ks ++ [i]) (xs ++ [d])
def sSetD (o i v : Den) : DenS := fun ρ S => obind (v ρ S) ρ fun z S1 => obind (o ρ S1) ρ fun x S2 => obind (i ρ S2) ρ fun y S3 => match cellI S3 x, keyOf y with
  | some (n, ks, xs), some k => if ks.length < sizeLine then .nx ρ (S3.set n (putI ks xs k z)) else .bad
  | _, _ => .bad
section
variable {X : Cx} {W : WK} {fo fi fv fd : Den} {pos : Pos}
theorem se_ndict : SE X W (.Dict [] [] pos) nDict := by
  refine se_of pe_dnewK fun σ H Q hb ⟨α, ρ, S, hE, hS, h⟩ p hp => ?_
  obtain ⟨n, rs⟩ := hS.push (u := .dK []) (o := .dI [] []) hp fun n => ⟨[], upd_same, .nil, rfl⟩
  exact h _ _ _ n rs (.ref (hS.newAt p))
theorem dget_zip {H : Hp} {a : Addr} {ks : List Key} {vs : List V} (i : Key) (h : Rd H a (.dK (ks.zip vs))) (hl : ks.length = vs.length) : DGet H a (kV i) (lkD ks vs i) := .inl ⟨_, i, h, rfl, (valV_zip0 i ks vs hl).symm⟩
theorem lk_dec {ks : List Key} {vs : List V} (i : Key) (hl : ks.length = vs.length) : (lkD ks vs i).isSome = decide (i ∈ ks) := by
  cases q : lkD ks vs i with
  | none => simp [(lkD_none hl).mp q]
  | some _ =>
    have : i ∈ ks := Classical.byContradiction fun z => by rw [(lkD_none hl).mpr z] at q; cases q
    simp [this]
theorem se_dget {o i : Expr} (hu : X.A.units + 1 < cLine) (ho : SE X W o fo) (hi : SE X W i fi) (hs : NoSl i := by exact fun _ _ => rfl) : SE X W (.Subscript o i pos) (dBin gDGet fo fi) := by
  refine se_of (pe_dget hu ho hi hs) fun σ H Q hb ⟨α, ρ, S, hE, hS, h⟩ => ?_
  refine td_bind hE hS h fun x S1 α1 H1 vx n1 hE1 s1 b1 r1 h => ?_
  refine td_bind hE1 s1 h fun y S2 α2 H2 vy n2 hE2 s2 b2 r2 h => ?_
  unfold gDGet at h
  split at h
  · rename_i ks xs i' e1 ek
    cases keyOf_rep r2 ek
    split at h
    · rename_i d e2
      obtain ⟨a, vs, rfl, h2, h3, h4, h5⟩ := readI_rep s2 (r1.mono n2) e1
      obtain ⟨v, e3, r3⟩ := Reps.lk h3 e2
      refine ⟨a, v, rfl, ?_, h α2 H2 v .refl s2 r3⟩
      have := dget_zip i' h2 h5
      rw [e3] at this
      exact this
    · exact h.elim
  · exact h.elim
theorem dput_zip {H : Hp} {a : Addr} {ks : List Key} {vs : List V} {i : Key} {v : V} (h : H a = some (.dK (ks.zip vs))) (hl : ks.length = vs.length) (hz : ks.length < sizeLine) :
    DPut H a (kV i) v (upd H a (.dK (if i ∈ ks then ks.zip (stD ks vs i v) else (ks ++ [i]).zip (vs ++ [v])))) := by
  have := DPut.k (k := i) (v := v) h (by rw [List.length_zip]; omega)
  have e := putK_zip (id : Key → Key) (fun _ _ e => e) i v ks vs hl
  simp only [List.map_id, id] at e
  rw [e] at this
  exact this
theorem ss_setD {o i e : Expr} {pos' : Pos} (hu : X.A.units + 1 < cLine) (ho : SE X W o fo) (hi : SE X W i fi) (hv : SE X W e fv) (hs : swapsWith e (some (.Subscript o i pos')) pos.line X.env = pure false := by rfl) :
    SS X W (.Assign [.Subscript o i pos'] e pos) (sSetD fo fi fv) := ss_of (ps_dput hu ho hi hv hs) fun σ H E hb ⟨α, ρ, S, hE, hS, h⟩ => by
  refine ⟨α, ρ, S, hE, hS, spost_bind hE h fun z S1 α1 H1 vz n1 hE1 s1 rz h b1 => ?_⟩
  refine ⟨α1, ρ, S1, hE1, s1, spost_bind hE1 h fun x S2 α2 H2 vx n2 hE2 s2 rx h b2 => ?_⟩
  refine ⟨α2, ρ, S2, hE2, s2, spost_bind hE2 h fun y S3 α3 H3 vy n3 hE3 s3 ry h b3 => ?_⟩
  try simp only at h
  split at h
  · rename_i n ks xs k e1 ek
    cases keyOf_rep ry ek
    split at h
    · rename_i hz
      obtain ⟨a, us, rfl, h1, h2, h3, h4, h5⟩ := cellI_rep s3 (rx.mono n3) e1
      refine ⟨a, _, rfl, dput_zip (v := vz) h2 h5 hz, fun b4 => ?_⟩
      have rz := (rz.mono n2).mono n3
      obtain ⟨nx, rs⟩ := s3.put (u := .dK (if k ∈ ks then ks.zip (stD ks us k vz) else (ks ++ [k]).zip (us ++ [vz]))) (o := putI ks xs k z) h1 h2 (fun _ _ e => nomatch e) fun nx => by
        unfold putI
        by_cases hk : k ∈ ks
        · simp only [if_pos hk] at nx ⊢
          exact ⟨_, upd_same, (Reps.st rz h3).mono nx, by rw [stD_length _ _ _ _ h4]; exact h4⟩
        · simp only [if_neg hk] at nx ⊢
          exact ⟨_, upd_same, (h3.append (.cons rz .nil)).mono nx, by simp [h4]⟩
      exact h α3 _ σ nx rs (hE3.mono nx) b4
    · exact h.elim
  · exact h.elim
theorem din_ok {G : Gx} {W : XK} {neg : Bool} {α : List Addr} {H : Hp} {S : Store} {x y : D} {vx vy : V} {Q : VK} (hS : RelS G α H S) (rx : Rep G α H x vx) (ry : Rep G α H y vy) (h : PostR G W (Rep G) α H Q (gDIn neg y x S)) :
    ∃ a r, vx = .ref a ∧ DGet H a vy r ∧ Q (.bl (if neg then !r.isSome else r.isSome)) H := by
  unfold gDIn at h
  split at h
  · rename_i ks xs i' e1 ek
    cases keyOf_rep ry ek
    obtain ⟨a, vs, rfl, h2, h3, h4, h5⟩ := readI_rep hS rx e1
    refine ⟨a, lkD ks vs i', rfl, dget_zip i' h2 h5, ?_⟩
    rw [lk_dec i' h5]
    exact h α H _ .refl hS (.bl _)
  · exact h.elim
theorem se_din {o i : Expr} (hu : X.A.units + 1 < cLine) (hi : SE X W i fi) (ho : SE X W o fo) (h1 : behindInMarks .In o = false := by rfl) : SE X W (.Compare i [.In] [o] pos) (dBin (gDIn false) fi fo) := by
  refine se_of (pe_cmp (pc_din hu hi ho) h1) fun σ H Q hb ⟨α, ρ, S, hE, hS, h⟩ => ?_
  refine td_bind hE hS h fun y S1 α1 H1 vy n1 hE1 s1 b1 r1 h => ?_
  refine td_bind hE1 s1 h fun x S2 α2 H2 vx n2 hE2 s2 b2 r2 h => ?_
  exact din_ok s2 r2 (r1.mono n2) h
theorem se_dnotin {o i : Expr} (hu : X.A.units + 1 < cLine) (hi : SE X W i fi) (ho : SE X W o fo) (h1 : behindInMarks .NotIn o = false := by rfl) : SE X W (.Compare i [.NotIn] [o] pos) (dBin (gDIn true) fi fo) := by
  refine se_of (pe_cmp (pc_dnotin hu hi ho) h1) fun σ H Q hb ⟨α, ρ, S, hE, hS, h⟩ => ?_
  refine td_bind hE hS h fun y S1 α1 H1 vy n1 hE1 s1 b1 r1 h => ?_
  refine td_bind hE1 s1 h fun x S2 α2 H2 vx n2 hE2 s2 b2 r2 h => ?_
  exact din_ok s2 r2 (r1.mono n2) h
theorem xbin_eq {g : D → D → Store → Res D} {fa fb : Den} {ρ : Env} {S : Store} : xOf (dBin g fa fb) ρ S = (rbind (fa ρ S) fun x S1 => rbind (fb ρ S1) fun y S2 => rbind (g x y S2) dBl) := by
  unfold xOf dBin
  cases fa ρ S with
  | ok d S1 => show rbind (rbind (fb ρ S1) _) _ = rbind (fb ρ S1) _; cases fb ρ S1 <;> rfl
  | _ => rfl
theorem sx_din {o i : Expr} (hu : X.A.units + 1 < cLine) (hi : SE X W i fi) (ho : SE X W o fo) (h1 : behindInMarks .In o = false := by rfl) : SX X W (.Compare i [.In] [o] pos) (xOf (dBin (gDIn false) fi fo)) := by
  refine sx_of (pt_cmp (pc_din hu hi ho) h1) fun σ H Q hb ⟨α, ρ, S, hE, hS, h⟩ => ?_
  rw [xbin_eq] at h
  refine td_bind hE hS h fun y S1 α1 H1 vy n1 hE1 s1 b1 r1 h => ?_
  refine td_bind hE1 s1 h fun x S2 α2 H2 vx n2 hE2 s2 b2 r2 h => ?_
  refine din_ok (neg := false) (Q := fun x H1 => ∃ c, x = .bl c ∧ (Bnd X.K H1 → Q c H1)) s2 r2 (r1.mono n2) (post_bind h fun d S3 α3 H3 v3 n3 s3 r3 h => ?_)
  cases r3 with
  | bl b => exact ⟨b, rfl, h α3 H3 _ .refl s3 rfl⟩
  | _ => exact h.elim
theorem sx_dnotin {o i : Expr} (hu : X.A.units + 1 < cLine) (hi : SE X W i fi) (ho : SE X W o fo) (h1 : behindInMarks .NotIn o = false := by rfl) : SX X W (.Compare i [.NotIn] [o] pos) (xOf (dBin (gDIn true) fi fo)) := by
  refine sx_of (pt_cmp (pc_dnotin hu hi ho) h1) fun σ H Q hb ⟨α, ρ, S, hE, hS, h⟩ => ?_
  rw [xbin_eq] at h
  refine td_bind hE hS h fun y S1 α1 H1 vy n1 hE1 s1 b1 r1 h => ?_
  refine td_bind hE1 s1 h fun x S2 α2 H2 vx n2 hE2 s2 b2 r2 h => ?_
  refine din_ok (neg := true) (Q := fun x H1 => ∃ c, x = .bl c ∧ (Bnd X.K H1 → Q c H1)) s2 r2 (r1.mono n2) (post_bind h fun d S3 α3 H3 v3 n3 s3 r3 h => ?_)
  cases r3 with
  | bl b => exact ⟨b, rfl, h α3 H3 _ .refl s3 rfl⟩
  | _ => exact h.elim
end
/-- list(d) of a dict -/
def kD : Key → D
  | .inl i => .int i
  | .inr x => .str x
def gListD : List D → Store → Res D
  | [d], S => match cellI S d with
    | some (_, ks, _) => .ok (.lst (ks.map kD)) S
    | none => .bad
  | _, _ => .bad
theorem Reps.keys {G : Gx} {α : List Addr} {H : Hp} : ∀ ks : List Key, Reps G α H (ks.map kD) (ks.map kV)
  | [] => .nil
  | .inl i :: ks => .cons (.int i) (Reps.keys ks)
  | .inr x :: ks => .cons (.str x) (Reps.keys ks)
section
variable {X : Cx}
theorem v_listD : CallV (gxOf X) rListD gListD := by
  intro W α H S xs vs Q hS hB r h
  unfold gListD at h
  split at h
  · obtain ⟨v, rfl, r1⟩ := reps1 r
    split at h
    · rename_i n ks xs e1
      obtain ⟨a, us, rfl, h1, h2, h3, h4, h5⟩ := cellI_rep hS r1 e1
      refine ⟨a, _, rfl, h2, fun q hq => ?_⟩
      have e : (ks.zip us).map (fun kv => kV kv.1) = ks.map kV := by
        rw [show (fun kv : Key × V => kV kv.1) = kV ∘ Prod.fst from rfl, ← List.map_map, List.map_fst_zip (by omega)]
      rw [e]
      exact post_lst hS (Reps.keys ks) h q hq
    · exact h.elim
  · exact h.elim
end
end Dn

set_option maxHeartbeats 4000000
namespace Dn
open PySem PySem.Spec PyProof.Rows L2

/-! ### lists and tuples as sources -/
inductive Sk where
  | l | t
def SqK (K : PySem.W.Frag) (H : Hp) : Sk → Addr → List V → Prop
  | .l, a, xs => SqL K H a xs
  | .t, a, xs => SqT K H a xs
def itK (h : Heap) : Sk → Addr → Addr → Nat → Prop
  | .l, it, a, i => h.IsListIter it a i
  | .t, it, a, i => h.IsTupleIter it a i
def conK (h : Heap) : Sk → Addr → Array Value → Prop
  | .l, a, vs => h.IsList a vs
  | .t, a, vs => h.IsTuple a vs
def objK : Sk → Addr → Obj
  | .l, a => { cls := .type "list_iterator", data := .fields #[.ref a, .int 0 0] }
  | .t, a => { cls := .type "tuple_iterator", data := .fields #[.ref a, .int 0 0] }
theorem drawsK {prog : Program} {w : World} {A : Around} (k : Sk) (hh : A.handled = none) (it a : Addr) (hne : a ≠ it) (items : Array Value) :
    Draws prog w A it [it, a] items.size (fun i v => items[i]? = some v) (fun i h => itK h k it a i ∧ conK h k a items) := by
  cases k with
  | l => exact Draws.list hh it a hne items
  | t => exact Draws.tuple hh it a hne items
theorem begK (k : Sk) (a : Addr) (items : Array Value) : Begins (.ref a) (objK k a) fun h => conK h k a items := by
  cases k with
  | l => exact begins_list a items
  | t => exact begins_tuple a items
theorem itK_obj {h : Heap} {k : Sk} {it a : Addr} {i : Nat} (x : itK h k it a i) : ∃ o, h.get? it = some o ∧ ∀ v, o.data ≠ .cell v := by
  cases k with
  | l => obtain ⟨o, e, c, d⟩ := (x : h.IsListIter it a i); exact ⟨o, e, fun v z => by rw [d] at z; cases z⟩
  | t => obtain ⟨o, e, c, d⟩ := (x : h.IsTupleIter it a i); exact ⟨o, e, fun v z => by rw [d] at z; cases z⟩
theorem itK_at {h h' : Heap} {k : Sk} {it a : Addr} {i : Nat} (x : itK h k it a i) (kp : ∀ o, h.get? it = some o → h'.get? it = some o) : itK h' k it a i := by
  cases k with
  | l => exact (show h.IsListIter it a i from x).at kp
  | t => exact (show h.IsTupleIter it a i from x).at kp
theorem itK_new {h : Heap} {k : Sk} {it a : Addr} (e : h.get? it = some (objK k a)) : itK h k it a 0 := by
  cases k with
  | l => exact ⟨_, e, rfl, rfl⟩
  | t => exact ⟨_, e, rfl, rfl⟩
section
variable {X : Cx} {pins : List (Addr × Obj)} {σ : St} {H : Hp} {s : Shared} {k : Sk} {a : Addr} {xs ys : List V}
theorem inv_K (I : Inv X pins σ H s) (h : SqK X.K H k a xs) : ∃ its : List Value, Vals xs its ∧ conK s.heap k a its.toArray ∧ a < s.heap.objs.size := by
  cases k with
  | l => obtain ⟨its, r, p, z⟩ := I.list h; exact ⟨its, r, p.isList, p.lt⟩
  | t =>
    obtain ⟨its, r, p, z⟩ := I.tuple h
    refine ⟨its, r, (show s.heap.IsTuple a its.toArray from p), ?_⟩
    obtain ⟨o, e, _⟩ := p
    exact Heap.lt_size e
theorem injK (I : Inv X pins σ H s) (h : SqK X.K H k a xs) (h' : SqK X.K H k a ys) : xs = ys := by
  cases k with
  | l => exact I.list_inj h h'
  | t => exact I.tuple_inj h h'
end
/-- an iterator that gives new tuples, its goes known from GoesN -/
theorem turn_goesN {P : Program} {w : World} {K : PySem.W.Frag} {tg : Expr} {J : It} {e : Addr} {fp : List Addr} {tn : Nat → Heap → Prop} (mem : e ∈ fp)
    (obj : ∀ i h, tn i h → ∀ b ∈ fp, ∃ o, h.get? b = some o ∧ ∀ v, o.data ≠ .cell v) (keep : ∀ i h h', tn i h → (∀ b ∈ fp, ∀ o, h.get? b = some o → h'.get? b = some o) → tn i h')
    (step : ∀ (X : Cx), X.prog = P → X.w = w → X.K = K → X.calm = true → ∀ (i : Nat) (pins : List (Addr × Obj)) (s : Shared) (σ : St) (H : Hp), Inv X pins σ H s → tn i s.heap → (J.go i H ∨ J.stop i H) →
      ∃ fp' wr n Y St, GoesN P w X.A tg e fp' wr n Y St ∧ St i s.heap ∧ (∀ b ∈ wr, b ∈ fp) ∧ (J.go i H → i < n) ∧ (J.stop i H → ∃ j, j = n ∧ St j s.heap) ∧ ∀ v h', i < n → Y i s.heap v h' → St (i + 1) h' → tn (i + 1) h' ∧ ∃ T vs us, v = .ref T ∧ s.heap.objs.size ≤ T ∧ Vals vs us ∧ vs.length ≤ 3 ∧ h'.IsTuple T us.toArray ∧
        (H T = none → J.yld i H (.ref T) (upd H T (.tup vs))))
    (self : ∀ (A : Around) (i : Nat) (s : Shared) (Q : Value → Shared → Prop) (E : Value → Shared → Prop), tn i s.heap → Q (.ref e) s → wpAny (model P w) A (pyIter (.ref e)) Q E s) : Turn P w K tg J fp e tn where
  mem := mem
  obj := obj
  keep := keep
  item := by
    intro X hP hw hK hc i pins s σ H E I hf st hg
    obtain ⟨fp', wr, n, Y, St, W, hst, hwr, hn, _, hy⟩ := step X hP hw hK hc i pins s σ H I st (.inl hg)
    refine W.goes i s (fun u s2 => ∃ x H', Inv X pins σ H' s2 ∧ RelV x u ∧ J.yld i H x H' ∧ tn (i + 1) s2.heap ∧ ∀ b ∈ fp, H' b = none) E (hn hg) hst fun v h' tk hY st' hk htk => ?_
    obtain ⟨tn', T, vs, us, rfl, hT, rv, hl, hTup, hyld⟩ := hy v h' (hn hg) hY st'
    have hTn := I.hok.fresh hT
    have new : ObjOk X.prog X.w (upd H T (.tup vs)) h' T (.tup vs) := ⟨Nat.le_trans hl (by rw [sizeLine_eq]; decide), us, rv, hTup⟩
    refine ⟨.ref T, upd H T (.tup vs), I.turnedNew (ch := wr) (fun b o hb q => hk b o hb q) (fun b hb => hf b (hwr b hb)) hT new, rfl, hyld hTn, tn', fun b hb => ?_⟩
    obtain ⟨o, ho, _⟩ := obj i s.heap st b hb
    rw [upd_ne (Nat.ne_of_lt (Nat.lt_of_lt_of_le (Heap.lt_size ho) hT))]
    exact (hf b hb).1
  done := by
    intro X hP hw hK hc i pins s σ H E I hf st hg
    obtain ⟨fp', wr, n, Y, St, W, hst, hwr, _, hs, hy⟩ := step X hP hw hK hc i pins s σ H I st (.inr hg)
    obtain ⟨j, rfl, hst⟩ := hs hg
    exact W.stops s (fun s1 => Inv X pins σ H s1) E hst fun h' tk hk htk => I.turnedL (ch := wr) (fun b o hb q => hk b o hb q) fun b hb => hf b (hwr b hb)
  self := self

theorem vals_at {xs : List V} {its : List Value} (rv : Vals xs its) {i : Nat} {x : Value} (hx : its.toArray[i]? = some x) : ∃ v, xs[i]? = some v ∧ RelV v x := by
  have hl := rv.length
  have hx : its[i]? = some x := by simpa using hx
  have hi2 : i < xs.length := by have := (List.getElem?_eq_some_iff.mp hx).1; omega
  obtain ⟨u, hu, ru⟩ := rv.get (List.getElem?_eq_getElem hi2)
  rw [hx] at hu
  cases hu
  exact ⟨_, List.getElem?_eq_getElem hi2, ru⟩
/-! ### enumerate -/
def IteK (K : PySem.W.Frag) (k : Sk) (a : Addr) : It :=
  ⟨fun i H => ∃ (xs : List V) (x : V), SqK K H k a xs ∧ xs[i]? = some x, fun i H v H' => ∃ T x, v = .ref T ∧ H T = none ∧ H' = upd H T (.tup [.int (i : Nat), x]) ∧ ∀ xs, SqK K H k a xs → xs[i]? = some x,
    fun i H => ∃ xs : List V, SqK K H k a xs ∧ xs.length = i⟩
theorem turn_enumK {P : Program} {w : World} {K : PySem.W.Frag} {elts : List Expr} {kk : Nat} {tpos : Pos} (k : Sk) (a e it : Addr) (h1 : a ≠ it) (h2 : e ≠ it) (h3 : e ≠ a) :
    Turn P w K (.Tuple elts kk tpos) (IteK K k a) [e, it] e (fun i h => (∃ old, IsEnum h e it ((0 : Int) + (i : Nat)) old) ∧ itK h k it a i) := by
  refine turn_goesN (by simp) (fun i h st b hb => ?_) (fun i h h' st kp => ?_) (fun X hP hw hK hc i pins s σ H I st hg => ?_) fun A i s Q E st h => ?_
  · obtain ⟨⟨old, he⟩, hi⟩ := st
    have e' : b = e ∨ b = it := by simpa using hb
    rcases e' with z | z
    · rw [z]; exact ⟨_, he, fun v q => nomatch q⟩
    · rw [z]; exact itK_obj hi
  · obtain ⟨⟨old, he⟩, hi⟩ := st
    exact ⟨⟨old, kp e (by simp) _ he⟩, itK_at hi fun o q => kp it (by simp) o q⟩
  · subst hP hw hK
    obtain ⟨he, hi⟩ := st
    obtain ⟨xs, hq⟩ : ∃ xs, SqK X.K H k a xs := by
      rcases hg with ⟨xs, x, hq, _⟩ | ⟨xs, hq, _⟩ <;> exact ⟨xs, hq⟩
    obtain ⟨its, rv, con, hlt⟩ := inv_K I hq
    have hl := rv.length
    refine ⟨_, _, _, _, _, GoesN.enumFrom 0 (drawsK k (show X.A.in1.handled = none from I.ok.hd hc) it a h1 its.toArray) e h2 (by simp; exact ⟨h2, h3⟩) (by simp), ⟨he, hi, con⟩, fun b hb => hb, fun hg => ?_, fun hs => ?_, fun v h' hlt' hY st' => ?_⟩
    · obtain ⟨ys, x, hq', hx⟩ := hg
      have := injK I hq hq'
      subst this
      have := (List.getElem?_eq_some_iff.mp hx).1
      simp; omega
    · obtain ⟨ys, hq', hx⟩ := hs
      have := injK I hq hq'
      subst this
      refine ⟨i, by simp; omega, he, hi, con⟩
    · obtain ⟨T, t, x, rfl, hT, hx, hTup⟩ := hY
      obtain ⟨he', hi', _⟩ := st'
      obtain ⟨v, hv, rvx⟩ := vals_at rv hx
      refine ⟨⟨he', hi'⟩, T, [.int (i : Nat), v], [.int (0 + (i : Nat)) t, x], rfl, hT, .cons ⟨t, by simp⟩ (.cons rvx .nil), by simp, hTup, fun hn => ⟨T, v, rfl, hn, rfl, fun ys hy => ?_⟩⟩
      rw [← injK I hq hy]; exact hv
  · obtain ⟨⟨old, he⟩, _⟩ := st
    exact wpAny_pyIter_enum he h
/-! ### zip -/
def ItzK (K : PySem.W.Frag) (k k2 : Sk) (a b : Addr) : It :=
  ⟨fun i H => ∃ (xs ys : List V) (x y : V), SqK K H k a xs ∧ SqK K H k2 b ys ∧ xs[i]? = some x ∧ ys[i]? = some y,
    fun i H v H' => ∃ T x y, v = .ref T ∧ H T = none ∧ H' = upd H T (.tup [x, y]) ∧ (∀ xs, SqK K H k a xs → xs[i]? = some x) ∧ ∀ ys, SqK K H k2 b ys → ys[i]? = some y,
    fun i H => ∃ xs ys : List V, SqK K H k a xs ∧ SqK K H k2 b ys ∧ min xs.length ys.length = i⟩
theorem turn_zipK {P : Program} {w : World} {K : PySem.W.Frag} {elts : List Expr} {kk : Nat} {tpos : Pos} (k k2 : Sk) (a b z TI TO i1 i2 : Addr) (S : ZipSep2 z TI TO i1 i2 [i1, a] [i2, b]) (h1 : a ≠ i1) (h2 : b ≠ i2) :
    Turn P w K (.Tuple elts kk tpos) (ItzK K k k2 a b) [z, TI, TO, i1, i2] z (fun i h => IsZip h z TI TO .none ∧ IsTupOf2 h TI (.ref i1) (.ref i2) ∧ (∃ a1 a2, IsTupOf2 h TO a1 a2) ∧ itK h k i1 a i ∧ itK h k2 i2 b i) := by
  refine turn_goesN (by simp) (fun i h st c hb => ?_) (fun i h h' st kp => ?_) (fun X hP hw hK hc i pins s σ H I st hg => ?_) fun A i s Q E st h => wpAny_pyIter_zip st.1 h
  · obtain ⟨hz, hTI, ⟨a1, a2, hTO⟩, hi1, hi2⟩ := st
    have e' : c = z ∨ c = TI ∨ c = TO ∨ c = i1 ∨ c = i2 := by simpa using hb
    rcases e' with q | q | q | q | q
    · rw [q]; exact ⟨_, hz, fun v q => nomatch q⟩
    · rw [q]; exact ⟨_, hTI, fun v q => nomatch q⟩
    · rw [q]; exact ⟨_, hTO, fun v q => nomatch q⟩
    · rw [q]; exact itK_obj hi1
    · rw [q]; exact itK_obj hi2
  · obtain ⟨hz, hTI, ⟨a1, a2, hTO⟩, hi1, hi2⟩ := st
    exact ⟨kp z (by simp) _ hz, kp TI (by simp) _ hTI, ⟨a1, a2, kp TO (by simp) _ hTO⟩, itK_at hi1 fun o q => kp i1 (by simp) o q, itK_at hi2 fun o q => kp i2 (by simp) o q⟩
  · subst hP hw hK
    obtain ⟨hz, hTI, hTO, hi1, hi2⟩ := st
    obtain ⟨xs, ys, hq, hq2⟩ : ∃ xs ys, SqK X.K H k a xs ∧ SqK X.K H k2 b ys := by
      rcases hg with ⟨xs, ys, x, y, hq, hq2, _⟩ | ⟨xs, ys, hq, hq2, _⟩ <;> exact ⟨xs, ys, hq, hq2⟩
    obtain ⟨its, rv, con, hlt⟩ := inv_K I hq
    obtain ⟨its2, rv2, con2, hlt2⟩ := inv_K I hq2
    have hl := rv.length
    have hl2 := rv2.length
    have hh : X.A.in1.handled = none := I.ok.hd hc
    refine ⟨_, _, _, _, _, GoesN.zip2 S (drawsK k hh i1 a h1 its.toArray) (drawsK k2 hh i2 b h2 its2.toArray), ⟨hz, hTI, hTO, ⟨hi1, con⟩, hi2, con2⟩, fun c hb => ?_, fun hg => ?_, fun hs => ?_, fun v h' hlt' hY st' => ?_⟩
    · simp at hb ⊢; rcases hb with q | q | q | q <;> simp [q]
    · obtain ⟨xs', ys', x, y, hq', hq2', hx, hy⟩ := hg
      have := injK I hq hq'
      subst this
      have := injK I hq2 hq2'
      subst this
      have := (List.getElem?_eq_some_iff.mp hx).1
      have := (List.getElem?_eq_some_iff.mp hy).1
      simp; omega
    · obtain ⟨xs', ys', hq', hq2', hx⟩ := hs
      have := injK I hq hq'
      subst this
      have := injK I hq2 hq2'
      subst this
      exact ⟨i, by simp; omega, hz, hTI, hTO, ⟨hi1, con⟩, hi2, con2⟩
    · obtain ⟨T, x, y, rfl, hT, hx, hy, hTup⟩ := hY
      obtain ⟨hz', hTI', hTO', ⟨hi1', _⟩, hi2', _⟩ := st'
      obtain ⟨v, hv, rvx⟩ := vals_at rv hx
      obtain ⟨v2, hv2, rvy⟩ := vals_at rv2 hy
      refine ⟨⟨hz', hTI', hTO', hi1', hi2'⟩, T, [v, v2], [x, y], rfl, hT, .cons rvx (.cons rvy .nil), by simp, hTup, fun hn => ⟨T, v, v2, rfl, hn, rfl, fun ys' hy' => ?_, fun ys' hy' => ?_⟩⟩
      · rw [← injK I hq hy']; exact hv
      · rw [← injK I hq2 hy']; exact hv2
def Itz3 (K : PySem.W.Frag) (k k2 k3 : Sk) (a b c : Addr) : It :=
  ⟨fun i H => ∃ (xs ys zs : List V) (x y z : V), SqK K H k a xs ∧ SqK K H k2 b ys ∧ SqK K H k3 c zs ∧ xs[i]? = some x ∧ ys[i]? = some y ∧ zs[i]? = some z,
    fun i H v H' => ∃ T x y z, v = .ref T ∧ H T = none ∧ H' = upd H T (.tup [x, y, z]) ∧ (∀ xs, SqK K H k a xs → xs[i]? = some x) ∧ (∀ ys, SqK K H k2 b ys → ys[i]? = some y) ∧ ∀ zs, SqK K H k3 c zs → zs[i]? = some z,
    fun i H => ∃ xs ys zs : List V, SqK K H k a xs ∧ SqK K H k2 b ys ∧ SqK K H k3 c zs ∧ min (min xs.length ys.length) zs.length = i⟩
theorem turn_zip3 {P : Program} {w : World} {K : PySem.W.Frag} {elts : List Expr} {kk : Nat} {tpos : Pos} (k k2 k3 : Sk) (a b c z TI TO i1 i2 i3 : Addr) (S : ZipSep3 z TI TO i1 i2 i3 [i1, a] [i2, b] [i3, c]) (h1 : a ≠ i1) (h2 : b ≠ i2) (h3 : c ≠ i3) :
    Turn P w K (.Tuple elts kk tpos) (Itz3 K k k2 k3 a b c) [z, TI, TO, i1, i2, i3] z (fun i h => IsZip h z TI TO .none ∧ IsTupOf3 h TI (.ref i1) (.ref i2) (.ref i3) ∧ (∃ a1 a2 a3, IsTupOf3 h TO a1 a2 a3) ∧ itK h k i1 a i ∧ itK h k2 i2 b i ∧ itK h k3 i3 c i) := by
  refine turn_goesN (by simp) (fun i h st d hb => ?_) (fun i h h' st kp => ?_) (fun X hP hw hK hc i pins s σ H I st hg => ?_) fun A i s Q E st h => wpAny_pyIter_zip st.1 h
  · obtain ⟨hz, hTI, ⟨a1, a2, a3, hTO⟩, hi1, hi2, hi3⟩ := st
    have e' : d = z ∨ d = TI ∨ d = TO ∨ d = i1 ∨ d = i2 ∨ d = i3 := by simpa using hb
    rcases e' with q | q | q | q | q | q
    · rw [q]; exact ⟨_, hz, fun v q => nomatch q⟩
    · rw [q]; exact ⟨_, hTI, fun v q => nomatch q⟩
    · rw [q]; exact ⟨_, hTO, fun v q => nomatch q⟩
    · rw [q]; exact itK_obj hi1
    · rw [q]; exact itK_obj hi2
    · rw [q]; exact itK_obj hi3
  · obtain ⟨hz, hTI, ⟨a1, a2, a3, hTO⟩, hi1, hi2, hi3⟩ := st
    exact ⟨kp z (by simp) _ hz, kp TI (by simp) _ hTI, ⟨a1, a2, a3, kp TO (by simp) _ hTO⟩, itK_at hi1 fun o q => kp i1 (by simp) o q, itK_at hi2 fun o q => kp i2 (by simp) o q, itK_at hi3 fun o q => kp i3 (by simp) o q⟩
  · subst hP hw hK
    obtain ⟨hz, hTI, hTO, hi1, hi2, hi3⟩ := st
    obtain ⟨xs, ys, zs, hq, hq2, hq3⟩ : ∃ xs ys zs, SqK X.K H k a xs ∧ SqK X.K H k2 b ys ∧ SqK X.K H k3 c zs := by
      rcases hg with ⟨xs, ys, zs, x, y, u, hq, hq2, hq3, _⟩ | ⟨xs, ys, zs, hq, hq2, hq3, _⟩ <;> exact ⟨xs, ys, zs, hq, hq2, hq3⟩
    obtain ⟨its, rv, con, hlt⟩ := inv_K I hq
    obtain ⟨its2, rv2, con2, hlt2⟩ := inv_K I hq2
    obtain ⟨its3, rv3, con3, hlt3⟩ := inv_K I hq3
    have hl := rv.length
    have hl2 := rv2.length
    have hl3 := rv3.length
    have hh : X.A.in1.handled = none := I.ok.hd hc
    refine ⟨_, _, _, _, _, GoesN.zip3 S (drawsK k hh i1 a h1 its.toArray) (drawsK k2 hh i2 b h2 its2.toArray) (drawsK k3 hh i3 c h3 its3.toArray), ⟨hz, hTI, hTO, ⟨hi1, con⟩, ⟨hi2, con2⟩, hi3, con3⟩, fun d hb => ?_, fun hg => ?_, fun hs => ?_, fun v h' hlt' hY st' => ?_⟩
    · simp at hb ⊢; rcases hb with q | q | q | q | q <;> simp [q]
    · obtain ⟨xs', ys', zs', x, y, u, hq', hq2', hq3', hx, hy, hu⟩ := hg
      have := injK I hq hq'
      subst this
      have := injK I hq2 hq2'
      subst this
      have := injK I hq3 hq3'
      subst this
      have := (List.getElem?_eq_some_iff.mp hx).1
      have := (List.getElem?_eq_some_iff.mp hy).1
      have := (List.getElem?_eq_some_iff.mp hu).1
      simp; omega
    · obtain ⟨xs', ys', zs', hq', hq2', hq3', hx⟩ := hs
      have := injK I hq hq'
      subst this
      have := injK I hq2 hq2'
      subst this
      have := injK I hq3 hq3'
      subst this
      exact ⟨i, by simp; omega, hz, hTI, hTO, ⟨hi1, con⟩, ⟨hi2, con2⟩, hi3, con3⟩
    · obtain ⟨T, x, y, u, rfl, hT, hx, hy, hu, hTup⟩ := hY
      obtain ⟨hz', hTI', hTO', ⟨hi1', _⟩, ⟨hi2', _⟩, hi3', _⟩ := st'
      obtain ⟨v, hv, rvx⟩ := vals_at rv hx
      obtain ⟨v2, hv2, rvy⟩ := vals_at rv2 hy
      obtain ⟨v3, hv3, rvz⟩ := vals_at rv3 hu
      refine ⟨⟨hz', hTI', hTO', hi1', hi2', hi3'⟩, T, [v, v2, v3], [x, y, u], rfl, hT, .cons rvx (.cons rvy (.cons rvz .nil)), by simp, hTup, fun hn => ⟨T, v, v2, v3, rfl, hn, rfl, fun ys' hy' => ?_, fun ys' hy' => ?_, fun ys' hy' => ?_⟩⟩
      · rw [← injK I hq hy']; exact hv
      · rw [← injK I hq2 hy']; exact hv2
      · rw [← injK I hq3 hy']; exact hv3

/-! ### what a for walks -/
theorem meets_enumerate_newB1 {v : Value} {o : Obj} {H : Heap → Prop} (B : Begins v o H) :
    Meets (Builtin.«enumerate.__new__» ⟨[.type "enumerate", v], []⟩) (fun _ R s => H s.heap ∧
      R (.ok (.ret (.ref (s.heap.push o).objs.size))) { s with heap := (s.heap.push o).push { cls := .type "enumerate", data := .fields #[.none, .bool false, .ref s.heap.objs.size, rawInt 0, .none, .none] } }) :=
  .of_wp fun prog w A R s h => by
    obtain ⟨hp, g, d, tk, os⟩ := s; obtain ⟨h1, h⟩ := h
    have hsub := sub_enumerate
    have q1 : ∀ {A' : Around} {E : Value → Shared → Prop} {Q : Value → Shared → Prop}, Q (.ref hp.objs.size) ⟨hp.push o, g, d, tk, os⟩ → wpAny (model prog w) A' (pyIter v) Q E ⟨hp, g, d, tk, os⟩ :=
      fun q => B.iter prog w _ _ ⟨hp, g, d, tk, os⟩ _ h1 q
    wp_walk using q1
    refine wpAny_stack_any fun st => wpAny_pure ?_
    split
    · rename_i c _ _ _ _ _
      cases (c == Value.type "enumerate")
      · wp_walk using q1
        exact ⟨_, rfl, h⟩
      · wp_walk using q1
        exact ⟨_, rfl, h⟩
    · wp_walk using q1
      exact ⟨_, rfl, h⟩
section
variable {prog : Program} {w : World} {A : Around} {E : Value → Shared → Prop} {s : Shared}
theorem enum_begins1 {v : Value} {o : Obj} {H : Heap → Prop} {Q : Value → Shared → Prop} (B : Begins v o H) (h1 : H s.heap)
    (h : ∀ h', IsEnum h' (s.heap.objs.size + 1) s.heap.objs.size 0 .none → h'.get? s.heap.objs.size = some o → h'.objs.size = s.heap.objs.size + 2 →
      (∀ b o, s.heap.get? b = some o → h'.get? b = some o) → Q (.ref (s.heap.objs.size + 1)) { s with heap := h' }) :
    wpAny (model prog w) A (call (.type "enumerate") [v]) Q E s := by
  refine callType_new F.called_enumerate (by decide) (F.typeCall_enumerate_1 _) (F.newCall_enumerate_1 _) (fun obj => F.args_object_init_2 obj _) F.entry_enumerate_new
    (meets_enumerate_newB1 B) ⟨h1, ?_⟩
  have hz : (s.heap.push o).objs.size = s.heap.objs.size + 1 := Heap.size_push ..
  show _ ∧ _
  rw [hz]
  have he : IsEnum ((s.heap.push o).push { cls := .type "enumerate", data := .fields #[.none, .bool false, .ref s.heap.objs.size, rawInt 0, .none, .none] }) (s.heap.objs.size + 1) s.heap.objs.size 0 .none := by
    have := Heap.get?_push_size (s.heap.push o) (o := { cls := .type "enumerate", data := .fields #[.none, .bool false, .ref s.heap.objs.size, rawInt 0, .none, .none] }) rfl
    rw [hz] at this; exact this
  refine ⟨⟨_, he, rfl⟩, h _ he (Heap.get?_push_of_some _ (Heap.get?_push_size _ B.free)) (by rw [Heap.size_push, hz]) fun b o x => Heap.get?_push_of_some _ (Heap.get?_push_of_some _ x)⟩
end
section
variable {X : Cx} {tg : Expr}
theorem pi_or {e : Expr} {w1 w2 : TI} (h1 : PI X tg e w1) (h2 : PI X tg e w2) : PI X tg e (fun σ H R => w1 σ H R ∨ w2 σ H R) :=
  ⟨fun pins s σ H R I h => h.elim (h1.run pins s σ H R I) (h2.run pins s σ H R I)⟩
def iEnumK (K : PySem.W.Frag) (ta : TA) : TI := fun σ H R => ta σ H fun vs H1 => ∃ k a xs, vs = [.ref a] ∧ SqK K H1 k a xs ∧ R (IteK K k a) H1
theorem pi_enumK {e : Expr} {ta : TA} {p pos tpos : Pos} {elts : List Expr} {kk : Nat} (hg : Gl X "enumerate") (hm : X.mg "enumerate" = none) (ha : PA X [e] ta) (hs : starEach [e] X.env = [(false, eval e X.env)] := by rfl) :
    PI X (.Tuple elts kk tpos) (.Call (.Name "enumerate" p) [e] [] pos) (iEnumK X.K ta) := by
  refine ⟨fun pins s σ H R I h => ?_⟩
  refine Call_ (ld_blt I hg hm boot_enumerate (PyProof.Rows.callWith_type1 (thn (ha.run pos pins s σ H _ I h) fun us s1 ⟨vs, H1, I1, r1, q1⟩ => ?_) hs rfl))
  obtain ⟨k, a, xs, ex, hq, q⟩ := q1
  subst ex
  cases r1 with
  | cons r rr =>
    cases rr
    cases r
    obtain ⟨its, rv, con, hlt⟩ := inv_K I1 hq
    refine enum_begins1 (begK k a its.toArray) con fun h' he hit hsz hk => wpAny_pyIter_enum he ?_
    have I2 : Inv X pins σ H1 { s1 with heap := h' } := I1.kept (t' := s1.toks) hk
    refine ⟨s1.heap.objs.size + 1, [s1.heap.objs.size + 1, s1.heap.objs.size], _, _, H1, rfl, I2, turn_enumK k a (s1.heap.objs.size + 1) s1.heap.objs.size (Nat.ne_of_lt hlt) (Nat.succ_ne_self _) (Nat.ne_of_gt (Nat.lt_succ_of_lt hlt)), ⟨⟨.none, he⟩, itK_new hit⟩, fun b hb => ?_, q⟩
    have e' : b = s1.heap.objs.size + 1 ∨ b = s1.heap.objs.size := by simpa using hb
    have hle : s1.heap.objs.size ≤ b := by
      rcases e' with z | z
      · rw [z]; exact Nat.le_add_right _ _
      · rw [z]; exact Nat.le_refl _
    exact I1.fpOk hle (I1.hok.fresh hle)
theorem off_ne {N i j : Nat} (h : i ≠ j) : N + i ≠ N + j := by omega
def iZipK (K : PySem.W.Frag) (ta : TA) : TI := fun σ H R => ta σ H fun vs H1 => ∃ k k2 a b xs ys, vs = [.ref a, .ref b] ∧ SqK K H1 k a xs ∧ SqK K H1 k2 b ys ∧ R (ItzK K k k2 a b) H1
theorem pi_zipK {e e2 : Expr} {ta : TA} {p pos tpos : Pos} {elts : List Expr} {kk : Nat} (hg : Gl X "zip") (hm : X.mg "zip" = none) (ha : PA X [e, e2] ta)
    (hs : starEach [e, e2] X.env = (false, eval e X.env) :: starEach [e2] X.env := by rfl) (hpl : (backTo pos (starEach [e2] X.env)).any (·.1) = false := by rfl) :
    PI X (.Tuple elts kk tpos) (.Call (.Name "zip" p) [e, e2] [] pos) (iZipK X.K ta) := by
  refine ⟨fun pins s σ H R I h => ?_⟩
  refine Call_ (ld_blt I hg hm PyProof.Rows.boot_zip (PyProof.Rows.callWith_type1 (thn (ha.run pos pins s σ H _ I h) fun us s1 ⟨vs, H1, I1, r1, q1⟩ => ?_) hs hpl))
  obtain ⟨k, k2, a, b, xs, ys, ex, hq, hq2, q⟩ := q1
  subst ex
  cases r1 with
  | cons r rr => cases rr with
    | cons r' rr =>
      cases rr
      cases r
      cases r'
      obtain ⟨its, rv, con, hlt⟩ := inv_K I1 hq
      obtain ⟨its2, rv2, con2, hlt2⟩ := inv_K I1 hq2
      refine zip_begins2 (begK k a its.toArray) (begK k2 b its2.toArray) con con2 fun h' hz hTI hTO h1 h2 hsz hk => wpAny_pyIter_zip hz ?_
      have I2 : Inv X pins σ H1 { s1 with heap := h' } := I1.kept (t' := s1.toks) hk
      refine ⟨s1.heap.objs.size + 4, [s1.heap.objs.size + 4, s1.heap.objs.size + 2, s1.heap.objs.size + 3, s1.heap.objs.size, s1.heap.objs.size + 1], _, _, H1, rfl, I2, turn_zipK k k2 a b _ _ _ _ _ (zip_sep2 (fun c hc => ?_) (fun c hc => ?_)) (Nat.ne_of_lt hlt) (Nat.ne_of_lt (Nat.lt_succ_of_lt hlt2)),
        ⟨hz, hTI, ⟨_, _, hTO⟩, itK_new h1, itK_new h2⟩, fun c hcm => ?_, q⟩
      · rw [List.mem_singleton.mp hc]; exact hlt
      · rw [List.mem_singleton.mp hc]; exact hlt2
      · have hle : s1.heap.objs.size ≤ c := by
          have e' : c = s1.heap.objs.size + 4 ∨ c = s1.heap.objs.size + 2 ∨ c = s1.heap.objs.size + 3 ∨ c = s1.heap.objs.size ∨ c = s1.heap.objs.size + 1 := by simpa using hcm
          rcases e' with z | z | z | z | z
          · rw [z]; exact Nat.le_add_right _ _
          · rw [z]; exact Nat.le_add_right _ _
          · rw [z]; exact Nat.le_add_right _ _
          · rw [z]; exact Nat.le_refl _
          · rw [z]; exact Nat.le_add_right _ _
        exact I1.fpOk hle (I1.hok.fresh hle)
def iZip3 (K : PySem.W.Frag) (ta : TA) : TI := fun σ H R => ta σ H fun vs H1 => ∃ k k2 k3 a b c xs ys zs, vs = [.ref a, .ref b, .ref c] ∧ SqK K H1 k a xs ∧ SqK K H1 k2 b ys ∧ SqK K H1 k3 c zs ∧ R (Itz3 K k k2 k3 a b c) H1
theorem pi_zip3 {e e2 e3 : Expr} {ta : TA} {p pos tpos : Pos} {elts : List Expr} {kk : Nat} (hg : Gl X "zip") (hm : X.mg "zip" = none) (ha : PA X [e, e2, e3] ta)
    (hs : starEach [e, e2, e3] X.env = (false, eval e X.env) :: starEach [e2, e3] X.env := by rfl) (hpl : (backTo pos (starEach [e2, e3] X.env)).any (·.1) = false := by rfl) :
    PI X (.Tuple elts kk tpos) (.Call (.Name "zip" p) [e, e2, e3] [] pos) (iZip3 X.K ta) := by
  refine ⟨fun pins s σ H R I h => ?_⟩
  refine Call_ (ld_blt I hg hm PyProof.Rows.boot_zip (PyProof.Rows.callWith_type1 (thn (ha.run pos pins s σ H _ I h) fun us s1 ⟨vs, H1, I1, r1, q1⟩ => ?_) hs hpl))
  obtain ⟨k, k2, k3, a, b, c, xs, ys, zs, ex, hq, hq2, hq3, q⟩ := q1
  subst ex
  cases r1 with
  | cons r rr => cases rr with
    | cons r' rr => cases rr with
      | cons r2 rr =>
        cases rr
        cases r
        cases r'
        cases r2
        obtain ⟨its, rv, con, hlt⟩ := inv_K I1 hq
        obtain ⟨its2, rv2, con2, hlt2⟩ := inv_K I1 hq2
        obtain ⟨its3, rv3, con3, hlt3⟩ := inv_K I1 hq3
        refine zip_begins3 (begK k a its.toArray) (begK k2 b its2.toArray) (begK k3 c its3.toArray) con con2 con3 fun h' hz hTI hTO h1 h2 h3 hsz hk => wpAny_pyIter_zip hz ?_
        have I2 : Inv X pins σ H1 { s1 with heap := h' } := I1.kept (t' := s1.toks) hk
        refine ⟨s1.heap.objs.size + 5, [s1.heap.objs.size + 5, s1.heap.objs.size + 3, s1.heap.objs.size + 4, s1.heap.objs.size, s1.heap.objs.size + 1, s1.heap.objs.size + 2], _, _, H1, rfl, I2, turn_zip3 k k2 k3 a b c _ _ _ _ _ _ (zip_sep3 (fun d hd => ?_) (fun d hd => ?_) (fun d hd => ?_)) (Nat.ne_of_lt hlt) (Nat.ne_of_lt (Nat.lt_succ_of_lt hlt2)) (Nat.ne_of_lt (Nat.lt_succ_of_lt (Nat.lt_succ_of_lt hlt3))),
          ⟨hz, hTI, ⟨_, _, _, hTO⟩, itK_new h1, itK_new h2, itK_new h3⟩, fun d hcm => ?_, q⟩
        · rw [List.mem_singleton.mp hd]; exact hlt
        · rw [List.mem_singleton.mp hd]; exact hlt2
        · rw [List.mem_singleton.mp hd]; exact hlt3
        · have hle : s1.heap.objs.size ≤ d := by
            have e' : d = s1.heap.objs.size + 5 ∨ d = s1.heap.objs.size + 3 ∨ d = s1.heap.objs.size + 4 ∨ d = s1.heap.objs.size ∨ d = s1.heap.objs.size + 1 ∨ d = s1.heap.objs.size + 2 := by simpa using hcm
            rcases e' with z | z | z | z | z | z
            · rw [z]; exact Nat.le_add_right _ _
            · rw [z]; exact Nat.le_add_right _ _
            · rw [z]; exact Nat.le_add_right _ _
            · rw [z]; exact Nat.le_refl _
            · rw [z]; exact Nat.le_add_right _ _
            · rw [z]; exact Nat.le_add_right _ _
          exact I1.fpOk hle (I1.hok.fresh hle)
end

/-! ### iterables as denotations -/
/-- the list or tuple that a value is, with what guards it -/
def asG (S : Store) (d : D) : Option (List D × Option (Nat × O)) := match d with
  | .ref n => match S[n]? with
    | some (.lst xs) => some (xs, some (n, .lst xs))
    | _ => none
  | d => (asQ S d).map fun xs => (xs, none)
def iSeq (f : Den) : DenI := fun ρ S => rbind (f ρ S) fun d S1 => match asG S1 d with
  | some (xs, g) => .ok ⟨xs, g⟩ S1
  | none => .bad
section
variable {G : Gx} {α : List Addr} {H : Hp} {S : Store} {d : D} {v : V} {xs : List D} {g : Option (Nat × O)}
/-- what a source is, now and later -/
def SrcOk (G : Gx) (α : List Addr) (H : Hp) (k : Sk) (a : Addr) (xs : List D) (g : Option (Nat × O)) : Prop :=
  ∀ α2 H2 S2, Nxt α H α2 H2 → RelS G α2 H2 S2 → grdOk g S2 → ∃ vs, SqK G.K H2 k a vs ∧ Reps G α2 H2 xs vs
theorem src_size {K : PySem.W.Frag} {G : Gx} {α : List Addr} {H : Hp} {k : Sk} {a : Addr} {xs : List D} {vs : List V} (b : Bnd K H) (h : SqK K H k a vs) (r : Reps G α H xs vs) : xs.length ≤ sizeLine := by
  rw [r.length]
  cases k with
  | l => exact b a vs (.inl h)
  | t => exact b a vs (.inr h)
theorem asG_src (hS : RelS G α H S) (r : Rep G α H d v) (e : asG S d = some (xs, g)) : ∃ k a, v = .ref a ∧ SrcOk G α H k a xs g ∧ grdOk g S := by
  cases r with
  | lst h n r =>
    simp [asG, asQ] at e
    obtain ⟨rfl, rfl⟩ := e
    exact ⟨.l, _, rfl, fun α2 H2 S2 nx rs _ => ⟨_, SqL.of (nx.keep _ _ h n).1, r.mono nx⟩, trivial⟩
  | tup h r =>
    simp [asG, asQ] at e
    obtain ⟨rfl, rfl⟩ := e
    exact ⟨.t, _, rfl, fun α2 H2 S2 nx rs _ => ⟨_, Rep.sqT (h.imp (fun z => z.mono nx) id), r.mono nx⟩, trivial⟩
  | rol h =>
    simp [asG, asQ] at e
    obtain ⟨rfl, rfl⟩ := e
    exact ⟨.l, _, rfl, fun α2 H2 S2 nx rs _ => ⟨_, Rep.sqL (h.imp (fun z => z.mono nx) id), Reps.ofInts _⟩, trivial⟩
  | @ref n a h =>
    unfold asG at e
    simp only at e
    split at e
    · rename_i ys q
      cases e
      refine ⟨.l, _, rfl, fun α2 H2 S2 nx rs hg => ?_, q⟩
      obtain ⟨vs, h1, h2⟩ := rs.cell (nx.at h) hg
      exact ⟨vs, SqL.of h1, h2⟩
    · cases e
  | _ => simp [asG, asQ] at e
end
def ItK (K : PySem.W.Frag) : Sk → Addr → It
  | .l, a => Itl K a
  | .t, a => Itt K a
theorem itK_go {K : PySem.W.Frag} {H : Hp} {k : Sk} {a : Addr} {vs : List V} {i : Nat} (h : SqK K H k a vs) :
    (∀ v, vs[i]? = some v → (ItK K k a).go i H ∧ ∀ x H3, (ItK K k a).yld i H x H3 → H3 = H ∧ x = v) ∧ (vs.length ≤ i → (ItK K k a).stop i H) := by
  cases k with
  | l =>
    refine ⟨fun v e => ⟨⟨vs, v, h, e⟩, fun x H3 y => ⟨y.1, ?_⟩⟩, fun hl => ⟨vs, h, hl⟩⟩
    have := y.2 vs h
    rw [e] at this; cases this; rfl
  | t =>
    refine ⟨fun v e => ⟨⟨vs, v, h, e⟩, fun x H3 y => ⟨y.1, ?_⟩⟩, fun hl => ⟨vs, h, hl⟩⟩
    have := y.2 vs h
    rw [e] at this; cases this; rfl
def iSeqK (K : PySem.W.Frag) (tl : TE) : TI := fun σ H R => tl σ H fun x H1 => ∃ k a, x = .ref a ∧ (∃ xs, SqK K H1 k a xs) ∧ R (ItK K k a) H1
section
variable {X : Cx} {W : WK} {tg : Expr}
theorem pi_seqK {l : Expr} {tl : TE} (hl : PE X l tl) : PI X tg l (iSeqK X.K tl) := by
  refine ⟨fun pins s σ H R I h => ?_⟩
  refine thn (hl.run pins s σ H _ I h) fun v s1 ⟨x, H1, I1, r1, q1⟩ => ?_
  obtain ⟨k, a, e, ⟨xs, hq⟩, q⟩ := q1
  subst e
  cases r1
  cases k with
  | l =>
    obtain ⟨its, rv, p, hz⟩ := I1.list hq
    refine wpAny_pyIter_list p.isList ?_
    refine ⟨s1.heap.objs.size, [s1.heap.objs.size], _, _, H1, rfl, I1.kept (t' := s1.toks) fun b o e => Heap.get?_push_of_some _ e, turn_list a _, ⟨_, Heap.get?_push_size _ rfl, rfl, rfl⟩, fun b hb => ?_, q⟩
    have e : b = s1.heap.objs.size := by simpa using hb
    subst e
    exact I1.fpOk (Nat.le_refl _) (I1.hok.fresh (Nat.le_refl _))
  | t =>
    obtain ⟨its, rv, p, hz⟩ := I1.tuple hq
    refine wpAny_pyIter_tuple (show s1.heap.IsTuple a its.toArray from p) ?_
    refine ⟨s1.heap.objs.size, [s1.heap.objs.size], _, _, H1, rfl, I1.kept (t' := s1.toks) fun b o e => Heap.get?_push_of_some _ e, turn_tuple a _, ⟨_, Heap.get?_push_size _ rfl, rfl, rfl⟩, fun b hb => ?_, q⟩
    have e : b = s1.heap.objs.size := by simpa using hb
    subst e
    exact I1.fpOk (Nat.le_refl _) (I1.hok.fresh (Nat.le_refl _))
theorem si_seq {e : Expr} {f : Den} (h : SE X W e f) : SI X W tg e (iSeq f) := by
  refine si_of (pi_seqK h) fun σ H R hb ⟨α, ρ, S, hE, hS, h⟩ => ?_
  refine td_bind hE hS h fun d S1 α1 H1 v n1 hE1 s1 b1 r1 h => ?_
  split at h
  · rename_i xs g e1
    obtain ⟨k, a, rfl, src, hg⟩ := asG_src s1 r1 e1
    obtain ⟨vs, hq, rq⟩ := src α1 H1 S1 .refl s1 hg
    refine ⟨k, a, rfl, ⟨vs, hq⟩, h α1 H1 _ .refl s1 ⟨src_size b1 hq rq, fun α2 H2 S2 n2 s2 g2 i => ?_⟩⟩
    obtain ⟨vs, hq, rr⟩ := src α2 H2 S2 n2 s2 g2
    obtain ⟨go, stop⟩ := itK_go (i := i) hq
    refine ⟨fun d hd => ?_, fun hl => stop (by rw [← rr.length]; exact Nat.le_of_eq hl.symm)⟩
    obtain ⟨v, hv, rv⟩ := rr.get hd
    obtain ⟨g1, g2⟩ := go v hv
    refine ⟨g1, fun x H3 y => ?_⟩
    obtain ⟨rfl, rfl⟩ := g2 x H3 y
    exact ⟨.refl, s2, rv⟩
  · exact h.elim
/-- enumerate, zip -/
def enumL (xs : List D) : List D := xs.zipIdx.map fun p => D.tup [.int (p.2 : Nat), p.1]
def zipL (xs ys : List D) : List D := (xs.zip ys).map fun p => D.tup [p.1, p.2]
def zip3L (xs ys zs : List D) : List D := (xs.zip (ys.zip zs)).map fun p => D.tup [p.1, p.2.1, p.2.2]
def iEnum (f : Den) : DenI := fun ρ S => rbind (f ρ S) fun d S1 => match asG S1 d with
  | some (xs, g) => .ok ⟨enumL xs, g⟩ S1
  | none => .bad
theorem rep_pair {G : Gx} {α : List Addr} {H : Hp} {S : Store} {T : Addr} {xs : List D} {vs : List V} (hS : RelS G α H S) (hT : H T = none) (r : Reps G α H xs vs) :
    Nxt α H α (upd H T (.tup vs)) ∧ RelS G α (upd H T (.tup vs)) S ∧ Rep G α (upd H T (.tup vs)) (.tup xs) (.ref T) := by
  obtain ⟨n, rs⟩ := hS.laid (u := .tup vs) hT
  exact ⟨n, rs, .tup (.inl ⟨.inl upd_same, hS.new hT⟩) (r.mono n)⟩
theorem si_enum {e : Expr} {f : Den} {p pos tpos : Pos} {elts : List Expr} {kk : Nat} (hg : Gl X "enumerate") (hm : X.mg "enumerate" = none) (he : SE X W e f) (hs : starEach [e] X.env = [(false, eval e X.env)] := by rfl) :
    SI X W (.Tuple elts kk tpos) (.Call (.Name "enumerate" p) [e] [] pos) (iEnum f) := by
  refine si_of (pi_enumK hg hm (pa_cons he pa_nil hs) hs) fun σ H R hb ⟨α, ρ, S, hE, hS, h⟩ => ?_
  refine td_bind hE hS h fun d S1 α1 H1 v n1 hE1 s1 b1 r1 h => ?_
  split at h
  · rename_i xs g e1
    obtain ⟨k, a, rfl, src, hg⟩ := asG_src s1 r1 e1
    obtain ⟨vs, hq, rq⟩ := src α1 H1 S1 .refl s1 hg
    refine ⟨k, a, vs, rfl, hq, h α1 H1 _ .refl s1 ⟨by simp only [enumL, List.length_map, List.length_zipIdx]; exact src_size b1 hq rq, fun α2 H2 S2 n2 s2 g2 i => ?_⟩⟩
    obtain ⟨vs, hq, rr⟩ := src α2 H2 S2 n2 s2 g2
    have hl := rr.length
    refine ⟨fun d hd => ?_, fun hi => ⟨vs, hq, by simp [enumL] at hi; omega⟩⟩
    · unfold enumL at hd
      rw [List.getElem?_map, List.getElem?_zipIdx] at hd
      cases hx : xs[i]? with
      | none => rw [hx] at hd; simp at hd
      | some x =>
        rw [hx] at hd
        simp at hd
        subst hd
        obtain ⟨v, hv, rv⟩ := rr.get hx
        refine ⟨⟨vs, v, hq, hv⟩, fun y H3 hy => ?_⟩
        obtain ⟨T, v', rfl, hT, rfl, hv'⟩ := hy
        have := hv' vs hq
        rw [hv] at this
        cases this
        exact rep_pair s2 hT (.cons (.int _) (.cons rv .nil))
  · exact h.elim
/-- both guards: at most one source may be a cell -/
def both : Option (Nat × O) → Option (Nat × O) → Option (Option (Nat × O))
  | none, g => some g
  | g, none => some g
  | _, _ => none
theorem both_ok {g1 g2 g : Option (Nat × O)} {S : Store} (e : both g1 g2 = some g) (h : grdOk g S) : grdOk g1 S ∧ grdOk g2 S := by
  cases g1 with
  | none => simp [both] at e; subst e; exact ⟨trivial, h⟩
  | some a => cases g2 with
    | none => simp [both] at e; subst e; exact ⟨h, trivial⟩
    | some b => simp [both] at e
theorem both_of {g1 g2 g : Option (Nat × O)} {S : Store} (e : both g1 g2 = some g) (h1 : grdOk g1 S) (h2 : grdOk g2 S) : grdOk g S := by
  cases g1 with
  | none => simp [both] at e; subst e; exact h2
  | some a => cases g2 with
    | none => simp [both] at e; subst e; exact h1
    | some b => simp [both] at e
def iZip (f1 f2 : Den) : DenI := fun ρ S => rbind (f1 ρ S) fun d S1 => rbind (f2 ρ S1) fun d2 S2 => match asG S2 d, asG S2 d2 with
  | some (xs, g), some (ys, g') => match both g g' with
    | some g2 => .ok ⟨zipL xs ys, g2⟩ S2
    | none => .bad
  | _, _ => .bad
theorem si_zip {e e2 : Expr} {f f2 : Den} {p pos tpos : Pos} {elts : List Expr} {kk : Nat} (hg : Gl X "zip") (hm : X.mg "zip" = none) (he : SE X W e f) (he2 : SE X W e2 f2)
    (hs : starEach [e, e2] X.env = (false, eval e X.env) :: starEach [e2] X.env := by rfl) (hs2 : starEach [e2] X.env = (false, eval e2 X.env) :: starEach [] X.env := by rfl) (hpl : (backTo pos (starEach [e2] X.env)).any (·.1) = false := by rfl) :
    SI X W (.Tuple elts kk tpos) (.Call (.Name "zip" p) [e, e2] [] pos) (iZip f f2) := by
  refine si_of (pi_zipK hg hm (pa_cons he (pa_cons he2 pa_nil hs2) hs) hs hpl) fun σ H R hb ⟨α, ρ, S, hE, hS, h⟩ => ?_
  refine td_bind hE hS h fun d S1 α1 H1 v n1 hE1 s1 b1 r1 h => ?_
  refine td_bind hE1 s1 h fun d2 S2 α2 H2 v2 n2 hE2 s2 b2 r2 h => ?_
  split at h
  · rename_i xs g ys g' e1 e2
    split at h
    · rename_i g2 eb
      obtain ⟨k, a, rfl, src, hg⟩ := asG_src s2 (r1.mono n2) e1
      obtain ⟨k2, b, rfl, src2, hg2⟩ := asG_src s2 r2 e2
      obtain ⟨vs, hq, rq⟩ := src α2 H2 S2 .refl s2 hg
      obtain ⟨us, hq2, _⟩ := src2 α2 H2 S2 .refl s2 hg2
      refine ⟨k, k2, a, b, vs, us, rfl, hq, hq2, h α2 H2 _ .refl s2 ⟨by simp only [zipL, List.length_map, List.length_zip]; exact Nat.le_trans (Nat.min_le_left _ _) (src_size b2 hq rq), fun α3 H3 S3 n3 s3 g3 i => ?_⟩⟩
      obtain ⟨vs, hq, rr⟩ := src α3 H3 S3 n3 s3 (both_ok eb g3).1
      obtain ⟨us, hq2, rr2⟩ := src2 α3 H3 S3 n3 s3 (both_ok eb g3).2
      have hl := rr.length
      have hl2 := rr2.length
      refine ⟨fun d hd => ?_, fun hi => ⟨vs, us, hq, hq2, by simp [zipL] at hi; omega⟩⟩
      unfold zipL at hd
      obtain ⟨p, hp, rfl⟩ : ∃ p, (xs.zip ys)[i]? = some p ∧ D.tup [p.1, p.2] = d := by
        rw [List.getElem?_map] at hd
        cases hx : (xs.zip ys)[i]? with
        | none => rw [hx] at hd; simp at hd
        | some p => rw [hx] at hd; simp at hd; exact ⟨p, rfl, hd⟩
      obtain ⟨hx, hy⟩ : xs[i]? = some p.1 ∧ ys[i]? = some p.2 := by
        rw [List.getElem?_zip_eq_some] at hp; exact hp
      obtain ⟨v, hv, rv⟩ := rr.get hx
      obtain ⟨v2, hv2, rv2⟩ := rr2.get hy
      refine ⟨⟨vs, us, v, v2, hq, hq2, hv, hv2⟩, fun y H4 hy4 => ?_⟩
      obtain ⟨T, v', u', rfl, hT, rfl, hv', hu'⟩ := hy4
      have := hv' vs hq
      rw [hv] at this
      cases this
      have := hu' us hq2
      rw [hv2] at this
      cases this
      exact rep_pair s3 hT (.cons rv (.cons rv2 .nil))
    · exact h.elim
  · exact h.elim
def iZip3D (f1 f2 f3 : Den) : DenI := fun ρ S => rbind (f1 ρ S) fun d S1 => rbind (f2 ρ S1) fun d2 S2 => rbind (f3 ρ S2) fun d3 S3 => match asG S3 d, asG S3 d2, asG S3 d3 with
  | some (xs, none), some (ys, none), some (zs, none) => .ok ⟨zip3L xs ys zs, none⟩ S3
  | _, _, _ => .bad
theorem si_zip3 {e e2 e3 : Expr} {f f2 f3 : Den} {p pos tpos : Pos} {elts : List Expr} {kk : Nat} (hg : Gl X "zip") (hm : X.mg "zip" = none) (he : SE X W e f) (he2 : SE X W e2 f2) (he3 : SE X W e3 f3)
    (hs : starEach [e, e2, e3] X.env = (false, eval e X.env) :: starEach [e2, e3] X.env := by rfl) (hs2 : starEach [e2, e3] X.env = (false, eval e2 X.env) :: starEach [e3] X.env := by rfl) (hs3 : starEach [e3] X.env = (false, eval e3 X.env) :: starEach [] X.env := by rfl) (hpl : (backTo pos (starEach [e2, e3] X.env)).any (·.1) = false := by rfl) :
    SI X W (.Tuple elts kk tpos) (.Call (.Name "zip" p) [e, e2, e3] [] pos) (iZip3D f f2 f3) := by
  refine si_of (pi_zip3 hg hm (pa_cons he (pa_cons he2 (pa_cons he3 pa_nil hs3) hs2) hs) hs hpl) fun σ H R hb ⟨α, ρ, S, hE, hS, h⟩ => ?_
  refine td_bind hE hS h fun d S1 α1 H1 v n1 hE1 s1 b1 r1 h => ?_
  refine td_bind hE1 s1 h fun d2 S2 α2 H2 v2 n2 hE2 s2 b2 r2 h => ?_
  refine td_bind hE2 s2 h fun d3 S3 α3 H3 v3 n3 hE3 s3 b3 r3 h => ?_
  split at h
  · rename_i xs ys zs e1 e2 e3
    obtain ⟨k, a, rfl, src, hg⟩ := asG_src s3 ((r1.mono n2).mono n3) e1
    obtain ⟨k2, b, rfl, src2, hg2⟩ := asG_src s3 (r2.mono n3) e2
    obtain ⟨k3, c, rfl, src3, hg3⟩ := asG_src s3 r3 e3
    obtain ⟨vs, hq, rq⟩ := src α3 H3 S3 .refl s3 hg
    obtain ⟨us, hq2, _⟩ := src2 α3 H3 S3 .refl s3 hg2
    obtain ⟨ws, hq3, _⟩ := src3 α3 H3 S3 .refl s3 hg3
    refine ⟨k, k2, k3, a, b, c, vs, us, ws, rfl, hq, hq2, hq3, h α3 H3 _ .refl s3 ⟨by simp only [zip3L, List.length_map, List.length_zip]; exact Nat.le_trans (Nat.min_le_left _ _) (src_size b3 hq rq), fun α4 H4 S4 n4 s4 g4 i => ?_⟩⟩
    obtain ⟨vs, hq, rr⟩ := src α4 H4 S4 n4 s4 trivial
    obtain ⟨us, hq2, rr2⟩ := src2 α4 H4 S4 n4 s4 trivial
    obtain ⟨ws, hq3, rr3⟩ := src3 α4 H4 S4 n4 s4 trivial
    have hl := rr.length
    have hl2 := rr2.length
    have hl3 := rr3.length
    refine ⟨fun d hd => ?_, fun hi => ⟨vs, us, ws, hq, hq2, hq3, by simp [zip3L] at hi; omega⟩⟩
    unfold zip3L at hd
    obtain ⟨p, hp, rfl⟩ : ∃ p, (xs.zip (ys.zip zs))[i]? = some p ∧ D.tup [p.1, p.2.1, p.2.2] = d := by
      rw [List.getElem?_map] at hd
      cases hx : (xs.zip (ys.zip zs))[i]? with
      | none => rw [hx] at hd; simp at hd
      | some p => rw [hx] at hd; simp at hd; exact ⟨p, rfl, hd⟩
    rw [List.getElem?_zip_eq_some] at hp
    obtain ⟨hx, hp⟩ := hp
    rw [List.getElem?_zip_eq_some] at hp
    obtain ⟨hy, hz⟩ := hp
    obtain ⟨v, hv, rv⟩ := rr.get hx
    obtain ⟨v2, hv2, rv2⟩ := rr2.get hy
    obtain ⟨v3, hv3, rv3⟩ := rr3.get hz
    refine ⟨⟨vs, us, ws, v, v2, v3, hq, hq2, hq3, hv, hv2, hv3⟩, fun y H5 hy5 => ?_⟩
    obtain ⟨T, v', u', w', rfl, hT, rfl, hv', hu', hw'⟩ := hy5
    have := hv' vs hq
    rw [hv] at this
    cases this
    have := hu' us hq2
    rw [hv2] at this
    cases this
    have := hw' ws hq3
    rw [hv3] at this
    cases this
    exact rep_pair s4 hT (.cons rv (.cons rv2 (.cons rv3 .nil)))
  · exact h.elim
/-- range -/
def rangeL (lo : Int) (n : Nat) : List D := (List.range n).map fun i => D.int (lo + (i : Nat))
def okR1 (j : Int) : Bool := decide (-(2 ^ 62) ≤ j ∧ j ≤ 16777216)
def okR2 (i j : Int) : Bool := decide ((-(2 ^ 62) ≤ i ∧ i < 2 ^ 62 ∧ -(2 ^ 62) ≤ j ∧ j < 2 ^ 62) ∧ j - i ≤ 16777216)
def iRange1 (f : Den) : DenI := fun ρ S => rbind (f ρ S) fun d S1 => match d with
  | .int j => if okR1 j = true then .ok ⟨rangeL 0 j.toNat, none⟩ S1 else .bad
  | _ => .bad
def iRange2 (f f2 : Den) : DenI := fun ρ S => rbind (f ρ S) fun d S1 => rbind (f2 ρ S1) fun d2 S2 => match d, d2 with
  | .int i, .int j => if okR2 i j = true then .ok ⟨rangeL i (j - i).toNat, none⟩ S2 else .bad
  | _, _ => .bad
theorem good_range {G : Gx} {α : List Addr} {H : Hp} {lo : Int} {n : Nat} (hz : n ≤ 16777216) : GoodIt G α H ⟨rangeL lo n, none⟩ (Itr lo n) := by
  refine ⟨by simp only [rangeL, List.length_map, List.length_range]; rw [sizeLine_eq]; exact hz, fun α2 H2 S2 n2 s2 g2 i => ?_⟩
  refine ⟨fun d hd => ?_, fun hi => by simp [rangeL] at hi; subst hi; exact Nat.le_refl _⟩
  simp only [rangeL, List.getElem?_map] at hd
  cases hx : (List.range n)[i]? with
  | none => rw [hx] at hd; simp at hd
  | some j =>
    rw [hx] at hd
    simp at hd
    have hi : i < n := by have := (List.getElem?_eq_some_iff.mp hx).1; simpa using this
    have hj : j = i := by
      rw [List.getElem?_range hi] at hx
      cases hx; rfl
    subst hj
    subst hd
    refine ⟨hi, fun x H3 y => ?_⟩
    obtain ⟨rfl, rfl⟩ := y
    exact ⟨.refl, s2, .int _⟩
theorem si_range1 {e : Expr} {f : Den} {p pos : Pos} (hg : Gl X "range") (hm : X.mg "range" = none) (he : SE X W e f) (hs : starEach [e] X.env = [(false, eval e X.env)] := by rfl) :
    SI X W tg (.Call (.Name "range" p) [e] [] pos) (iRange1 f) := by
  refine si_of (pi_range1 hg hm (pa_cons he pa_nil hs) hs) fun σ H R hb ⟨α, ρ, S, hE, hS, h⟩ => ?_
  refine td_bind hE hS h fun d S1 α1 H1 v n1 hE1 s1 b1 r1 h => ?_
  simp only at h
  split at h
  · cases r1
    split at h
    · rename_i j hj
      replace hj := of_decide_eq_true (p := -(2 ^ 62) ≤ j ∧ j ≤ 16777216) hj
      exact ⟨_, rfl, hj.1, by omega, h α1 H1 _ .refl s1 (good_range (by omega))⟩
    · exact h.elim
  · exact h.elim
theorem si_range2 {e e2 : Expr} {f f2 : Den} {p pos : Pos} (hg : Gl X "range") (hm : X.mg "range" = none) (he : SE X W e f) (he2 : SE X W e2 f2) (hs : starEach [e, e2] X.env = [(false, eval e X.env), (false, eval e2 X.env)] := by rfl) (hs2 : starEach [e2] X.env = [(false, eval e2 X.env)] := by rfl) :
    SI X W tg (.Call (.Name "range" p) [e, e2] [] pos) (iRange2 f f2) := by
  refine si_of (pi_range2 hg hm (pa_cons he (pa_cons he2 pa_nil hs2) (by rw [hs, hs2])) hs hs2) fun σ H R hb ⟨α, ρ, S, hE, hS, h⟩ => ?_
  refine td_bind hE hS h fun d S1 α1 H1 v n1 hE1 s1 b1 r1 h => ?_
  refine td_bind hE1 s1 h fun d2 S2 α2 H2 v2 n2 hE2 s2 b2 r2 h => ?_
  simp only at h
  split at h
  · cases r1
    cases r2
    split at h
    · rename_i hj
      replace hj := of_decide_eq_true (p := (_ ∧ _ ∧ _ ∧ _) ∧ _) hj
      exact ⟨_, _, rfl, hj.1, h α2 H2 _ .refl s2 (good_range (by omega))⟩
    · exact h.elim
  · exact h.elim
end
end Dn

set_option maxHeartbeats 4000000
namespace Dn
open PySem PySem.Spec PyProof.Rows L2

/-! ### dropping cells: lists that nobody else holds become values -/
mutual
def frzD (k : Nat) (g : Nat → Option D) : D → Option D
  | .ref n => if n < k then some (.ref n) else g n
  | .tup xs => (frzDs k g xs).map D.tup
  | .lst xs => (frzDs k g xs).map D.lst
  | .non => some .non
  | .bl b => some (.bl b)
  | .int i => some (.int i)
  | .str x => some (.str x)
  | .rol xs => some (.rol xs)
def frzDs (k : Nat) (g : Nat → Option D) : List D → Option (List D)
  | [] => some []
  | d :: ds => match frzD k g d, frzDs k g ds with
    | some x, some xs => some (x :: xs)
    | _, _ => none
end
def frzN (S : Store) (k : Nat) : Nat → Nat → Option D
  | 0, _ => none
  | f + 1, n => match S[n]? with
    | some (.lst xs) => (frzDs k (frzN S k f) xs).map D.lst
    | _ => none
def frz (S : Store) (k : Nat) (d : D) : Option D := frzD k (frzN S k 8) d
mutual
def pureD : D → Bool
  | .ref _ => false
  | .tup xs => pureDs xs
  | .lst xs => pureDs xs
  | _ => true
def pureDs : List D → Bool
  | [] => true
  | d :: ds => pureD d && pureDs ds
end
mutual
theorem frzD_pure (k : Nat) (g : Nat → Option D) : ∀ d, pureD d = true → frzD k g d = some d
  | .ref n, h => by simp [pureD] at h
  | .tup xs, h => by unfold frzD; rw [frzDs_pure k g xs (by simpa [pureD] using h)]; rfl
  | .lst xs, h => by unfold frzD; rw [frzDs_pure k g xs (by simpa [pureD] using h)]; rfl
  | .non, h => rfl
  | .bl b, h => rfl
  | .int i, h => rfl
  | .str x, h => rfl
  | .rol xs, h => rfl
theorem frzDs_pure (k : Nat) (g : Nat → Option D) : ∀ ds, pureDs ds = true → frzDs k g ds = some ds
  | [], _ => rfl
  | d :: ds, h => by
    have h' : pureD d = true ∧ pureDs ds = true := by simpa [pureDs] using h
    unfold frzDs
    rw [frzD_pure k g d h'.1, frzDs_pure k g ds h'.2]
end
def pureO : O → Bool
  | .lst xs => pureDs xs
  | .dI _ xs => pureDs xs
  | .fI _ xs => pureDs xs
  | .dT _ xs => pureDs xs
  | .ins _ _ xs => pureDs xs
def keepOk (S1 S' : Store) : Prop := ∀ i o, i < S1.length → S'[i]? = some o → S1[i]? = some o ∨ pureO o = true
open Classical in
noncomputable def dropTo (S1 S' : Store) (d : D) : Res D := match frz S' S1.length d with
  | some d' => if keepOk S1 S' then .ok d' (S'.take S1.length) else .bad
  | none => .bad

section
variable {G : Gx} {α β : List Addr} {H : Hp}
mutual
/-- what is pure stands whatever the cells are called -/
theorem Rep.less (hb : ∀ a, a ∈ β → a ∈ α) : ∀ {d : D} {v : V}, Rep G α H d v → pureD d = true → Rep G β H d v
  | _, _, .non, _ => .non
  | _, _, .bl b, _ => .bl b
  | _, _, .int i, _ => .int i
  | _, _, .str x, _ => .str x
  | _, _, .tup h r, p => .tup (h.imp (fun z => ⟨z.1, fun m => z.2 (hb _ m)⟩) id) (r.less hb (by simpa [pureD] using p))
  | _, _, .lst h n r, p => .lst h (fun m => n (hb _ m)) (r.less hb (by simpa [pureD] using p))
  | _, _, .rol h, _ => .rol (h.imp (fun z => ⟨z.1, fun m => z.2 (hb _ m)⟩) id)
  | _, _, .ref h, p => by simp [pureD] at p
theorem Reps.less (hb : ∀ a, a ∈ β → a ∈ α) : ∀ {ds : List D} {vs : List V}, Reps G α H ds vs → pureDs ds = true → Reps G β H ds vs
  | _, _, .nil, _ => .nil
  | _, _, .cons (d := d) (ds := ds) r t, p => by
    have p' : pureD d = true ∧ pureDs ds = true := by simpa [pureDs] using p
    exact .cons (r.less hb p'.1) (t.less hb p'.2)
end
/- every cell that is named lies lowD k -/
mutual
def lowD (k : Nat) : D → Bool
  | .ref n => decide (n < k)
  | .tup xs => lowDs k xs
  | .lst xs => lowDs k xs
  | _ => true
def lowDs (k : Nat) : List D → Bool
  | [] => true
  | d :: ds => lowD k d && lowDs k ds
end
mutual
theorem Rep.low : ∀ {d : D} {v : V}, Rep G α H d v → lowD α.length d = true
  | _, _, .non => rfl
  | _, _, .bl b => rfl
  | _, _, .int i => rfl
  | _, _, .str x => rfl
  | _, _, .tup h r => by simp only [lowD]; exact r.low
  | _, _, .lst h n r => by simp only [lowD]; exact r.low
  | _, _, .rol h => rfl
  | _, _, .ref h => by simp only [lowD]; exact decide_eq_true (List.getElem?_eq_some_iff.mp h).1
theorem Reps.low : ∀ {ds : List D} {vs : List V}, Reps G α H ds vs → lowDs α.length ds = true
  | _, _, .nil => rfl
  | _, _, .cons r t => by simp only [lowDs, r.low, t.low]; rfl
end
variable {k : Nat}
theorem take_mem {a : Addr} (m : a ∈ α.take k) : a ∈ α := List.mem_of_mem_take m
mutual
theorem Rep.back : ∀ {d : D} {v : V}, Rep G α H d v → lowD k d = true → Rep G (α.take k) H d v
  | _, _, .non, _ => .non
  | _, _, .bl b, _ => .bl b
  | _, _, .int i, _ => .int i
  | _, _, .str x, _ => .str x
  | _, _, .tup h r, p => .tup (h.imp (fun z => ⟨z.1, fun m => z.2 (take_mem m)⟩) id) (r.back (by simpa [lowD] using p))
  | _, _, .lst h n r, p => .lst h (fun m => n (take_mem m)) (r.back (by simpa [lowD] using p))
  | _, _, .rol h, _ => .rol (h.imp (fun z => ⟨z.1, fun m => z.2 (take_mem m)⟩) id)
  | _, _, .ref h, p => .ref (by rw [List.getElem?_take]; rw [if_pos (by simpa [lowD] using p)]; exact h)
theorem Reps.back : ∀ {ds : List D} {vs : List V}, Reps G α H ds vs → lowDs k ds = true → Reps G (α.take k) H ds vs
  | _, _, .nil, _ => .nil
  | _, _, .cons (d := d) (ds := ds) r t, p => by
    have p' : lowD k d = true ∧ lowDs k ds = true := by simpa [lowDs] using p
    exact .cons (r.back p'.1) (t.back p'.2)
end
theorem nd_take (nd : α.Nodup) {n : Nat} {a : Addr} (h : α[n]? = some a) (hk : ¬ n < k) : a ∉ α.take k := fun m => by
  obtain ⟨j, hj, e⟩ := List.getElem_of_mem m
  rw [List.length_take] at hj
  rw [List.getElem_take] at e
  obtain ⟨hn, e2⟩ := List.getElem?_eq_some_iff.mp h
  have := (List.getElem_inj nd).mp (e.trans e2.symm)
  omega
variable {S : Store}
mutual
theorem Rep.frz {g : Nat → Option D} (hg : ∀ n d' a, g n = some d' → α[n]? = some a → ¬ n < k → Rep G (α.take k) H d' (.ref a)) : ∀ {d : D} {v : V} {d' : D}, Rep G α H d v → frzD k g d = some d' → Rep G (α.take k) H d' v
  | _, _, d', .non, e => by simp [frzD] at e; subst e; exact .non
  | _, _, d', .bl b, e => by simp [frzD] at e; subst e; exact .bl b
  | _, _, d', .int b, e => by simp [frzD] at e; subst e; exact .int b
  | _, _, d', .str b, e => by simp [frzD] at e; subst e; exact .str b
  | _, _, d', .rol h, e => by simp [frzD] at e; subst e; exact .rol (h.imp (fun z => ⟨z.1, fun m => z.2 (take_mem m)⟩) id)
  | _, _, d', .tup h r, e => by
    unfold frzD at e
    obtain ⟨ys, e1, rfl⟩ := Option.map_eq_some_iff.mp e
    exact .tup (h.imp (fun z => ⟨z.1, fun m => z.2 (take_mem m)⟩) id) (r.frz hg e1)
  | _, _, d', .lst h n r, e => by
    unfold frzD at e
    obtain ⟨ys, e1, rfl⟩ := Option.map_eq_some_iff.mp e
    exact .lst h (fun m => n (take_mem m)) (r.frz hg e1)
  | _, _, d', .ref (n := n) h, e => by
    unfold frzD at e
    split at e
    · rename_i hk
      cases e
      exact .ref (by rw [List.getElem?_take, if_pos hk]; exact h)
    · rename_i hk
      exact hg n d' _ e h hk
theorem Reps.frz {g : Nat → Option D} (hg : ∀ n d' a, g n = some d' → α[n]? = some a → ¬ n < k → Rep G (α.take k) H d' (.ref a)) : ∀ {ds : List D} {vs : List V} {ds' : List D}, Reps G α H ds vs → frzDs k g ds = some ds' → Reps G (α.take k) H ds' vs
  | _, _, ds', .nil, e => by simp [frzDs] at e; subst e; exact .nil
  | _, _, ds', .cons r t, e => by
    unfold frzDs at e
    split at e
    · rename_i x xs e1 e2
      cases e
      exact .cons (r.frz hg e1) (t.frz hg e2)
    · cases e
end
theorem frzN_rep (hS : RelS G α H S) : ∀ (f n : Nat) (d' : D) (a : Addr), frzN S k f n = some d' → α[n]? = some a → ¬ n < k → Rep G (α.take k) H d' (.ref a)
  | 0, n, d', a, e, _, _ => by simp [frzN] at e
  | f + 1, n, d', a, e, h, hk => by
    unfold frzN at e
    split at e
    · rename_i xs q
      obtain ⟨ys, e1, rfl⟩ := Option.map_eq_some_iff.mp e
      obtain ⟨vs, h1, h2⟩ := hS.cell h q
      exact .lst h1 (nd_take hS.nd h hk) (h2.frz (fun m d2 b e2 h3 hk2 => frzN_rep hS f m d2 b e2 h3 hk2) e1)
    · cases e
/-- from a later state back to the cells of an earlier one -/
theorem drop_back {α1 : List Addr} {H1 : Hp} {S1 S' : Store} (n : Nxt α1 H1 α H) (s1 : RelS G α1 H1 S1) (s2 : RelS G α H S') (kp : keepOk S1 S') : Nxt α1 H1 α1 H ∧ RelS G α1 H (S'.take S1.length) ∧ α.take S1.length = α1 := by
  obtain ⟨l, hl⟩ := n.pre
  have ea : α.take S1.length = α1 := by
    rw [hl, ← s1.len]
    simp
  have n1 : Nxt α1 H1 α1 H := ⟨⟨[], by simp⟩, fun a o h m => ⟨(n.keep a o h m).1, m⟩, fun a ob u h => n.fz a ob u h⟩
  refine ⟨n1, ⟨?_, s1.nd, fun i a o h1 h2 => ?_⟩, ea⟩
  · have e1 := s2.len
    rw [hl] at e1
    rw [List.length_take, ← e1, List.length_append, s1.len]
    omega
  · have hi : i < S1.length := by rw [← s1.len]; exact (List.getElem?_eq_some_iff.mp h1).1
    rw [List.getElem?_take, if_pos hi] at h2
    have hr := s2.ob i a o (n.at h1) h2
    have pur : pureO o = true → RepO G α1 H a o := fun p => by
      have hb : ∀ a, a ∈ α1 → a ∈ α := fun a m => by rw [hl]; exact List.mem_append_left _ m
      cases o with
      | lst xs => obtain ⟨vs, q, r⟩ := hr; exact ⟨vs, q, r.less hb p⟩
      | dI ks xs => obtain ⟨vs, q, r, z⟩ := hr; exact ⟨vs, q, r.less hb p, z⟩
      | fI ks xs => obtain ⟨ob, vs, q, r, z⟩ := hr; exact ⟨ob, vs, q, r.less hb p, z⟩
      | dT ks xs => obtain ⟨vs, q, r, z⟩ := hr; exact ⟨vs, q, r.less hb p, z⟩
      | ins c fs xs => obtain ⟨C, dx, vs, m, q, r, z⟩ := hr; exact ⟨C, dx, vs, m, q, r.less hb p, z⟩
    rcases kp i o hi h2 with e | e
    · have hr1 := s1.ob i a o h1 e
      have l1 := s1.len
      cases o with
      | lst xs =>
        obtain ⟨vs, q, r⟩ := hr
        obtain ⟨vs1, q1, r1⟩ := hr1
        have := r1.low
        rw [l1] at this
        exact ⟨vs, q, ea ▸ r.back this⟩
      | dI ks xs =>
        obtain ⟨vs, q, r, z⟩ := hr
        obtain ⟨vs1, q1, r1, _⟩ := hr1
        have := r1.low
        rw [l1] at this
        exact ⟨vs, q, ea ▸ r.back this, z⟩
      | fI ks xs =>
        obtain ⟨ob, vs, q, r, z⟩ := hr
        obtain ⟨ob1, vs1, q1, r1, _⟩ := hr1
        have := r1.low
        rw [l1] at this
        exact ⟨ob, vs, q, ea ▸ r.back this, z⟩
      | dT ks xs =>
        obtain ⟨vs, q, r, z⟩ := hr
        obtain ⟨vs1, q1, r1, _⟩ := hr1
        have := r1.low
        rw [l1] at this
        exact ⟨vs, q, ea ▸ r.back this, z⟩
      | ins c fs xs =>
        obtain ⟨C, dx, vs, m, q, r, z⟩ := hr
        obtain ⟨C1, dx1, vs1, _, q1, r1, _⟩ := hr1
        have := r1.low
        rw [l1] at this
        exact ⟨C, dx, vs, m, q, ea ▸ r.back this, z⟩
    · exact pur e
theorem post_drop {W : XK} {Q : VK} {α1 : List Addr} {H1 : Hp} {S1 S' : Store} {d : D} {v : V} (s1 : RelS G α1 H1 S1) (n : Nxt α1 H1 α H) (s2 : RelS G α H S') (r : Rep G α H d v)
    (h : PostR G W (Rep G) α1 H1 Q (dropTo S1 S' d)) : Q v H := by
  unfold dropTo at h
  split at h
  · rename_i d' e
    split at h
    · rename_i kp
      obtain ⟨n1, rs, ea⟩ := drop_back n s1 s2 kp
      refine h α1 H v n1 rs ?_
      rw [← ea]
      exact r.frz (fun m d2 b e2 h3 hk2 => frzN_rep s2 8 m d2 b e2 h3 hk2) e
    · exact h.elim
  · exact h.elim
end

/-! ### list comprehensions -/
def wipeC (ρ : Env) : List Nat → Env
  | [] => ρ
  | v :: vs => (wipeC ρ vs).set v none
theorem RelE.wipeC {G : Gx} {α : List Addr} {H : Hp} {ρ : Env} {σ : St} (h : RelE G α H ρ σ) : ∀ vs : List Nat, RelE G α H (Dn.wipeC ρ vs) (L2.wipe σ vs)
  | [] => h
  | v :: vs => by
    have ih := h.wipeC vs
    refine ⟨by simp [Dn.wipeC, L2.wipe, ih.len], fun j d e => ?_⟩
    unfold Dn.wipeC at e
    unfold L2.wipe
    by_cases hj : v = j
    · subst hj
      rw [List.getElem?_set] at e
      simp at e
    · rw [List.getElem?_set_ne hj] at e ⊢
      exact ih.at_ j d e
theorem wipe_at {σ : St} {i : Nat} : ∀ {vs : List Nat}, i ∈ vs → i < σ.length → (wipe σ vs)[i]? = some none
  | [], h, _ => by cases h
  | v :: vs, h, hl => by
    unfold wipe
    by_cases e : v = i
    · subst e
      rw [List.getElem?_set_self (by rw [wipe_length]; exact hl)]
    · rw [List.getElem?_set_ne e]
      exact wipe_at (by rcases List.mem_cons.mp h with q | q; exact absurd q.symm e; exact q) hl
theorem wipe_same {σ σ2 : St} {vs sl : List Nat} (hl : σ2.length = σ.length) (hs : ∀ j ∈ sl, j ∈ vs) (hf : ∀ j, j ∉ sl → σ2[j]? = (wipe σ vs)[j]?) : wipe σ2 vs = wipe σ vs := by
  refine List.ext_getElem? fun j => ?_
  by_cases hj : j ∈ vs
  · by_cases hb : j < σ.length
    · rw [wipe_at hj hb, wipe_at hj (by omega)]
    · rw [List.getElem?_eq_none (by rw [wipe_length]; omega), List.getElem?_eq_none (by rw [wipe_length]; omega)]
  · rw [wipe_out hj, hf j (fun m => hj (hs j m))]
mutual
theorem tset_len : ∀ (t : Tgt) (d : D) (ρ ρ' : Env), tset t d ρ = some ρ' → ρ'.length = ρ.length
  | .nm i, d, ρ, ρ', e => by unfold tset at e; cases e; simp
  | .tp ts, .tup ds, ρ, ρ', e => by unfold tset at e; exact tsets_len ts ds ρ ρ' e
  | .tp ts, .non, ρ, ρ', e => by simp [tset] at e
  | .tp ts, .bl _, ρ, ρ', e => by simp [tset] at e
  | .tp ts, .int _, ρ, ρ', e => by simp [tset] at e
  | .tp ts, .str _, ρ, ρ', e => by simp [tset] at e
  | .tp ts, .lst _, ρ, ρ', e => by simp [tset] at e
  | .tp ts, .rol _, ρ, ρ', e => by simp [tset] at e
  | .tp ts, .ref _, ρ, ρ', e => by simp [tset] at e
theorem tsets_len : ∀ (ts : List Tgt) (ds : List D) (ρ ρ' : Env), tsets ts ds ρ = some ρ' → ρ'.length = ρ.length
  | [], [], ρ, ρ', e => by simp [tsets] at e; subst e; rfl
  | [], _ :: _, ρ, ρ', e => by simp [tsets] at e
  | _ :: _, [], ρ, ρ', e => by simp [tsets] at e
  | t :: ts, d :: ds, ρ, ρ', e => by
    unfold tsets at e
    cases h : tset t d ρ with
    | none => rw [h] at e; cases e
    | some ρ1 => rw [h] at e; rw [tsets_len ts ds ρ1 ρ' e, tset_len t d ρ ρ1 h]
end
def nox {τ : Type} : Res τ → Res τ
  | .exc _ _ => .bad
  | r => r
def W0 : WK := fun _ _ _ _ => False
theorem post_nox {τ ω τ' ω' : Type} {G : Gx} {W : XK} {σ : St} {α : List Addr} {H : Hp} {rel : List Addr → Hp → τ → ω → Prop} {rel' : List Addr → Hp → τ' → ω' → Prop} {Q : ω' → Hp → Prop} {Q1 : ω → Hp → Prop} {r : Res τ} {k : τ → Store → Res τ'} (h : PostR G W rel' α H Q (rbind (nox r) k))
    (hk : ∀ d S1 α1 H1 v, Nxt α H α1 H1 → RelS G α1 H1 S1 → rel α1 H1 d v → PostR G W rel' α1 H1 Q (k d S1) → Q1 v H1) : PostR G (Wat W0 σ) rel α H Q1 r := by
  cases r with
  | ok d S => exact fun a b v n2 rs rp => hk d S a b v n2 rs rp (PostR.step n2 h)
  | exc e S => exact h.elim
  | bad => exact h
def xYes : DenT := fun _ S => .ok true S
open Classical in
noncomputable def lcGo (t : Tgt) (ft : DenT) (fe : Den) (grd : Option (Nat × O)) (m : Nat) (ρ : Env) : List D → List D → Store → Res Unit
  | [], _, S => if grdOk grd S then .ok () S else .bad
  | x :: xs, acc, S => if grdOk grd S then match tset t x ρ with
      | none => .bad
      | some ρ1 => rbind (nox (ft ρ1 S)) fun b S2 => if b = true then rbind (nox (fe ρ1 S2)) fun d S3 => if S3[m]? = some (.lst acc) then lcGo t ft fe grd m ρ xs (acc ++ [d]) (S3.set m (.lst (acc ++ [d]))) else .bad
        else if S2[m]? = some (.lst acc) then lcGo t ft fe grd m ρ xs acc S2 else .bad
    else .bad
noncomputable def nLc (it : DenI) (vs : List Nat) (t : Tgt) (ft : DenT) (fe : Den) : Den := fun ρ S => rbind (it ρ S) fun i S1 => rbind (lcGo t ft fe i.grd S1.length (wipeC ρ vs) i.xs [] (S1 ++ [.lst []])) fun _ S2 => .ok (.ref S1.length) S2
noncomputable def dLc (it : DenI) (vs : List Nat) (t : Tgt) (ft : DenT) (fe : Den) : Den := fun ρ S => rbind (it ρ S) fun i S1 => rbind (lcGo t ft fe i.grd S1.length (wipeC ρ vs) i.xs [] (S1 ++ [.lst []])) fun _ S2 => dropTo S1 S2 (.ref S1.length)
abbrev STs (X : Cx) (W : WK) (ifs : List Expr) (f : DenT) : Prop := PTs X ifs (TDT (gxOf X) W f)
section
variable {X : Cx} {W : WK}
theorem pts_of {ifs : List Expr} {t t' : TT} (h : PTs X ifs t) (k : ∀ σ H Q, Bnd X.K H → t' σ H Q → t σ H (fun b H' => Bnd X.K H' → Q b H')) : PTs X ifs t' :=
  ⟨fun pins s σ H Q I hw => thn (h.run pins s σ H _ I (k σ H Q (inv_bnd I) hw)) fun v s1 ⟨H1, I1, q1⟩ => ⟨H1, I1, q1 (inv_bnd I1)⟩⟩
theorem sts_nil : STs X W [] xYes := pts_of pts_nil fun σ H Q hb ⟨α, ρ, S, hE, hS, h⟩ => h α H true .refl hS rfl
theorem sts_one {c : Expr} {f : DenT} (h : SX X W c f) : STs X W [c] f := pts_one h
/-- the turns, once the iterator and the new list stand -/
theorem lc_turns {J : It} {t : Tgt} {ft : DenT} {fe : Den} {vs : List Nat} {σ : St} {H1 : Hp} {α1 : List Addr} {S1 : Store} {ρ : Env} {it : Itm} {Dl : Addr} {V1 : XK} {Q : Unit → Hp → Prop} {Qd : Hp → Prop} (hE : RelE (gxOf X) α1 H1 ρ σ) (hS : RelS (gxOf X) α1 H1 S1) (hit : GoodIt (gxOf X) α1 H1 it J) (hD : H1 Dl = none)
    (hsl : ∀ j ∈ t.slots, j ∈ vs) (h : PostR (gxOf X) V1 (fun _ _ _ _ => True) (α1 ++ [Dl]) (upd H1 Dl (.lst [])) Q (lcGo t ft fe it.grd S1.length (wipeC ρ vs) it.xs [] (S1 ++ [.lst []]))) (hQ : ∀ H, Q () H → Bnd X.K H → Qd H) :
    ∃ Wv : Nat → Nat → Hp → Prop, (∃ m, Wv 0 m (upd H1 Dl (.lst []))) ∧ ∀ i m H, Wv i m H → (J.stop i H ∧ (Bnd X.K H → Qd H)) ∨ (J.go i H ∧ ∃ Nx : Hp → Prop, (∀ H', Nx H' → ∃ m', m' < m ∧ Wv (i + 1) m' H') ∧ ∀ x H', J.yld i H x H' → TDG (gxOf X) t x (wipe σ vs) H' fun σ2 H2 => wipe σ2 vs = wipe σ vs ∧ TDT (gxOf X) W0 ft σ2 H2 fun b H3 =>
      if b = true then TD (gxOf X) W0 fe σ2 H3 fun y H4 => ∃ acc, H4 Dl = some (.lst acc) ∧ acc.length < sizeLine ∧ Nx (upd H4 Dl (.lst (acc ++ [y]))) else Nx H3) := by
  obtain ⟨n0, s0⟩ := hS.push (u := .lst []) (o := .lst []) hD fun n => ⟨[], upd_same, .nil⟩
  have hE0 : RelE (gxOf X) (α1 ++ [Dl]) (upd H1 Dl (.lst [])) (wipeC ρ vs) (wipe σ vs) := (hE.mono n0).wipeC vs
  have hm0 : (α1 ++ [Dl])[S1.length]? = some Dl := hS.newAt Dl
  refine ⟨fun i k H => ∃ α2 S2 acc, Nxt (α1 ++ [Dl]) (upd H1 Dl (.lst [])) α2 H ∧ RelS (gxOf X) α2 H S2 ∧ i ≤ it.xs.length ∧ k = it.xs.length - i ∧ S2[S1.length]? = some (.lst acc) ∧ acc.length ≤ i ∧
      PostR (gxOf X) V1 (fun _ _ _ _ => True) α2 H Q (lcGo t ft fe it.grd S1.length (wipeC ρ vs) (it.xs.drop i) acc S2),
    ⟨it.xs.length - 0, α1 ++ [Dl], S1 ++ [O.lst []], [], .refl, s0, Nat.zero_le _, rfl, by simp, Nat.le_refl _, by rw [List.drop_zero]; exact h⟩, ?_⟩
  rintro i k H ⟨α2, S2, acc, n2, s2, hi, rfl, hcell, hacc, h⟩
  by_cases hlt : i < it.xs.length
  · right
    rw [List.drop_eq_getElem_cons hlt] at h
    unfold lcGo at h
    split at h
    · rename_i hgrd
      obtain ⟨go, stop⟩ := hit.2 α2 H S2 (n0.trans n2) s2 hgrd i
      obtain ⟨go, yld⟩ := go it.xs[i] (List.getElem?_eq_getElem hlt)
      refine ⟨go, fun H' => ∃ m', m' < it.xs.length - i ∧ ∃ α2 S2 acc, Nxt (α1 ++ [Dl]) (upd H1 Dl (.lst [])) α2 H' ∧ RelS (gxOf X) α2 H' S2 ∧ i + 1 ≤ it.xs.length ∧ m' = it.xs.length - (i + 1) ∧ S2[S1.length]? = some (.lst acc) ∧ acc.length ≤ i + 1 ∧
        PostR (gxOf X) V1 (fun _ _ _ _ => True) α2 H' Q (lcGo t ft fe it.grd S1.length (wipeC ρ vs) (it.xs.drop (i + 1)) acc S2), fun H' q => q, fun x H' hy => ?_⟩
      obtain ⟨n3, s3, r3⟩ := yld x H' hy
      cases ht : tset t it.xs[i] (wipeC ρ vs) with
      | none => rw [ht] at h; exact h.elim
      | some ρ3 =>
        rw [ht] at h
        have hE3 := (hE0.mono n2).mono n3
        refine ⟨α2, wipeC ρ vs, it.xs[i], hE3, r3, ρ3, ht, fun σ3 hE4 hfr => ⟨?_, ?_⟩⟩
        · refine wipe_same (sl := t.slots) ?_ hsl hfr
          rw [← hE4.len, tset_len _ _ _ _ ht, hE3.len, wipe_length]
        · have h := PostR.step n3 h
          simp only at h
          refine ⟨α2, ρ3, S2, hE4, s3, post_nox h fun b S4 α4 H4 b' n4 s4 eb h bb => ?_⟩
          cases eb
          have hE5 := hE4.mono n4
          cases b with
          | true =>
            simp only [if_true] at h ⊢
            refine ⟨α4, ρ3, S4, hE5, s4, post_nox h fun d S5 α5 H5 y n5 s5 ry h b5 => ?_⟩
            split at h
            · rename_i hc5
              have n6 := ((n2.trans n3).trans n4).trans n5
              have hm5 := n6.at hm0
              obtain ⟨us, h1, h2⟩ := s5.cell hm5 hc5
              have hl := h2.length
              have hz := hit.1
              refine ⟨us, h1, by omega, ?_⟩
              obtain ⟨n7, s7⟩ := s5.put (u := .lst (us ++ [y])) (o := .lst (acc ++ [d])) hm5 h1 (fun _ _ e => nomatch e) fun nx => ⟨_, upd_same, (h2.append (.cons ry .nil)).mono nx⟩
              exact ⟨_, by omega, α5, _, acc ++ [d], n6.trans n7, s7, hlt, rfl, by rw [List.getElem?_set_self (List.getElem?_eq_some_iff.mp hc5).1], by simp; omega, PostR.step n7 h⟩
            · exact h.elim
          | false =>
            simp only [Bool.false_eq_true, if_false] at h ⊢
            split at h
            · rename_i hc5
              exact ⟨_, by omega, α4, S4, acc, (n2.trans n3).trans n4, s4, hlt, rfl, hc5, by omega, h⟩
            · exact h.elim
    · exact h.elim
  · left
    have e : i = it.xs.length := by omega
    subst e
    rw [List.drop_length] at h
    unfold lcGo at h
    split at h
    · rename_i hgrd
      obtain ⟨go, stop⟩ := hit.2 α2 H S2 (n0.trans n2) s2 hgrd it.xs.length
      exact ⟨stop rfl, fun b => hQ H (h α2 H () .refl s2 trivial) b⟩
    · exact h.elim
theorem se_nlc {elt tg iter : Expr} {ifs : List Expr} {scope : Scope} {own : List (Str × Nat)} {pos : Pos} {t : Tgt} {fi : DenI} {ft : DenT} {fe : Den}
    (h : PE X (.ListComp elt [⟨tg, iter, ifs, 0⟩] scope pos) (tLc (TDI (gxOf X) W fi) (TDG (gxOf X) t) (TDT (gxOf X) W0 ft) (TD (gxOf X) W0 fe) (own.map (·.2)))) (hsl : ∀ j ∈ t.slots, j ∈ own.map (·.2)) : SE X W (.ListComp elt [⟨tg, iter, ifs, 0⟩] scope pos) (nLc fi (own.map (·.2)) t ft fe) := by
  refine se_of h fun σ H Q hb ⟨α, ρ, S, hE, hS, h⟩ => ?_
  refine ⟨α, ρ, S, hE, hS, post_bind h fun it S1 α1 H1 J n1 s1 hit h b1 Dl hD => ?_⟩
  have hE1 := hE.mono n1
  obtain ⟨n0, s0⟩ := s1.push (u := .lst []) (o := .lst []) hD fun n => ⟨[], upd_same, .nil⟩
  have hm0 : (α1 ++ [Dl])[S1.length]? = some Dl := s1.newAt Dl
  refine lc_turns (V1 := Wat W σ) (Q := fun _ H => Bnd X.K H → Q (.ref Dl) H) (Qd := fun H => Q (.ref Dl) H) hE1 s1 hit hD hsl (post_bind (PostR.step n0 h) fun _ S2 α2 H2 _ n2 s2 _ h => ?_) fun H q b => q b
  exact h α2 H2 _ .refl s2 (.ref (n2.at hm0))
theorem se_dlc {elt tg iter : Expr} {ifs : List Expr} {scope : Scope} {own : List (Str × Nat)} {pos : Pos} {t : Tgt} {fi : DenI} {ft : DenT} {fe : Den}
    (h : PE X (.ListComp elt [⟨tg, iter, ifs, 0⟩] scope pos) (tLc (TDI (gxOf X) W fi) (TDG (gxOf X) t) (TDT (gxOf X) W0 ft) (TD (gxOf X) W0 fe) (own.map (·.2)))) (hsl : ∀ j ∈ t.slots, j ∈ own.map (·.2)) : SE X W (.ListComp elt [⟨tg, iter, ifs, 0⟩] scope pos) (dLc fi (own.map (·.2)) t ft fe) := by
  refine se_of h fun σ H Q hb ⟨α, ρ, S, hE, hS, h⟩ => ?_
  refine ⟨α, ρ, S, hE, hS, post_bind h fun it S1 α1 H1 J n1 s1 hit h b1 Dl hD => ?_⟩
  have hE1 := hE.mono n1
  obtain ⟨n0, s0⟩ := s1.push (u := .lst []) (o := .lst []) hD fun n => ⟨[], upd_same, .nil⟩
  have hm0 : (α1 ++ [Dl])[S1.length]? = some Dl := s1.newAt Dl
  refine lc_turns (V1 := Wat W σ) (Q := fun _ H => Bnd X.K H → Q (.ref Dl) H) (Qd := fun H => Q (.ref Dl) H) hE1 s1 hit hD hsl ?_ fun H q b => q b
  cases hl : lcGo t ft fe it.grd S1.length (wipeC ρ (own.map (·.2))) it.xs [] (S1 ++ [.lst []]) with
  | bad => rw [hl] at h; exact h.elim
  | exc e S2 => rw [hl] at h; exact PostR.step n0 h
  | ok u S2 =>
    rw [hl] at h
    exact fun α2 H2 _ n2 s2 _ => post_drop s1 (n0.trans n2) s2 (.ref (n2.at hm0)) h
/-- y = [..] -/
theorem ss_setLcG {i : Nat} {y : Str} {py : Pos} {e : Expr} {spos : Pos} {te : TE} {f : Den} (h : PS X (.Assign [.Name y py] e spos) (tAsg te (gName i)))
    (imp : ∀ σ H Q, Bnd X.K H → TD (gxOf X) W f σ H Q → te σ H (fun v H' => Bnd X.K H' → Q v H')) (mono : ∀ σ H Q Q', (∀ v H', Q v H' → Q' v H') → te σ H Q → te σ H Q') : SS X W (.Assign [.Name y py] e spos) (sSet i f) :=
  ss_of h fun σ H D hb ⟨α, ρ, S, hE, hS, h⟩ => by
  refine mono σ H (fun v H1 => Bnd X.K H1 → Bnd X.K H1 → D.nx (σ.set i (some v)) H1) _ (fun v H1 q b => q b b) (imp σ H (fun v H1 => Bnd X.K H1 → D.nx (σ.set i (some v)) H1) hb ⟨α, ρ, S, hE, hS, spost_bind hE h fun d S1 α1 H1 v n1 hE1 s1 r1 h b1 b2 => ?_⟩)
  exact h α1 H1 _ .refl s1 (hE1.set i r1) b2
theorem tLc_mono {wi : TI} {g : TG} {tt : TT} {te : TE} {vs : List Nat} (hm : ∀ σ H (R R' : It → Hp → Prop), (∀ J H', R J H' → R' J H') → wi σ H R → wi σ H R') : ∀ σ H (Q Q' : VK), (∀ v H', Q v H' → Q' v H') → tLc wi g tt te vs σ H Q → tLc wi g tt te vs σ H Q' :=
  fun σ H Q Q' k h => hm σ H _ _ (fun J H1 q D hD => by
    obtain ⟨Wv, h0, turn⟩ := q D hD
    exact ⟨Wv, h0, fun i m H w => (turn i m H w).imp (fun z => ⟨z.1, k _ _ z.2⟩) id⟩) h
theorem tdi_mono {f : DenI} : ∀ σ H (R R' : It → Hp → Prop), (∀ J H', R J H' → R' J H') → TDI (gxOf X) W f σ H R → TDI (gxOf X) W f σ H R' := fun σ H R R' k ⟨α, ρ, S, hE, hS, h⟩ =>
  ⟨α, ρ, S, hE, hS, h.imp fun J H' q b => k _ _ (q b)⟩
end
end Dn

set_option maxHeartbeats 4000000
namespace Dn
open PySem PySem.Spec PyProof.Rows L2

/-! ### defs -/
def SpD (G : Gx) (F : List D → Store → Res D) : Sp := fun vs H Q E => ∃ α ds S, Reps G α H ds vs ∧ RelS G α H S ∧ PostR G E (Rep G) α H Q (F ds S)
def startE (n : Nat) (ds : List D) : Env := ds.map some ++ List.replicate (n - ds.length) none
noncomputable def finD (S : Store) : Out → Res D
  | .nx _ S' => dropTo S S' .non
  | .rt d S' => dropTo S S' d
  | _ => .bad
def finR : Out → Res D
  | .nx _ S' => .ok .non S'
  | .rt d S' => .ok d S'
  | _ => .bad
noncomputable def defD (np n : Nat) (fb : DenS) (ds : List D) (S : Store) : Res D := if ds.length = np then finD S (fb (startE n ds) S) else .bad
def defR (np n : Nat) (fb : DenS) (ds : List D) (S : Store) : Res D := if ds.length = np then finR (fb (startE n ds) S) else .bad
section
variable {P : Program} {w : World} {K : PySem.W.Frag} {mg : Str → Option Value} {base : Heap}
theorem relE_start {G : Gx} {α : List Addr} {H : Hp} {ds : List D} {vs : List V} (N : List Str) (r : Reps G α H ds vs) : RelE G α H (startE N.length ds) (L2.start N vs) := by
  have hl := r.length
  refine ⟨by unfold startE L2.start; simp [hl], fun i d e => ?_⟩
  unfold startE at e
  by_cases hi : i < ds.length
  · rw [List.getElem?_append_left (by simpa using hi), List.getElem?_map] at e
    cases hx : ds[i]? with
    | none => rw [hx] at e; cases e
    | some x =>
      rw [hx] at e
      cases e
      obtain ⟨v, hv, rv⟩ := r.get hx
      refine ⟨v, ?_, rv⟩
      unfold L2.start
      rw [List.getElem?_append_left (by simp; omega), List.getElem?_map, hv]
      rfl
  · rw [List.getElem?_append_right (by simpa using hi), List.getElem?_replicate] at e
    split at e <;> cases e
theorem fn_den {x qual : Str} {st : Stmt} {f : Addr} {fd : FuncData} {N ps : List Str} {k : Nat} {fb : DenS} (F : Fun K x qual st f fd) (S : FnScope N ps (defScope st))
    (hbody : ∀ (cdv : Value) (A : Around) (outer : List PySem.Env) (s : Shared) (H : Hp) (E : XK), Room k (A.deeper (envOfC qual (defScope st) s.heap.objs.size f cdv)) →
      SB (cxOf CX0 P w K mg base N qual (defScope st) f cdv A outer s H E).nox W0 (defBody st) fb) : FnOk P w K mg base CX0 (k + 1) f fd ps (SpD ⟨K, mg⟩ (defD ps.length N.length fb)) := by
  refine F.ok S (fun vs H Q E h => ?_) (fun cdv A outer s H vs Q E hr h => ?_)
  · obtain ⟨α, ds, S, r, _, h⟩ := h
    unfold defD at h
    split at h
    · rename_i hl; rw [← r.length]; exact hl
    · exact h.elim
  · obtain ⟨α, ds, S, r, hS, h⟩ := h
    refine ⟨_, hbody cdv A outer s H E hr, α, startE N.length ds, S, relE_start N r, hS, ?_⟩
    unfold defD at h
    split at h
    · cases hf : fb (startE N.length ds) S with
      | nx ρ S' => rw [hf] at h; exact fun a b σ n rs re z => post_drop hS n rs .non h
      | rt d S' => rw [hf] at h; exact fun a b v n rs rp z => post_drop hS n rs rp h
      | bk ρ S' => rw [hf] at h; exact h.elim
      | ct ρ S' => rw [hf] at h; exact h.elim
      | exc e ρ S' => rw [hf] at h; exact h.elim
      | bad => rw [hf] at h; exact h.elim
    · exact h.elim
theorem fn_denR {x qual : Str} {st : Stmt} {f : Addr} {fd : FuncData} {N ps : List Str} {k : Nat} {fb : DenS} (F : Fun K x qual st f fd) (S : FnScope N ps (defScope st))
    (hbody : ∀ (cdv : Value) (A : Around) (outer : List PySem.Env) (s : Shared) (H : Hp) (E : XK), Room k (A.deeper (envOfC qual (defScope st) s.heap.objs.size f cdv)) →
      SB (cxOf CX0 P w K mg base N qual (defScope st) f cdv A outer s H E).nox W0 (defBody st) fb) : FnOk P w K mg base CX0 (k + 1) f fd ps (SpD ⟨K, mg⟩ (defR ps.length N.length fb)) := by
  refine F.ok S (fun vs H Q E h => ?_) (fun cdv A outer s H vs Q E hr h => ?_)
  · obtain ⟨α, ds, S, r, _, h⟩ := h
    unfold defR at h
    split at h
    · rename_i hl; rw [← r.length]; exact hl
    · exact h.elim
  · obtain ⟨α, ds, S, r, hS, h⟩ := h
    refine ⟨_, hbody cdv A outer s H E hr, α, startE N.length ds, S, relE_start N r, hS, ?_⟩
    unfold defR at h
    split at h
    · cases hf : fb (startE N.length ds) S with
      | nx ρ S' => rw [hf] at h; exact fun a b σ n rs re z => h a b .non n rs .non
      | rt d S' => rw [hf] at h; exact fun a b v n rs rp z => h a b v n rs rp
      | bk ρ S' => rw [hf] at h; exact h.elim
      | ct ρ S' => rw [hf] at h; exact h.elim
      | exc e ρ S' => rw [hf] at h; exact h.elim
      | bad => rw [hf] at h; exact h.elim
    · exact h.elim
/-- nothing is promised -/
def Fbad : List D → Store → Res D := fun _ _ => .bad
end
/-! ### calls -/
def dCall (F : List D → Store → Res D) (dvs : List D) (a : DenA) : Den := fun ρ S => rbind (a ρ S) fun ds S1 => nox (F (ds ++ dvs) S1)
section
variable {X : Cx} {W : WK}
theorem se_call {e : Expr} {F : List D → Store → Res D} {dvs : List D} {dv : List V} {fa : DenA} (h : PE X e (tCall (SpD (gxOf X) F) dv E0 (TDA (gxOf X) W fa))) (hd : ∀ α H, Reps (gxOf X) α H dvs dv) : SE X W e (dCall F dvs fa) := by
  refine se_of h fun σ H Q hb ⟨α, ρ, S, hE, hS, h⟩ => ?_
  refine tda_bind hE hS h fun ds S1 α1 H1 vs n1 hE1 s1 b1 r1 h => ?_
  refine ⟨α1, ds ++ dvs, S1, r1.append (hd α1 H1), s1, ?_⟩
  cases hf : F (ds ++ dvs) S1 with
  | ok d S2 => rw [hf] at h; exact h
  | exc e S2 => rw [hf] at h; exact h.elim
  | bad => rw [hf] at h; exact h.elim
theorem law_start {G : Gx} {H : Hp} {a : Addr} {ns : List Int} (h : SqL G.K H a (ns.map V.int)) : Rep G [] H (.rol ns) (.ref a) := by
  rcases h with h | h
  · exact .rol (.inl ⟨h, by simp⟩)
  · exact .rol (.inr h)
theorem law_end {G : Gx} {F : List D → Store → Res D} {H : Hp} {a : Addr} {ns : List Int} {S' : Store} (h : SqL G.K H a (ns.map V.int)) (e : F [.rol ns] [] = .ok (.bl true) S') {E : XK} : SpD G F [.ref a] H (fun v _ => v = .bl true) E := by
  refine ⟨[], [.rol ns], [], .cons (law_start h) .nil, ⟨rfl, List.nodup_nil, fun n a o h1 _ => by simp at h1⟩, ?_⟩
  rw [e]
  intro α' H' v _ _ r
  cases r
  rfl
end
end Dn

set_option maxHeartbeats 4000000
namespace Dn
open PySem PySem.Spec PyProof.Rows L2

/-! ### room -/
theorem hu0 {A : Around} {k : Nat} (hr : Room k A) : A.units < cLine := by have := hr.un; omega
theorem hu1 {A : Around} {k : Nat} (hr : Room k A) : A.units + 1 < cLine := by have := hr.un; omega
theorem hu64 {A : Around} {k : Nat} (hr : Room k A) : A.units + 64 < cLine := by have := hr.un; omega
theorem hu65 {A : Around} {k : Nat} (hr : Room k A) : A.units + 65 < cLine := by have := hr.un; omega
section
variable {X : Cx} {W : WK} {fo fi fa fb : Den} {pos : Pos}
/-! ### isinstance -/
theorem se_isi {e : Expr} {T : String} {x : Str} {p q : Pos} (hg : Gl X "isinstance") (hm : X.mg "isinstance" = none) (hg2 : Gl X x) (hm2 : X.mg x = none) (hv : bootBuiltins x = some (.type T)) (hc : x ≠ "__name__" ∧ (x == ("__debug__" : Str)) = false) (he : SE X W e fa)
    (hs : starEach [e, .Name x q] X.env = (false, eval e X.env) :: starEach [.Name x q] X.env := by rfl) (hs2 : starEach [.Name x q] X.env = (false, eval (.Name x q) X.env) :: starEach [] X.env := by rfl) (hp : (backTo pos (starEach [.Name x q] X.env)).any (·.1) = false := by rfl) :
    SE X W (.Call (.Name "isinstance" p) [e, .Name x q] [] pos) (dApp (gIsi T) (aCons fa aNil)) := by
  refine se_of (pe_callB call_isi hg hm (by decide +kernel) (pa_cons he (pa_cons (pe_bltn hg2 hm2 hv (v := .ty T) rfl hc.1 hc.2) pa_nil hs2) hs) (by decide) (by decide) hs hp) fun σ H Q hb ⟨α, ρ, S, hE, hS, h⟩ => ?_
  have h : PostR (gxOf X) (Wat W σ) (Rep (gxOf X)) α H (fun b H' => Bnd X.K H' → Q b H') (rbind (fa ρ S) fun x S1 => gIsi T [x] S1) := by
    have e : dApp (gIsi T) (aCons fa aNil) ρ S = (rbind (fa ρ S) fun x S1 => gIsi T [x] S1) := by
      unfold dApp aCons aNil
      cases fa ρ S <;> rfl
    rw [← e]; exact h
  refine td_bind hE hS h fun y S1 α1 H1 vy n1 hE1 s1 b1 r1 h => ?_
  obtain ⟨x', t, b, e1, ty, k, q⟩ := v_isi (X := X) (T := T) (Wat W σ) α1 H1 S1 [y] [vy] _ s1 b1 (.cons r1 .nil) h
  cases e1
  exact ⟨vy, .ty T, t, .type T, b, rfl, .ty T, ty, k, q⟩
/-! ### calls -/
theorem se_call0 {e : Expr} {F : List D → Store → Res D} (h : PE X e (tCall (SpD (gxOf X) F) [] E0 tNil)) : SE X W e (dCall F [] aNil) := by
  refine se_of h fun σ H Q hb ⟨α, ρ, S, hE, hS, h⟩ => ?_
  refine ⟨α, [], S, .nil, hS, ?_⟩
  have h : PostR (gxOf X) (Wat W σ) (Rep (gxOf X)) α H (fun b H' => Bnd X.K H' → Q b H') (nox (F [] S)) := h
  cases hf : F [] S with
  | ok d S2 => rw [hf] at h; exact h
  | exc e S2 => rw [hf] at h; exact h.elim
  | bad => rw [hf] at h; exact h.elim
end
section
variable {P : Program} {w : World} {K : PySem.W.Frag} {mg : Str → Option Value} {base : Heap}
theorem fn_bad {x qual : Str} {st : Stmt} {f : Addr} {fd : FuncData} {N ps : List Str} {k : Nat} (F : Fun K x qual st f fd) (S : FnScope N ps (defScope st)) : FnOk P w K mg base CX0 (k + 1) f fd ps (SpD ⟨K, mg⟩ Fbad) :=
  F.ok S (fun vs H Q E ⟨_, _, _, _, _, h⟩ => h.elim) (fun cdv A outer s H vs Q E hr ⟨_, _, _, _, _, h⟩ => h.elim)
theorem fn_denD {x qual : Str} {pa : Arguments} {bd : List Stmt} {sc : Scope} {dv : List V} {kw : List (Str × V)} {f : Addr} {fd : FuncData} {N ps : List Str} {k : Nat} {fb : DenS} (F : FunD K x qual pa bd sc dv kw f fd) (S : FnScope N ps sc)
    (hbody : ∀ (cdv : Value) (A : Around) (outer : List PySem.Env) (s : Shared) (H : Hp) (E : XK), Room k (A.deeper (envOfC qual sc s.heap.objs.size f cdv)) →
      SB (cxOf CX0 P w K mg base N qual sc f cdv A outer s H E).nox W0 bd fb) : FnOk P w K mg base CX0 (k + 1) f fd ps (SpD ⟨K, mg⟩ (defD ps.length N.length fb)) := by
  refine F.ok S (fun vs H Q E h => ?_) (fun cdv A outer s H vs Q E hr h => ?_)
  · obtain ⟨α, ds, S, r, _, h⟩ := h
    unfold defD at h
    split at h
    · rename_i hl; rw [← r.length]; exact hl
    · exact h.elim
  · obtain ⟨α, ds, S, r, hS, h⟩ := h
    refine ⟨_, PSs.nox (hbody cdv A outer s H E hr), α, startE N.length ds, S, relE_start N r, hS, ?_⟩
    unfold defD at h
    split at h
    · cases hf : fb (startE N.length ds) S with
      | nx ρ S' => rw [hf] at h; exact fun a b σ n rs re z => post_drop hS n rs .non h
      | rt d S' => rw [hf] at h; exact fun a b v n rs rp z => post_drop hS n rs rp h
      | bk ρ S' => rw [hf] at h; exact h.elim
      | ct ρ S' => rw [hf] at h; exact h.elim
      | exc e ρ S' => rw [hf] at h; exact h.elim
      | bad => rw [hf] at h; exact h.elim
    · exact h.elim
end
/-! ### keywords alone -/
section
variable {X : Cx} {W : WK} {CX : CXT} {k : Nat} {f : Addr} {fd : FuncData} {ps ks : List Str} {x : Str} {p pos kpos : Pos} {kws : List Keyword} {E : XK} {tk : TA} {g : List Value → List Value → List Value} {gV : List V → List V → List V}
/-- keywords named ks, put in the order of the parameters by pm -/
def permL {τ : Type} (pm : List Nat) (xs : List τ) : List τ := pm.filterMap fun i => xs[i]?
def KPerm (K : PySem.W.Frag) (fd : FuncData) (ps ks : List Str) (pm : List Nat) : Prop := ∀ (s : Shared) (ws : List Value), K.In s.heap → ws.length = ks.length → BindsTo s fd ⟨[], ks.zip ws⟩ (ps.zip (permL pm ws))
theorem Vals.perm {vs : List V} {us : List Value} (h : Vals vs us) (pm : List Nat) : Vals (permL pm vs) (permL pm us) := by
  unfold permL
  induction pm with
  | nil => exact .nil
  | cons i pm ih =>
    rw [List.filterMap_cons, List.filterMap_cons]
    cases e : us[i]? with
    | none =>
      have : vs[i]? = none := by
        rw [List.getElem?_eq_none_iff] at e ⊢
        rw [h.length]; exact e
      rw [this]; exact ih
    | some u =>
      obtain ⟨v, hv, rv⟩ : ∃ v, vs[i]? = some v ∧ RelV v u := by
        obtain ⟨hi, e1⟩ := List.getElem?_eq_some_iff.mp e
        have hi' : i < vs.length := by rw [h.length]; exact hi
        obtain ⟨u', e2, r⟩ := h.get (List.getElem?_eq_getElem hi')
        rw [e] at e2; cases e2
        exact ⟨_, List.getElem?_eq_getElem hi', r⟩
      rw [hv]; exact .cons rv ih
theorem pe_callK0 {sp : Sp} {pm : List Nat} (F : FnOk X.prog X.w X.K X.mg X.base CX k f fd ps sp) (hr : Room k X.A) (hg : Gl X x) (hm : X.mg x = some (.ref f)) (hk : PySem.W.keepIn X.K (.ref f) = true) (hb : KPerm X.K fd ps ks pm) (hx : Passes CX X E)
    (hkw : PK X kws tk) (hall : (backToKw pos (keywordEach kws X.env)).all (·.1.isSome) = true := by rfl) (hks : (backToKw pos (keywordEach kws X.env)).filterMap (·.1) = ks := by rfl)
    (hdb : (x == ("__debug__" : Str)) = false := by decide)
    (hpl : ((backTo pos (starEach [] X.env)).any (·.1) || (backToKw pos (keywordEach kws X.env)).any (·.1.isNone)) = false := by rfl) :
    PE X (.Call (.Name x p) [] kws pos) (fun σ H Q => tk σ H fun zs H2 => zs.length = ks.length ∧ sp (permL pm zs) H2 Q E) := by
  refine ⟨fun pins s σ H Q I h => ?_⟩
  refine wpAny_Call_Name_kw (ld_glob I hg hm ?_ hdb)
  refine PySem.W.callWith_KW0 (h₀ := X.base) I.ok.mod.kin hk hall ?_ hpl
  refine thn (hkw.run pos pins s σ H _ I h) fun ws s2 ⟨zs, H2, I2, rz, hl, q2⟩ => ⟨I2.kIn, ?_⟩
  rw [hks]
  refine wpAny_call (codeAny_mono (F.run X.A X.stack s2 H2 ⟨[], ks.zip ws⟩ (permL pm ws) (permL pm zs) Q E hr I2.env0 (hb s2 ws I2.kIn (rz.length.symm.trans hl)) (Vals.perm rz pm) q2) fun r s' hq => ?_)
  cases r with
  | error e => exact hx pins σ H2 s2 e s' I2 hq
  | ok fl =>
    cases fl with
    | ret u => exact I2.after hq
    | next => exact False.elim hq
    | brk => exact False.elim hq
    | cont => exact False.elim hq
/-- the values of keywords as a denotation -/
abbrev SK (X : Cx) (W : WK) (kws : List Keyword) (f : DenA) : Prop := PK X kws (TDA (gxOf X) W f)
theorem sk_of {t : TA} {fa : DenA} (h : PK X kws t) (imp : ∀ σ H Q, Bnd X.K H → TDA (gxOf X) W fa σ H Q → t σ H (fun v H' => Bnd X.K H' → Q v H')) : SK X W kws fa :=
  ⟨fun pos pins s σ H Q I hw => thn (h.run pos pins s σ H _ I (imp σ H Q (inv_bnd I) hw)) fun v s1 ⟨x, H1, I1, r1, q1⟩ => ⟨x, H1, I1, r1, q1 (inv_bnd I1)⟩⟩
theorem sk_nil : SK X W [] aNil := sk_of pk_nil fun σ H Q hb ⟨α, ρ, S, hE, hS, h⟩ => h α H [] .refl hS .nil
theorem sk_cons {nm : Option Str} {e : Expr} {f : Den} {fs : DenA} (he : SE X W e f) (hs : SK X W kws fs) : SK X W (⟨nm, e, kpos⟩ :: kws) (aCons f fs) := by
  refine sk_of (pk_cons he hs) fun σ H Q hb ⟨α, ρ, S, hE, hS, h⟩ => ?_
  refine td_bind hE hS h fun d S1 α1 H1 v n1 hE1 s1 b1 r1 h => ?_
  refine tda_bind hE1 s1 h fun d2 S2 α2 H2 v2 n2 hE2 s2 b2 r2 h => ?_
  exact h α2 H2 _ .refl s2 (.cons (r1.mono n2) r2)
theorem Reps.perm {G : Gx} {α : List Addr} {H : Hp} {ds : List D} {vs : List V} (h : Reps G α H ds vs) (pm : List Nat) : Reps G α H (permL pm ds) (permL pm vs) := by
  unfold permL
  induction pm with
  | nil => exact .nil
  | cons i pm ih =>
    rw [List.filterMap_cons, List.filterMap_cons]
    cases e : ds[i]? with
    | none =>
      have : vs[i]? = none := by
        rw [List.getElem?_eq_none_iff] at e ⊢
        rw [← h.length]; exact e
      rw [this]; exact ih
    | some d =>
      obtain ⟨v, hv, rv⟩ := h.get e
      rw [hv]; exact .cons rv ih
def dCallP (F : List D → Store → Res D) (pm : List Nat) (a : DenA) : Den := fun ρ S => rbind (a ρ S) fun ds S1 => if ds.length = pm.length then nox (F (permL pm ds) S1) else .bad
theorem se_callP {e : Expr} {F : List D → Store → Res D} {pm : List Nat} {ks : List Str} {fa : DenA} (h : PE X e (fun σ H Q => TDA (gxOf X) W fa σ H fun zs H2 => zs.length = ks.length ∧ SpD (gxOf X) F (permL pm zs) H2 Q E0)) (hl : pm.length = ks.length) : SE X W e (dCallP F pm fa) := by
  refine se_of h fun σ H Q hb ⟨α, ρ, S, hE, hS, h⟩ => ?_
  refine tda_bind hE hS h fun ds S1 α1 H1 vs n1 hE1 s1 b1 r1 h => ?_
  simp only at h
  split at h
  · rename_i hd
    refine ⟨by rw [← r1.length, hd, hl], α1, permL pm ds, S1, r1.perm pm, s1, ?_⟩
    cases hf : F (permL pm ds) S1 with
    | ok d S2 => rw [hf] at h; exact h
    | exc e S2 => rw [hf] at h; exact h.elim
    | bad => rw [hf] at h; exact h.elim
  · exact h.elim
end
/-! ### y = [..] -/
section
variable {X : Cx} {W : WK}
theorem imp_nlc {own : List (Str × Nat)} {t : Tgt} {fi : DenI} {ft : DenT} {fe : Den} (hsl : ∀ j ∈ t.slots, j ∈ own.map (·.2)) : ∀ σ H Q, Bnd X.K H → TD (gxOf X) W (nLc fi (own.map (·.2)) t ft fe) σ H Q →
    tLc (TDI (gxOf X) W fi) (TDG (gxOf X) t) (TDT (gxOf X) W0 ft) (TD (gxOf X) W0 fe) (own.map (·.2)) σ H (fun v H' => Bnd X.K H' → Q v H') := fun σ H Q hb ⟨α, ρ, S, hE, hS, h⟩ => by
  refine ⟨α, ρ, S, hE, hS, post_bind h fun it S1 α1 H1 J n1 s1 hit h b1 Dl hD => ?_⟩
  have hE1 := hE.mono n1
  obtain ⟨n0, s0⟩ := s1.push (u := .lst []) (o := .lst []) hD fun n => ⟨[], upd_same, .nil⟩
  have hm0 : (α1 ++ [Dl])[S1.length]? = some Dl := s1.newAt Dl
  refine lc_turns (V1 := Wat W σ) (Q := fun _ H => Bnd X.K H → Q (.ref Dl) H) (Qd := fun H => Q (.ref Dl) H) hE1 s1 hit hD hsl (post_bind (PostR.step n0 h) fun _ S2 α2 H2 _ n2 s2 _ h => ?_) fun H q b => q b
  exact h α2 H2 _ .refl s2 (.ref (n2.at hm0))
theorem imp_dlc {own : List (Str × Nat)} {t : Tgt} {fi : DenI} {ft : DenT} {fe : Den} (hsl : ∀ j ∈ t.slots, j ∈ own.map (·.2)) : ∀ σ H Q, Bnd X.K H → TD (gxOf X) W (dLc fi (own.map (·.2)) t ft fe) σ H Q →
    tLc (TDI (gxOf X) W fi) (TDG (gxOf X) t) (TDT (gxOf X) W0 ft) (TD (gxOf X) W0 fe) (own.map (·.2)) σ H (fun v H' => Bnd X.K H' → Q v H') := fun σ H Q hb ⟨α, ρ, S, hE, hS, h⟩ => by
  refine ⟨α, ρ, S, hE, hS, post_bind h fun it S1 α1 H1 J n1 s1 hit h b1 Dl hD => ?_⟩
  have hE1 := hE.mono n1
  obtain ⟨n0, s0⟩ := s1.push (u := .lst []) (o := .lst []) hD fun n => ⟨[], upd_same, .nil⟩
  have hm0 : (α1 ++ [Dl])[S1.length]? = some Dl := s1.newAt Dl
  refine lc_turns (V1 := Wat W σ) (Q := fun _ H => Bnd X.K H → Q (.ref Dl) H) (Qd := fun H => Q (.ref Dl) H) hE1 s1 hit hD hsl ?_ fun H q b => q b
  cases hl : lcGo t ft fe it.grd S1.length (wipeC ρ (own.map (·.2))) it.xs [] (S1 ++ [.lst []]) with
  | bad => rw [hl] at h; exact h.elim
  | exc e S2 => rw [hl] at h; exact PostR.step n0 h
  | ok u S2 =>
    rw [hl] at h
    exact fun α2 H2 _ n2 s2 _ => post_drop s1 (n0.trans n2) s2 (.ref (n2.at hm0)) h
theorem ss_setLcN {i : Nat} {y : Str} {py : Pos} {e : Expr} {spos : Pos} {own : List (Str × Nat)} {t : Tgt} {fi : DenI} {ft : DenT} {fe : Den}
    (h : PS X (.Assign [.Name y py] e spos) (tAsg (tLc (TDI (gxOf X) W fi) (TDG (gxOf X) t) (TDT (gxOf X) W0 ft) (TD (gxOf X) W0 fe) (own.map (·.2))) (gName i))) (hsl : ∀ j ∈ t.slots, j ∈ own.map (·.2)) :
    SS X W (.Assign [.Name y py] e spos) (sSet i (nLc fi (own.map (·.2)) t ft fe)) := ss_setLcG h (imp_nlc hsl) (tLc_mono tdi_mono)
theorem ss_setLcD {i : Nat} {y : Str} {py : Pos} {e : Expr} {spos : Pos} {own : List (Str × Nat)} {t : Tgt} {fi : DenI} {ft : DenT} {fe : Den}
    (h : PS X (.Assign [.Name y py] e spos) (tAsg (tLc (TDI (gxOf X) W fi) (TDG (gxOf X) t) (TDT (gxOf X) W0 ft) (TD (gxOf X) W0 fe) (own.map (·.2))) (gName i))) (hsl : ∀ j ∈ t.slots, j ∈ own.map (·.2)) :
    SS X W (.Assign [.Name y py] e spos) (sSet i (dLc fi (own.map (·.2)) t ft fe)) := ss_setLcG h (imp_dlc hsl) (tLc_mono tdi_mono)
end
/-! ### a, b, c = x, y, z -/
section
variable {X : Cx} {W : WK} {pos : Pos}
def sPar3 (i j l : Nat) (a b c : Den) : DenS := fun ρ S => obind (a ρ S) ρ fun x S1 => obind (b ρ S1) ρ fun y S2 => obind (c ρ S2) ρ fun z S3 => .nx (((ρ.set i (some x)).set j (some y)).set l (some z)) S3
theorem ss_par3 {i j l : Nat} {tgt tup : Expr} {a b c : Den} (h : PS X (.Assign [tgt] tup pos) (tPar3 i j l (TDA (gxOf X) W (aCons a (aCons b (aCons c aNil)))))) : SS X W (.Assign [tgt] tup pos) (sPar3 i j l a b c) := ss_of h fun σ H D hb ⟨α, ρ, S, hE, hS, h⟩ => by
  have h : SPost (gxOf X) W D α H (obind (aCons a (aCons b (aCons c aNil)) ρ S) ρ fun xs S2 => match xs with
      | [x, y, z] => .nx (((ρ.set i (some x)).set j (some y)).set l (some z)) S2
      | _ => .bad) := by
    have e : sPar3 i j l a b c ρ S = (obind (aCons a (aCons b (aCons c aNil)) ρ S) ρ fun xs S2 => match xs with
      | [x, y, z] => .nx (((ρ.set i (some x)).set j (some y)).set l (some z)) S2
      | _ => .bad) := by
      unfold sPar3 aCons aNil
      cases a ρ S with
      | ok d S1 =>
        show obind (b ρ S1) ρ _ = obind (rbind (rbind (b ρ S1) _) _) ρ _
        cases b ρ S1 with
        | ok d2 S2 => show obind (c ρ S2) ρ _ = obind (rbind (rbind (rbind (c ρ S2) _) _) _) ρ _; cases c ρ S2 <;> rfl
        | _ => rfl
      | _ => rfl
    rw [← e]; exact h
  refine ⟨α, ρ, S, hE, hS, spost_bind hE h fun d S1 α1 H1 v n1 hE1 s1 r1 h b1 => ?_⟩
  cases r1 with
  | nil => exact h.elim
  | cons r1 t1 => cases t1 with
    | nil => exact h.elim
    | cons r2 t2 => cases t2 with
      | nil => exact h.elim
      | cons r3 t3 => cases t3 with
        | nil => exact ⟨_, _, _, rfl, fun b2 => h α1 H1 _ .refl s1 (((hE1.set i r1).set j r2).set l r3) b2⟩
        | cons r4 t4 => exact h.elim
end
/-! ### list(range(..)) -/
def rgOk (a b : Int) : Bool := decide (-(2 ^ 62) ≤ a ∧ a < 2 ^ 62 ∧ -(2 ^ 62) ≤ b ∧ b < 2 ^ 62 ∧ (b - a).toNat ≤ 2 ^ 24)
def rgD (a b : Int) : List D := (List.range (b - a).toNat).map fun i => D.int (a + (i : Nat))
theorem reps_rg {G : Gx} {α : List Addr} {H : Hp} (a b : Int) : Reps G α H (rgD a b) (rgV a b) := by
  unfold rgD rgV
  generalize List.range (b - a).toNat = l
  induction l with
  | nil => exact .nil
  | cons x l ih => exact .cons (.int _) ih
def lrg (a b : Int) (S : Store) : Res D := if rgOk a b = true then .ok (.lst (rgD a b)) S else .bad
def nrg (a b : Int) (S : Store) : Res D := if rgOk a b = true then .ok (.ref S.length) (S ++ [.lst (rgD a b)]) else .bad
def dLrg1 (f : Den) : Den := fun ρ S => rbind (f ρ S) fun d S1 => match d with
  | .int n => lrg 0 n S1
  | _ => .bad
def dLrg2 (f g : Den) : Den := fun ρ S => rbind (f ρ S) fun d S1 => rbind (g ρ S1) fun e S2 => match d, e with
  | .int m, .int n => lrg m n S2
  | _, _ => .bad
def nLrg1 (f : Den) : Den := fun ρ S => rbind (f ρ S) fun d S1 => match d with
  | .int n => nrg 0 n S1
  | _ => .bad
def nLrg2 (f g : Den) : Den := fun ρ S => rbind (f ρ S) fun d S1 => rbind (g ρ S1) fun e S2 => match d, e with
  | .int m, .int n => nrg m n S2
  | _, _ => .bad
section
variable {X : Cx} {W : WK} {fa fb : Den} {a b : Expr} {p p2 pos pos2 : Pos}
theorem lrg_ok {G : Gx} {W : XK} {α : List Addr} {H : Hp} {S : Store} {m n : Int} {Q : VK} (hS : RelS G α H S) (h : PostR G W (Rep G) α H Q (lrg m n S)) : RgOk m n ∧ ∀ q, H q = none → Q (.ref q) (upd H q (.lst (rgV m n))) := by
  unfold lrg at h
  split at h
  · rename_i ok
    exact ⟨of_decide_eq_true (p := _ ∧ _) ok, post_lst hS (reps_rg m n) h⟩
  · exact h.elim
theorem nrg_ok {G : Gx} {W : XK} {α : List Addr} {H : Hp} {S : Store} {m n : Int} {Q : VK} (hS : RelS G α H S) (h : PostR G W (Rep G) α H Q (nrg m n S)) : RgOk m n ∧ ∀ q, H q = none → Q (.ref q) (upd H q (.lst (rgV m n))) := by
  unfold nrg at h
  split at h
  · rename_i ok
    exact ⟨of_decide_eq_true (p := _ ∧ _) ok, post_new hS (reps_rg m n) h⟩
  · exact h.elim
theorem se_lrg1 (hc : X.calm = true) (hg : Gl X "list") (hm : X.mg "list" = none) (hg2 : Gl X "range") (hm2 : X.mg "range" = none) (ha : SE X W a fa) (na : starEach [a] X.env = (false, eval a X.env) :: starEach [] X.env := by rfl)
    (nb : starEach [.Call (.Name "range" p2) [a] [] pos2] X.env = (false, eval (.Call (.Name "range" p2) [a] [] pos2) X.env) :: starEach [] X.env := by rfl) : SE X W (.Call (.Name "list" p) [.Call (.Name "range" p2) [a] [] pos2] [] pos) (dLrg1 fa) := by
  refine se_of (pe_listRg hc hg hm (prg_1 hg2 hm2 ha na) nb) fun σ H Q hb ⟨α, ρ, S, hE, hS, h⟩ => ?_
  refine td_bind hE hS h fun d S1 α1 H1 v n1 hE1 s1 b1 r1 h => ?_
  cases r1 with
  | int n => exact ⟨n, rfl, lrg_ok s1 h⟩
  | _ => exact h.elim
theorem sn_lrg1 (hc : X.calm = true) (hg : Gl X "list") (hm : X.mg "list" = none) (hg2 : Gl X "range") (hm2 : X.mg "range" = none) (ha : SE X W a fa) (na : starEach [a] X.env = (false, eval a X.env) :: starEach [] X.env := by rfl)
    (nb : starEach [.Call (.Name "range" p2) [a] [] pos2] X.env = (false, eval (.Call (.Name "range" p2) [a] [] pos2) X.env) :: starEach [] X.env := by rfl) : SE X W (.Call (.Name "list" p) [.Call (.Name "range" p2) [a] [] pos2] [] pos) (nLrg1 fa) := by
  refine se_of (pe_listRg hc hg hm (prg_1 hg2 hm2 ha na) nb) fun σ H Q hb ⟨α, ρ, S, hE, hS, h⟩ => ?_
  refine td_bind hE hS h fun d S1 α1 H1 v n1 hE1 s1 b1 r1 h => ?_
  cases r1 with
  | int n => exact ⟨n, rfl, nrg_ok s1 h⟩
  | _ => exact h.elim
theorem se_lrg2 (hc : X.calm = true) (hg : Gl X "list") (hm : X.mg "list" = none) (hg2 : Gl X "range") (hm2 : X.mg "range" = none) (ha : SE X W a fa) (hb' : SE X W b fb) (na : starEach [a, b] X.env = (false, eval a X.env) :: starEach [b] X.env := by rfl)
    (nb : starEach [b] X.env = (false, eval b X.env) :: starEach [] X.env := by rfl) (hp : (backTo pos2 (starEach [b] X.env)).any (·.1) = false := by rfl)
    (nc : starEach [.Call (.Name "range" p2) [a, b] [] pos2] X.env = (false, eval (.Call (.Name "range" p2) [a, b] [] pos2) X.env) :: starEach [] X.env := by rfl) : SE X W (.Call (.Name "list" p) [.Call (.Name "range" p2) [a, b] [] pos2] [] pos) (dLrg2 fa fb) := by
  refine se_of (pe_listRg hc hg hm (prg_2 hg2 hm2 ha hb' na nb hp) nc) fun σ H Q hb ⟨α, ρ, S, hE, hS, h⟩ => ?_
  refine td_bind hE hS h fun d S1 α1 H1 v n1 hE1 s1 b1 r1 h => ?_
  refine td_bind hE1 s1 h fun d2 S2 α2 H2 v2 n2 hE2 s2 b2 r2 h => ?_
  cases r1 with
  | int m => cases r2 with
    | int n => exact ⟨m, n, rfl, rfl, lrg_ok s2 h⟩
    | _ => exact h.elim
  | _ => exact h.elim
end
end Dn

set_option maxHeartbeats 4000000
namespace Dn
open PySem PySem.Spec PyProof.Rows L2

/-! ### a dict is locked while its keys are walked -/
def dLock (i : Nat) (f : Den) : Den := fun ρ S => match ρ[i]? with
  | some (some (.ref n)) => match S[n]? with
    | some (.dI ks xs) => rbind (nox (f ρ (S.set n (.fI ks xs)))) fun d S1 => match S1[n]? with
      | some (.fI ks1 xs1) => .ok d (S1.set n (.dI ks1 xs1))
      | _ => .bad
    | _ => .bad
  | _ => .bad
section
variable {X : Cx} {W : WK} {tg : Expr}
theorem se_lock {i : Nat} {e : Expr} {f : Den} (he : SE X W0 e f) : SE X W e (dLock i f) := by
  refine se_of (pe_lock he) fun σ H Q hb ⟨α, ρ, S, hE, hS, h⟩ => ?_
  unfold dLock at h
  split at h
  · rename_i n e1
    split at h
    · rename_i ks xs e2
      obtain ⟨v, hv, r⟩ := hE.at_ _ _ e1
      cases r with
      | @ref _ a ha =>
        obtain ⟨vs, h1, h2, h3⟩ := hS.cell ha e2
        refine ⟨a, _, h1, trivial, fun od => ?_⟩
        obtain ⟨nx, rs⟩ := hS.put (u := .frz od (.dK (ks.zip vs))) (o := .fI ks xs) ha h1 (fun _ _ e => nomatch e) fun nx => ⟨od, vs, upd_same, h2.mono nx, h3⟩
        refine ⟨α, ρ, _, hE.mono nx, rs, ?_⟩
        cases hf : f ρ (S.set n (.fI ks xs)) with
        | bad => rw [hf] at h; exact h.elim
        | exc e S1 => rw [hf] at h; exact h.elim
        | ok d S1 =>
          rw [hf] at h
          intro α1 H1 v1 n1 s1 r1 b1
          replace h : PostR (gxOf X) (Wat W σ) (Rep (gxOf X)) α H (fun v H' => Bnd X.K H' → Q v H') (match S1[n]? with
            | some (.fI ks1 xs1) => .ok d (S1.set n (.dI ks1 xs1))
            | _ => .bad) := h
          split at h
          · rename_i ks1 xs1 e3
            obtain ⟨ob, vs1, q1, q2, q3⟩ := s1.cell (n1.at ha) e3
            have q0 := n1.fz a od _ upd_same
            have eo : ob = od ∧ (.dK (ks1.zip vs1) : HO) = .dK (ks.zip vs) := by
              have z := Option.some.inj (q1.symm.trans q0)
              exact ⟨(HO.frz.inj z).1, (HO.frz.inj z).2⟩
            obtain ⟨rfl, eu⟩ := eo
            refine ⟨q0, fun b2 => ?_⟩
            have ka : a ∈ α1 := List.mem_of_getElem? (n1.at ha)
            obtain ⟨kp, s2⟩ := s1.put0 (u := .dK (ks.zip vs)) (o := .dI ks1 xs1) (n1.at ha) fun kp => ⟨vs1, by rw [upd_same, eu], q2.mono0 kp, q3⟩
            have nn : Nxt α H α1 (upd H1 a (.dK (ks.zip vs))) := by
              refine ⟨n1.pre, fun b o eb nb => ?_, fun b ob u eb => ?_⟩
              · have hne : b ≠ a := fun z => nb (by rw [z]; exact List.mem_of_getElem? ha)
                obtain ⟨k1, k2⟩ := n1.keep b o (by rw [upd_ne hne]; exact eb) nb
                exact ⟨by rw [upd_ne hne]; exact k1, k2⟩
              · have hne : b ≠ a := fun z => by
                  rw [z, h1] at eb
                  cases eb
                rw [upd_ne hne]
                exact n1.fz b ob u (by rw [upd_ne hne]; exact eb)
            exact h α1 _ v1 nn s2 (r1.mono0 kp) b2
          · exact h.elim
    · exact h.elim
  · exact h.elim
/-! ### for k in d -/
def iDictI (f : Den) : DenI := fun ρ S => rbind (f ρ S) fun d S1 => match d with
  | .ref n => match S1[n]? with
    | some (.fI ks xs) => if ks.length ≤ sizeLine then .ok ⟨ks.map kD, some (n, .fI ks xs)⟩ S1 else .bad
    | _ => .bad
  | _ => .bad
theorem si_dictI {e : Expr} {f : Den} (h : SE X W e f) : SI X W tg e (iDictI f) := by
  refine si_of (pi_keys h) fun σ H R hb ⟨α, ρ, S, hE, hS, h⟩ => ?_
  refine td_bind hE hS h fun d S1 α1 H1 v n1 hE1 s1 b1 r1 h => ?_
  cases r1 with
  | @ref n a ha =>
    simp only at h
    split at h
    · rename_i ks xs e1
      split at h
      · rename_i hz
        obtain ⟨ob, vs, h1, h2, h3⟩ := s1.cell ha e1
        have hl := h2.length
        refine ⟨a, ob, rfl, .inl ⟨_, h1, h α1 H1 _ .refl s1 ⟨by simpa using hz, fun α2 H2 S2 n2 s2 g2 i => ?_⟩⟩⟩
        have q0 := n2.fz a ob _ h1
        have hlen : (ks.zip vs).length = ks.length := by rw [List.length_zip]; omega
        refine ⟨fun d hd => ?_, fun hi => ⟨q0, by rw [hlen, hi]; simp⟩⟩
        rw [List.getElem?_map] at hd
        obtain ⟨k, hk, rfl⟩ := Option.map_eq_some_iff.mp hd
        have hi : i < ks.length := (List.getElem?_eq_some_iff.mp hk).1
        refine ⟨⟨q0, by rw [hlen]; exact hi⟩, fun x H3 hy => ?_⟩
        obtain ⟨rfl, k', v', hkv, rfl⟩ := hy
        have e4 : k' = k := by
          have := congrArg (Option.map Prod.fst) hkv
          rw [← List.getElem?_map, List.map_fst_zip (by omega), hk] at this
          simpa using this.symm
        subst e4
        refine ⟨.refl, s2, ?_⟩
        cases k' with
        | inl i => exact .int i
        | inr x => exact .str x
      · exact h.elim
    · exact h.elim
  | _ => exact h.elim
/-! ### reversed -/
def iRev (f : Den) : DenI := fun ρ S => rbind (f ρ S) fun d S1 => match asG S1 d with
  | some (xs, g) => .ok ⟨xs.reverse, g⟩ S1
  | none => .bad
def ItvK (K : PySem.W.Frag) : Sk → Addr → Nat → It
  | .l, a, n => Itv K a n
  | .t, a, n => RT.ItvT K a n
theorem itvK_go {K : PySem.W.Frag} {H : Hp} {k : Sk} {a : Addr} {vs : List V} {i n : Nat} (h : SqK K H k a vs) (hi : i < n) {v : V} (e : vs[n - 1 - i]? = some v) : (ItvK K k a n).go i H ∧ ∀ x H3, (ItvK K k a n).yld i H x H3 → H3 = H ∧ x = v := by
  cases k with
  | l =>
    refine ⟨⟨hi, vs, v, h, e⟩, fun x H3 y => ⟨y.1, ?_⟩⟩
    have := y.2 vs h
    rw [e] at this; cases this; rfl
  | t =>
    refine ⟨⟨hi, vs, v, h, e⟩, fun x H3 y => ⟨y.1, ?_⟩⟩
    have := y.2 vs h
    rw [e] at this; cases this; rfl
theorem itvK_stop {K : PySem.W.Frag} {H : Hp} {k : Sk} {a : Addr} {n : Nat} : (ItvK K k a n).stop n H := by
  cases k with
  | l => exact Nat.le_refl n
  | t => exact Nat.le_refl n
theorem si_rev {e : Expr} {f : Den} {p pos : Pos} (hg : Gl X "reversed") (hm : X.mg "reversed" = none) (h : SE X W e f) (hs : starEach [e] X.env = (false, eval e X.env) :: starEach [] X.env := by rfl) : SI X W tg (.Call (.Name "reversed" p) [e] [] pos) (iRev f) := by
  refine si_of (RT.pi_revA hg hm h hs) fun σ H R hb ⟨α, ρ, S, hE, hS, h⟩ => ?_
  refine td_bind hE hS h fun d S1 α1 H1 v n1 hE1 s1 b1 r1 h => ?_
  split at h
  · rename_i xs g e1
    obtain ⟨k, a, rfl, src, hg⟩ := asG_src s1 r1 e1
    obtain ⟨vs, hq, rq⟩ := src α1 H1 S1 .refl s1 hg
    have hl := rq.length
    have good : GoodIt (gxOf X) α1 H1 ⟨xs.reverse, g⟩ (ItvK X.K k a vs.length) := by
      refine ⟨by simpa using src_size b1 hq rq, fun α2 H2 S2 n2 s2 g2 i => ?_⟩
      obtain ⟨us, hq2, rr⟩ := src α2 H2 S2 n2 s2 g2
      have hl2 := rr.length
      refine ⟨fun d hd => ?_, fun hi => ?_⟩
      · have hi : i < xs.length := by have := (List.getElem?_eq_some_iff.mp hd).1; simpa using this
        have hd' : xs[vs.length - 1 - i]? = some d := by
          rw [List.getElem?_reverse hi] at hd
          rw [← hl]; exact hd
        obtain ⟨u, hu, ru⟩ := rr.get hd'
        obtain ⟨g1, g2⟩ := itvK_go (n := vs.length) hq2 (by omega) hu
        refine ⟨g1, fun x H3 y => ?_⟩
        obtain ⟨rfl, rfl⟩ := g2 x H3 y
        exact ⟨.refl, s2, ru⟩
      · rw [hi]
        simp only [List.length_reverse]
        rw [hl]
        exact itvK_stop
    refine ⟨a, vs, rfl, ?_⟩
    have h2 := h α1 H1 _ .refl s1 good
    cases k with
    | l => exact .inl ⟨hq, h2⟩
    | t => exact .inr ⟨hq, h2⟩
  · exact h.elim
end

/-! ### max, min of a list or a tuple -/
section
variable {prog : Program} {w : World} {A : Around} {E : Value → Shared → Prop} {s : Shared} {l : Addr} {xs : Array (Int × Tok)}
theorem iter_intTup {Q : Value → Shared → Prop} (hl : s.heap.IsTuple l (intItems xs))
    (h : ∀ s₂ : Shared, s₂ = { s with heap := s.heap.push { cls := .type "tuple_iterator", data := .fields #[.ref l, .int 0 0] } } →
      (s₂.heap.IsTupleIter s.heap.objs.size l 0 ∧ s₂.heap.IsTuple l (intItems xs)) → (∀ b ∈ [s.heap.objs.size, l], b < s₂.heap.objs.size) → l ≠ s.heap.objs.size → Q (.ref s.heap.objs.size) s₂) :
    wpAny (model prog w) A (pyIter (.ref l)) Q E s := by
  have hlt : l < s.heap.objs.size := by obtain ⟨_, e, _⟩ := hl; exact Heap.lt_size e
  refine wpAny_pyIter_tuple hl (h _ rfl ⟨⟨_, Heap.get?_push_size _ rfl, rfl, rfl⟩, hl.push _⟩ (fun b hb => ?_) (Nat.ne_of_lt hlt))
  show b < (s.heap.push _).objs.size
  rw [Heap.size_push]
  rcases List.mem_cons.mp hb with rfl | hb
  · exact Nat.lt_succ_self _
  · rcases List.mem_cons.mp hb with rfl | hb
    · exact Nat.lt_succ_of_lt hlt
    · cases hb
theorem old_keptT {h' : Heap} (hk : ∀ b o, b ∉ [s.heap.objs.size] → (s.heap.push { cls := .type "tuple_iterator", data := .fields #[.ref l, .int 0 0] }).get? b = some o → h'.get? b = some o) :
    ∀ b o, s.heap.get? b = some o → h'.get? b = some o := fun b o e => by
  refine hk b o (fun hm => ?_) (Heap.get?_push_of_some _ e)
  rcases List.mem_cons.mp hm with e1 | hm
  · exact absurd (e1 ▸ Heap.lt_size e) (Nat.lt_irrefl _)
  · cases hm
theorem max_intTup {Q : Value → Shared → Prop} (hh : A.handled = none) (hl : s.heap.IsTuple l (intItems xs)) (hne : 0 < xs.size)
    (h : ∀ v h' tk, (intItems xs)[argBest (fun i j => decide (numAt xs i > numAt xs j)) (xs.size - 1)]? = some v → (∀ b o, s.heap.get? b = some o → h'.get? b = some o) → Q v { s with heap := h', toks := tk }) :
    wpAny (model prog w) A (call (.builtin "max") [.ref l]) Q E s := by
  refine call_max_walk (iter_intTup hl fun s₂ e st hfp hlI => ?_)
  subst e
  refine ⟨_, _, _, _, _, _, _, rfl, Walks.tuple (A := A.in1) hh _ l hlI (intItems xs), st, hfp, by simpa [intItems] using hne, CmpOf.ints_gt (numAt xs) (fun _ _ => intItems_at), fun v h' tk hP hk => ?_⟩
  exact h v h' tk (by simpa [intItems] using hP) (old_keptT hk)
theorem min_intTup {Q : Value → Shared → Prop} (hh : A.handled = none) (hl : s.heap.IsTuple l (intItems xs)) (hne : 0 < xs.size)
    (h : ∀ v h' tk, (intItems xs)[argBest (fun i j => decide (numAt xs i < numAt xs j)) (xs.size - 1)]? = some v → (∀ b o, s.heap.get? b = some o → h'.get? b = some o) → Q v { s with heap := h', toks := tk }) :
    wpAny (model prog w) A (call (.builtin "min") [.ref l]) Q E s := by
  refine call_min_walk (iter_intTup hl fun s₂ e st hfp hlI => ?_)
  subst e
  refine ⟨_, _, _, _, _, _, _, rfl, Walks.tuple (A := A.in1) hh _ l hlI (intItems xs), st, hfp, by simpa [intItems] using hne, CmpOf.ints_lt (numAt xs) (fun _ _ => intItems_at), fun v h' tk hP hk => ?_⟩
  exact h v h' tk (by simpa [intItems] using hP) (old_keptT hk)
end
section
variable {X : Cx}
/-- max, min, sum: of a list, of a tuple (ints) -/
def rMaxT (K : PySem.W.Frag) : List V → Hp → VK → Prop := fun vs H Q => ∃ (a : Addr) (ns : List Int), vs = [V.ref a] ∧ SqT K H a (ns.map V.int) ∧ 0 < ns.length ∧ ∀ m, m ∈ ns → (∀ y, y ∈ ns → y ≤ m) → Q (.int m) H
def rMinT (K : PySem.W.Frag) : List V → Hp → VK → Prop := fun vs H Q => ∃ (a : Addr) (ns : List Int), vs = [V.ref a] ∧ SqT K H a (ns.map V.int) ∧ 0 < ns.length ∧ ∀ m, m ∈ ns → (∀ y, y ∈ ns → m ≤ y) → Q (.int m) H
theorem cr_maxT (hc : X.calm = true) : CallR X (.builtin "max") (rMaxT X.K) := by
  intro pins s σ H vs us Q I r h
  obtain ⟨a, ns, rfl, hs, hne, q⟩ := h
  obtain ⟨its, rv, hl, _⟩ := I.tuple hs
  rw [Vals.ref1 r]
  have hi := rv.ints
  obtain ⟨xs, e⟩ := hi.allInts.items
  have hn : numsOf (intItems xs).toList = ns := by rw [← e]; exact hi.numsOf
  rw [nums_intItems] at hn
  subst hn
  replace hl : s.heap.IsTuple a its.toArray := hl
  rw [e] at hl
  have hsz : 0 < xs.size := by simpa using hne
  refine max_intTup (I.ok.hd hc) hl hsz fun v h' tk hv hk => ?_
  obtain ⟨t, rfl⟩ := intItems_at hv
  obtain ⟨h1, h2⟩ := argBest_gt (numAt xs) (xs.size - 1)
  refine ⟨.int _, H, I.kept hk, ⟨_, rfl⟩, q _ ?_ fun y hy => ?_⟩
  · rw [numAt_eq]; exact PySem.getD_mem (by rw [List.length_map, Array.length_toList]; omega)
  · obtain ⟨j, hj, rfl⟩ := mem_getD hy
    rw [List.length_map, Array.length_toList] at hj
    rw [← numAt_eq]; exact h2 j (by omega)
theorem cr_minT (hc : X.calm = true) : CallR X (.builtin "min") (rMinT X.K) := by
  intro pins s σ H vs us Q I r h
  obtain ⟨a, ns, rfl, hs, hne, q⟩ := h
  obtain ⟨its, rv, hl, _⟩ := I.tuple hs
  rw [Vals.ref1 r]
  have hi := rv.ints
  obtain ⟨xs, e⟩ := hi.allInts.items
  have hn : numsOf (intItems xs).toList = ns := by rw [← e]; exact hi.numsOf
  rw [nums_intItems] at hn
  subst hn
  replace hl : s.heap.IsTuple a its.toArray := hl
  rw [e] at hl
  have hsz : 0 < xs.size := by simpa using hne
  refine min_intTup (I.ok.hd hc) hl hsz fun v h' tk hv hk => ?_
  obtain ⟨t, rfl⟩ := intItems_at hv
  obtain ⟨h1, h2⟩ := argBest_lt (numAt xs) (xs.size - 1)
  refine ⟨.int _, H, I.kept hk, ⟨_, rfl⟩, q _ ?_ fun y hy => ?_⟩
  · rw [numAt_eq]; exact PySem.getD_mem (by rw [List.length_map, Array.length_toList]; omega)
  · obtain ⟨j, hj, rfl⟩ := mem_getD hy
    rw [List.length_map, Array.length_toList] at hj
    rw [← numAt_eq]; exact h2 j (by omega)
def rMaxA (K : PySem.W.Frag) : List V → Hp → VK → Prop := fun vs H Q => rMax K vs H Q ∨ rMaxT K vs H Q
def rMinA (K : PySem.W.Frag) : List V → Hp → VK → Prop := fun vs H Q => rMin K vs H Q ∨ rMinT K vs H Q
theorem call_maxA (hc : X.calm = true) : CallR X (.builtin "max") (rMaxA X.K) := fun pins s σ H vs us Q I r h => h.elim (cr_max hc pins s σ H vs us Q I r) (cr_maxT hc pins s σ H vs us Q I r)
theorem call_minA (hc : X.calm = true) : CallR X (.builtin "min") (rMinA X.K) := fun pins s σ H vs us Q I r h => h.elim (cr_min hc pins s σ H vs us Q I r) (cr_minT hc pins s σ H vs us Q I r)
/-- ints of a list or a tuple -/
def onIntsA (f : List Int → Option D) : List D → Store → Res D
  | [d], S => match asQ S d with
    | some xs => match unInts xs with
      | some is => match f is with
        | some r => .ok r S
        | none => .bad
      | none => .bad
    | none => .bad
  | _, _ => .bad
theorem onIntsA_ok {r : List V → Hp → VK → Prop} {f : List Int → Option D}
    (k : ∀ (W : XK) α H S a is d Q, RelS (gxOf X) α H S → (SqL X.K H a (is.map V.int) ∨ SqT X.K H a (is.map V.int)) → f is = some d → PostR (gxOf X) W (Rep (gxOf X)) α H Q (.ok d S) → r [.ref a] H Q) : CallV (gxOf X) r (onIntsA f) := by
  intro W α H S xs vs Q hS hB r h
  unfold onIntsA at h
  split at h
  · obtain ⟨v, rfl, q1⟩ := reps1 r
    split at h
    · rename_i xs e1
      split at h
      · rename_i is e2
        split at h
        · rename_i d e3
          obtain ⟨a, us, rfl, h1, h2⟩ := asQ_rep hS q1 e1
          have e2 := unInts_eq e2
          subst e2
          have := h2.ints
          subst this
          exact k W α H S a is d Q hS h1 e3 h
        · exact h.elim
      · exact h.elim
    · exact h.elim
  · exact h.elim
def gMaxA := onIntsA fun is => (maxL is).map D.int
def gMinA := onIntsA fun is => (minL is).map D.int
theorem pos_of_map {is : List Int} {d : D} {f : List Int → Option Int} (hf : f [] = none) (e : (f is).map D.int = some d) : 0 < is.length := by
  cases is with
  | nil => rw [hf] at e; cases e
  | cons _ _ => simp
theorem v_maxA : CallV (gxOf X) (rMaxA X.K) gMaxA := onIntsA_ok fun W α H S a is d Q hS h1 e h => by
  have hp := pos_of_map rfl e
  obtain ⟨m, e1, rfl⟩ := Option.map_eq_some_iff.mp e
  have key : ∀ m', m' ∈ is → (∀ y, y ∈ is → y ≤ m') → Q (.int m') H := fun m' hm hy => by
    have e2 := maxL_eq hm hy
    rw [e1] at e2
    cases e2
    exact h α H _ .refl hS (.int _)
  rcases h1 with h1 | h1
  · exact .inl ⟨a, is, rfl, h1, hp, key⟩
  · exact .inr ⟨a, is, rfl, h1, hp, key⟩
theorem v_minA : CallV (gxOf X) (rMinA X.K) gMinA := onIntsA_ok fun W α H S a is d Q hS h1 e h => by
  have hp := pos_of_map rfl e
  obtain ⟨m, e1, rfl⟩ := Option.map_eq_some_iff.mp e
  have key : ∀ m', m' ∈ is → (∀ y, y ∈ is → m' ≤ y) → Q (.int m') H := fun m' hm hy => by
    have e2 := minL_eq hm hy
    rw [e1] at e2
    cases e2
    exact h α H _ .refl hS (.int _)
  rcases h1 with h1 | h1
  · exact .inl ⟨a, is, rfl, h1, hp, key⟩
  · exact .inr ⟨a, is, rfl, h1, hp, key⟩
end
end Dn

set_option maxHeartbeats 4000000
namespace Dn
open PySem PySem.Spec PyProof.Rows L2

/-! ### sorted of a list of tuples of ints (none empty) -/
/-- a tuple of ints in the heap -/
def TupI (h : Heap) (v : Value) (ns : List Int) : Prop := ∃ a o its n, v = .ref a ∧ h.get? a = some o ∧ o.cls = .type "tuple" ∧ o.data = .seq its n ∧ IntsAre its.toList ns
theorem TupI.keeps {h h' : Heap} {v : Value} {ns : List Int} (p : TupI h v ns) (k : ∀ b o, h.get? b = some o → o.cls = .type "tuple" → h'.get? b = some o) : TupI h' v ns := by
  obtain ⟨a, o, its, n, e, ho, hc, hd, hi⟩ := p
  exact ⟨a, o, its, n, e, k _ _ ho hc, hc, hd, hi⟩
def lexF (fin : Bool) : List Int → List Int → Bool
  | x :: xs, y :: ys => if x = y then lexF fin xs ys else decide (x < y)
  | _, _ => fin
theorem lexF_eq : ∀ ns ms : List Int, lexF (decide (ns.length < ms.length)) ns ms = HT.lexLt ns ms
  | [], [] => rfl
  | [], y :: ys => rfl
  | x :: xs, [] => rfl
  | x :: xs, y :: ys => by
    have ih := lexF_eq xs ys
    rw [HT.lexLt_cons, ← ih]
    show (if x = y then lexF _ xs ys else _) = _
    have e : decide ((x :: xs).length < (y :: ys).length) = decide (xs.length < ys.length) := by simp
    rw [e]
section
variable {prog : Program} {w : World} {A : Around} {s : Shared}
theorem katLex_ints {fin : Bool} {Q : Bool → Shared → Prop} : ∀ {us : List Value} {ns : List Int}, IntsAre us ns → ∀ {vs : List Value} {ms : List Int}, IntsAre vs ms → ∀ i : Nat, Q (lexF fin ns ms) s → PySem.W.KatLex prog w A true fin Q (us.zip vs) i s
  | _, _, .nil, _, _, _, i, q => PySem.W.kat_nil q
  | _, _, .cons x t h, _, _, .nil, i, q => PySem.W.kat_nil q
  | _, _, .cons x t (vs := us) (ns := ns) h, _, _, .cons y u (vs := vs) (ns := ms) h', i, q => by
    refine PySem.W.kat_cons (SeqAt.EqAt.int_int x t y u prog w _ _ ?_)
    refine PySem.W.kat_go (fun e1 => ?_) (fun e1 => ?_)
    · have ex : x = y := by simpa using e1
      refine PySem.W.kat_yes (katLex_ints h h' (i + 1) ?_)
      have e : lexF fin (x :: ns) (y :: ms) = lexF fin ns ms := by show (if x = y then lexF fin ns ms else decide (x < y)) = _; rw [if_pos ex]
      rw [← e]; exact q
    · have ex : ¬ x = y := by simpa using e1
      refine PySem.W.kat_no (TS.oneLt_ints _ ?_)
      have e : lexF fin (x :: ns) (y :: ms) = decide (x < y) := by show (if x = y then lexF fin ns ms else decide (x < y)) = _; rw [if_neg ex]
      rw [← e]; exact q
def nOf : Value → Int
  | .int i _ => i
  | _ => 0
/-- the ints of a tuple, read off the heap -/
def tiOf (h : Heap) (v : Value) : List Int := match v with
  | .ref a => match h.get? a with
    | some o => match o.data with
      | .seq xs _ => xs.toList.map nOf
      | _ => []
    | none => []
  | _ => []
theorem tiOf_eq {h : Heap} {v : Value} {ns : List Int} (p : TupI h v ns) : tiOf h v = ns := by
  obtain ⟨a, o, its, n, rfl, ho, hc, hd, hi⟩ := p
  unfold tiOf
  simp only [ho, hd]
  clear hd
  generalize its.toList = l at hi
  induction hi with
  | nil => rfl
  | cons x t h ih => rw [List.map_cons, ih]; rfl
theorem tup_cmp {vs : List Value} {k : Value → List Int} (hp : ∀ v ∈ vs, TupI s.heap v (k v)) : SrtO.Cmp prog w A s (tuples' true) (fun p => p.1 ∈ vs) (SrtO.lt2 fun v u => HT.lexLt (k v) (k u)) := by
  intro p q hm hm'
  obtain ⟨a, o, its, n, e, ho, hc, hd, hi⟩ := hp _ hm
  obtain ⟨a', o', its', n', e', ho', hc', hd', hi'⟩ := hp _ hm'
  show wpAny (model prog w) A (keyLt' (tuples' true) p.1 q.1) (fun r s' => s' = s ∧ r = HT.lexLt (k p.1) (k q.1)) (fun _ _ => False) s
  rw [e, e']
  refine PySem.W.kat_lt ho hd ho' hd' (katLex_ints hi hi' 0 ⟨rfl, ?_⟩)
  rw [← lexF_eq, ← e, ← e']
  have l1 := hi.length
  have l2 := hi'.length
  simp only [Array.length_toList] at l1 l2
  rw [l1, l2]
theorem firsts_tup {h : Heap} {k : Value → List Int} : ∀ {vs : List Value}, (∀ v ∈ vs, TupI h v (k v) ∧ k v ≠ []) → ∃ fs : List Value, PySem.W.KatTups h vs fs ∧ fs.length = vs.length ∧ ∀ f ∈ fs, ∃ x t, f = Value.int x t
  | [], _ => ⟨[], PySem.W.KatTups.nil, rfl, fun _ hm => by simp at hm⟩
  | v :: vs, hp => by
    obtain ⟨fs, h1, h2, h3⟩ := firsts_tup (vs := vs) fun v' hm => hp v' (List.mem_cons_of_mem _ hm)
    obtain ⟨⟨a, o, its, n, e, ho, hc, hd, hi⟩, hne⟩ := hp v (List.mem_cons_self ..)
    obtain ⟨x, t, hx⟩ : ∃ x t, its[0]? = some (Value.int x t) := by
      rw [← Array.getElem?_toList]
      generalize its.toList = l at hi
      generalize k v = m at hi hne
      cases hi with
      | nil => exact absurd rfl hne
      | cons x t h => exact ⟨x, t, rfl⟩
    subst e
    refine ⟨.int x t :: fs, PySem.W.KatTups.cons ho hc hd hx h1, by rw [List.length_cons, List.length_cons, h2], fun f hm => ?_⟩
    rcases List.mem_cons.mp hm with rfl | hm
    · exact ⟨x, t, rfl⟩
    · exact h3 f hm
theorem tups_sortable {a : Addr} {vs : List Value} {k : Value → List Int} (h0 : 0 < vs.length) (hp : ∀ v ∈ vs, TupI s.heap v (k v) ∧ k v ≠ []) (ha : ∀ o, s.heap.get? a = some o → o.cls ≠ .type "tuple") : SrtO.SortableO prog w A s a vs fun v u => HT.lexLt (k v) (k u) := by
  intro h' keep
  have hp' : ∀ v ∈ vs, TupI h' v (k v) ∧ k v ≠ [] := fun v hm => ⟨(hp v hm).1.keeps fun b o e c => keep b o (fun z => by subst z; exact ha o e c) e, (hp v hm).2⟩
  obtain ⟨fs, h1, h2, h3⟩ := firsts_tup hp'
  refine ⟨tuples' true, fun Q E hq => ?_, tup_cmp fun v hm => (hp' v hm).1⟩
  refine PySem.W.kat_kind (T := .type "int") h1 (by omega) (fun f hm => ?_) (by rfl) ?_
  · obtain ⟨x, t, rfl⟩ := h3 f hm
    exact PySem.W.Looks.now
  · have e : (Value.type "int" != Value.type "tuple") = true := by first | decide +kernel | rfl | decide
    rw [e]
    exact hq
end
theorem perm_lift {α β : Type} (f : α → β) : ∀ {l m : List β}, l.Perm m → ∀ ws : List α, m = ws.map f → ∃ ws' : List α, ws'.Perm ws ∧ ws'.map f = l := by
  intro l m h
  induction h with
  | nil => intro ws e; cases ws with
    | nil => exact ⟨[], .nil, rfl⟩
    | cons _ _ => simp at e
  | cons x h ih => intro ws e; cases ws with
    | nil => simp at e
    | cons w ws =>
      simp at e
      obtain ⟨ws', p, q⟩ := ih ws e.2
      exact ⟨w :: ws', p.cons w, by simp [q, e.1]⟩
  | swap x y l => intro ws e; cases ws with
    | nil => simp at e
    | cons a ws => cases ws with
      | nil => simp at e
      | cons b ws =>
        simp at e
        exact ⟨b :: a :: ws, .swap _ _ _, by simp [e.1, e.2.1, e.2.2]⟩
  | trans h1 h2 ih1 ih2 =>
    intro ws e
    obtain ⟨ws2, p2, q2⟩ := ih2 ws e
    obtain ⟨ws1, p1, q1⟩ := ih1 ws2 q2.symm
    exact ⟨ws1, p1.trans p2, q1⟩
def rSortTs (K : PySem.W.Frag) : List V → Hp → VK → Prop := fun vs H Q => ∃ (a : Addr) (zs : List (List Int × V)), vs = [V.ref a] ∧ SqL K H a (zs.map (·.2)) ∧ (∀ z ∈ zs, z.1 ≠ [] ∧ ∃ t, z.2 = V.ref t ∧ SqT K H t (z.1.map V.int)) ∧
  ∀ (zs' : List (List Int × V)) (p : Addr), zs'.Perm zs → (zs'.Pairwise fun a b => HT.lexLt b.1 a.1 = false) → H p = none → Q (.ref p) (upd H p (.lst (zs'.map (·.2))))
theorem vals_zip {vs : List V} {us : List Value} (h : Vals vs us) : ∀ z ∈ vs.zip us, RelV z.1 z.2 := by
  induction h with
  | nil => intro z hz; simp at hz
  | cons r t ih =>
    intro z hz
    rw [List.zip_cons_cons] at hz
    rcases List.mem_cons.mp hz with rfl | hz
    · exact r
    · exact ih z hz
theorem vals_mk {τ : Type} (f : τ → V) (g : τ → Value) : ∀ ws : List τ, (∀ w ∈ ws, RelV (f w) (g w)) → Vals (ws.map f) (ws.map g)
  | [], _ => .nil
  | w :: ws, h => .cons (h w List.mem_cons_self) (vals_mk f g ws fun x m => h x (List.mem_cons_of_mem _ m))
section
variable {X : Cx}
theorem cr_sortTs : CallR X (.builtin "sorted") (rSortTs X.K) := by
  intro pins s σ H vs us Q I r h
  obtain ⟨a, zs, rfl, hs, hx, q⟩ := h
  obtain ⟨its, rv, hl, hz⟩ := I.list hs
  rw [Vals.ref1 r]
  have hlen : zs.length = its.length := by have := rv.length; simpa using this
  have key : ∀ w ∈ zs.zip its, RelV w.1.2 w.2 ∧ TupI s.heap w.2 w.1.1 ∧ w.1.1 ≠ [] := by
    intro w hw
    have h1 : w.1 ∈ zs := (List.of_mem_zip hw).1
    obtain ⟨hne, t, e, hT⟩ := hx _ h1
    have h2 : RelV w.1.2 w.2 := by
      have hm : (w.1.2, w.2) ∈ (zs.map (·.2)).zip its := by
        rw [List.zip_map_left]
        exact List.mem_map.mpr ⟨w, hw, rfl⟩
      exact vals_zip rv _ hm
    refine ⟨h2, ?_, hne⟩
    rw [e] at h2
    have e2 : w.2 = Value.ref t := h2
    obtain ⟨ts, rt, ht, _⟩ := I.tuple hT
    obtain ⟨o, ho, hc, n, hd⟩ := ht
    rw [e2]
    exact ⟨t, o, ts.toArray, n, rfl, ho, hc, hd, rt.ints⟩
  have hmem : ∀ v ∈ its, ∃ w ∈ zs.zip its, w.2 = v := fun v hv => by
    obtain ⟨i, hi, e⟩ := List.getElem_of_mem hv
    have hi2 : i < (zs.zip its).length := by rw [List.length_zip]; omega
    exact ⟨(zs.zip its)[i], List.getElem_mem hi2, by rw [List.getElem_zip]; exact e⟩
  have hk : ∀ v ∈ its, TupI s.heap v (tiOf s.heap v) ∧ tiOf s.heap v ≠ [] := fun v hv => by
    obtain ⟨w, hw, rfl⟩ := hmem v hv
    obtain ⟨_, k1, k2⟩ := key w hw
    rw [tiOf_eq k1]
    exact ⟨k1, k2⟩
  refine SrtO.sorted_ord (NtL.swo_lexL (tiOf s.heap)) hl.isList (by rw [← rv.length]; exact hz) (fun h2 h₁ a' ha kk => ?_) fun out h1 h2 => ?_
  · refine tups_sortable (s := { s with heap := h₁ }) (by omega) (fun v hv => ⟨(hk v hv).1.keeps fun b o e _ => (kk b o e).2, (hk v hv).2⟩) fun o e => ?_
    have e' := e.symm.trans ha
    cases e'
    intro c
    exact absurd (Value.type.inj c) (by decide)
  · obtain ⟨ep, he'⟩ := PyProof.Rows.sortedAll_at s.heap its out.toArray
    have hits : its = (zs.zip its).map (·.2) := by rw [List.map_snd_zip (by omega)]
    obtain ⟨ws, wp, we⟩ := perm_lift (·.2) h2.perm (zs.zip its) hits
    have hwk : ∀ w ∈ ws, RelV w.1.2 w.2 ∧ TupI s.heap w.2 w.1.1 ∧ w.1.1 ≠ [] := fun w hw => key w (wp.mem_iff.mp hw)
    have e1 : (ws.map (·.1)).map (·.2) = ws.map fun w => w.1.2 := by rw [List.map_map]; rfl
    have rvo : Vals ((ws.map (·.1)).map (·.2)) out := by
      rw [e1, ← we]
      exact vals_mk _ _ ws fun w hw => (hwk w hw).1
    have hperm : (ws.map (·.1)).Perm zs := by
      have := wp.map (·.1)
      rwa [List.map_fst_zip (by omega)] at this
    have hsort : (ws.map (·.1)).Pairwise fun a b => HT.lexLt b.1 a.1 = false := by
      rw [List.pairwise_map]
      have h1' : (ws.map (·.2)).Pairwise fun x y => HT.lexLt (tiOf s.heap y) (tiOf s.heap x) = false := by rw [we]; exact h1
      rw [List.pairwise_map] at h1'
      refine List.Pairwise.imp_of_mem (fun {x y} hx hy h => ?_) h1'
      rw [tiOf_eq (hwk x hx).2.1, tiOf_eq (hwk y hy).2.1] at h
      exact h
    have hsz : ((ws.map (·.1)).map (·.2)).length ≤ sizeLine := by
      rw [List.length_map, hperm.length_eq]
      simpa using hz
    exact ⟨.ref _, upd H (s.heap.objs.size + 1) (.lst ((ws.map (·.1)).map (·.2))), I.laid (t' := s.toks) (fun _ _ => PyProof.Rows.sortedAll_old) (Nat.le_succ _) ⟨hsz, out, ep, rvo, he'⟩, rfl, q _ _ hperm hsort (I.hok.fresh (Nat.le_succ _))⟩
end
theorem lex_anti : ∀ {xs ys : List Int}, HT.lexLt xs ys = false → HT.lexLt ys xs = false → xs = ys
  | [], [], _, _ => rfl
  | [], y :: ys, h, _ => by rw [HT.lexLt_nil_cons] at h; cases h
  | x :: xs, [], _, h => by rw [HT.lexLt_nil_cons] at h; cases h
  | x :: xs, y :: ys, h1, h2 => by
    rw [HT.lexLt_cons] at h1 h2
    by_cases e : x = y
    · rw [if_pos e] at h1
      rw [if_pos e.symm] at h2
      rw [e, lex_anti h1 h2]
    · rw [if_neg e] at h1
      rw [if_neg (Ne.symm e)] at h2
      have a := of_decide_eq_false h1
      have b := of_decide_eq_false h2
      omega
theorem lex_tot (xs ys : List Int) : HT.lexLt ys xs = false ∨ HT.lexLt xs ys = false := by
  cases h : HT.lexLt xs ys with
  | false => exact .inr rfl
  | true => exact .inl (NtL.lex_asym _ _ h)
def unTup : D → Option (List Int)
  | .tup xs => unInts xs
  | _ => none
def unTups : List D → Option (List (List Int))
  | [] => some []
  | d :: ds => match unTup d, unTups ds with
    | some k, some ks => some (k :: ks)
    | _, _ => none
def mkT (k : List Int) : D := .tup (k.map D.int)
theorem unTup_eq {d : D} {k : List Int} (e : unTup d = some k) : d = mkT k := by
  cases d with
  | tup xs => exact congrArg D.tup (unInts_eq e)
  | _ => simp [unTup] at e
theorem unTups_eq : ∀ {ds : List D} {ks : List (List Int)}, unTups ds = some ks → ds = ks.map mkT
  | [], ks, e => by simp [unTups] at e; subst e; rfl
  | d :: ds, ks, e => by
    unfold unTups at e
    split at e
    · rename_i k ks' e1 e2
      cases e
      rw [unTup_eq e1, unTups_eq e2]; rfl
    · cases e
theorem unTups_map : ∀ ks : List (List Int), unTups (ks.map mkT) = some ks
  | [] => rfl
  | k :: ks => by
    show (match unTup (mkT k), unTups (ks.map mkT) with | some k, some ks => some (k :: ks) | _, _ => none) = _
    rw [unTups_map ks]
    show (match unInts (k.map D.int), some ks with | some k, some ks => some (k :: ks) | _, _ => none) = _
    rw [unInts_map]
def sortT (ks : List (List Int)) : List (List Int) := ks.mergeSort (fun a b => !HT.lexLt b a)
theorem sortT_sorted (ks : List (List Int)) : (sortT ks).Pairwise fun a b => HT.lexLt b a = false := by
  have := List.pairwise_mergeSort (le := fun a b => !HT.lexLt b a) (fun a b c h1 h2 => by
    simp only [Bool.not_eq_true'] at h1 h2 ⊢
    exact NtL.lex_tr a b c h1 h2) (fun a b => by
    rcases lex_tot a b with h | h <;> simp [h]) ks
  exact this.imp fun h => by simpa using h
theorem sortT_eq {ks js : List (List Int)} (p : js.Perm ks) (s : js.Pairwise fun a b => HT.lexLt b a = false) : sortT ks = js := by
  have p2 : (sortT ks).Perm js := (List.mergeSort_perm _ _).trans p.symm
  exact List.Perm.eq_of_pairwise (fun a b _ _ h1 h2 => (lex_anti h2 h1)) (sortT_sorted ks) s p2
/-- sorted: ints, or tuples of ints -/
def gSortA : List D → Store → Res D
  | [d], S => match asL S d with
    | some xs => match unInts xs with
      | some is => .ok (.lst ((sortI is).map D.int)) S
      | none => match unTups xs with
        | some ks => if ks.all (fun k => !k.isEmpty) then .ok (.lst ((sortT ks).map mkT)) S else .bad
        | none => .bad
    | none => .bad
  | _, _ => .bad
def rSortA (K : PySem.W.Frag) : List V → Hp → VK → Prop := fun vs H Q => rSortedI K vs H Q ∨ rSortTs K vs H Q
section
variable {X : Cx}
theorem call_sortA (_ : X.calm = true) : CallR X (.builtin "sorted") (rSortA X.K) := fun pins s σ H vs us Q I r h => h.elim (cr_sortedI pins s σ H vs us Q I r) (cr_sortTs pins s σ H vs us Q I r)
theorem reps_zip {G : Gx} {α : List Addr} {H : Hp} : ∀ {ks : List (List Int)} {vs : List V}, Reps G α H (ks.map mkT) vs → ∀ z ∈ ks.zip vs, Rep G α H (mkT z.1) z.2
  | [], vs, _, z, hz => by simp at hz
  | k :: ks, _, .cons r t, z, hz => by
    rw [List.zip_cons_cons] at hz
    rcases List.mem_cons.mp hz with rfl | hz
    · exact r
    · exact reps_zip t z hz
theorem reps_mk {G : Gx} {α : List Addr} {H : Hp} {τ : Type} (f : τ → D) (g : τ → V) : ∀ ws : List τ, (∀ w ∈ ws, Rep G α H (f w) (g w)) → Reps G α H (ws.map f) (ws.map g)
  | [], _ => .nil
  | w :: ws, h => .cons (h w List.mem_cons_self) (reps_mk f g ws fun x m => h x (List.mem_cons_of_mem _ m))
theorem v_sortA : CallV (gxOf X) (rSortA X.K) gSortA := by
  intro W α H S xs vs Q hS hB r h
  unfold gSortA at h
  split at h
  · obtain ⟨v, rfl, q1⟩ := reps1 r
    split at h
    · rename_i xs e1
      obtain ⟨a, us, rfl, h1, h2⟩ := asL_rep hS q1 e1
      split at h
      · rename_i is e2
        have e2 := unInts_eq e2
        subst e2
        have := h2.ints
        subst this
        refine .inl ⟨a, is, rfl, SqL.of h1, fun js p hp hs hn => ?_⟩
        rw [sortI_eq hp hs] at h
        exact post_lst hS (Reps.ofInts js) h p hn
      · split at h
        · rename_i ks e2
          split at h
          · rename_i hne
            have e2 := unTups_eq e2
            subst e2
            have hl : ks.length = us.length := by have := h2.length; simpa using this
            have hz := reps_zip h2
            refine .inr ⟨a, ks.zip us, rfl, ?_, fun z hm => ⟨?_, ?_⟩, fun zs' p hp hs hn => ?_⟩
            · rw [List.map_snd_zip (by omega)]; exact SqL.of h1
            · have := List.all_eq_true.mp hne z.1 (List.of_mem_zip hm).1
              intro e
              rw [e] at this
              simp at this
            · have rz := hz z hm
              generalize z.2 = v at rz
              cases rz with
              | @tup t xs vs hx rx =>
                have := rx.ints
                subst this
                exact ⟨t, rfl, Rep.sqT hx⟩
            · have e3 : sortT ks = zs'.map (·.1) := by
                refine sortT_eq ?_ (List.pairwise_map.mpr hs)
                have := hp.map (·.1)
                rwa [List.map_fst_zip (by omega)] at this
              rw [e3] at h
              refine post_lst hS ?_ h p hn
              rw [List.map_map]
              exact reps_mk _ _ zs' fun w hw => hz w (hp.mem_iff.mp hw)
          · exact h.elim
        · exact h.elim
    · exact h.elim
  · exact h.elim
end
end Dn

set_option maxHeartbeats 4000000
namespace Dz
open PySem PySem.W PySem.Calls PyProof.Rows PyProof.V PySem.Spec
/-- an iterator that gives new tuples, to a list S that holds them -/
structure HW (prog : Program) (w : World) (A : Around) (I : Addr) (wr : List Addr) (n : Nat) (Pt : Nat → Array Value → Prop) (S : Addr) (St : Nat → Heap → Prop) : Prop where
  off : S ∉ wr
  frame : ∀ i h h', St i h → (∀ b o, b ≠ S → h.get? b = some o → h'.get? b = some o) → St i h'
  item : ∀ i (s : Shared) (Q : Option Value → Shared → Prop) (E : Value → Shared → Prop), i < n → St i s.heap → S < s.heap.objs.size →
    (∀ vals h' tk, Pt i vals → h'.get? s.heap.objs.size = some { cls := .type "tuple", data := .seq vals } → St (i + 1) h' → (∀ b o, b ∉ wr → s.heap.get? b = some o → h'.get? b = some o) → s.toks ≤ tk → Q (some (.ref s.heap.objs.size)) { s with heap := h', toks := tk }) →
    wpAny (model prog w) A (pyNext (.ref I)) Q E s
  done : ∀ (s : Shared) (Q : Option Value → Shared → Prop) (E : Value → Shared → Prop), St n s.heap → (∀ h' tk, (∀ b o, b ∉ wr → s.heap.get? b = some o → h'.get? b = some o) → s.toks ≤ tk → Q none { s with heap := h', toks := tk }) → wpAny (model prog w) A (pyNext (.ref I)) Q E s
  low : ∀ i h, St i h → ∀ b ∈ wr, b < h.objs.size
structure TG (Pt : Nat → Array Value → Prop) (lo : Addr) (h : Heap) (as : List Addr) : Prop where
  rise : as.Pairwise (· < ·)
  above : ∀ a ∈ as, lo ≤ a
  pairs : ∀ (j : Nat) (a : Addr), as[j]? = some a → ∃ vals, Pt j vals ∧ h.get? a = some { cls := .type "tuple", data := .seq vals }
theorem TG.there {Pt : Nat → Array Value → Prop} {lo : Addr} {h : Heap} {as : List Addr} (g : TG Pt lo h as) {a : Addr} (ha : a ∈ as) : a < h.objs.size := by
  obtain ⟨j, hj⟩ := List.mem_iff_getElem?.mp ha
  obtain ⟨_, _, e⟩ := g.pairs j a hj
  exact Heap.lt_size e
section
variable {prog : Program} {w : World} {A : Around} {s : Shared} {R : Result → Shared → Prop} {I S : Addr} {wr : List Addr} {n : Nat} {Pt : Nat → Array Value → Prop} {St : Nat → Heap → Prop}
theorem hw_loop (W : HW prog w A.in1 I wr n Pt S St) (hn : n ≤ sizeLine) (res : Value) {h₁ : Heap} (hlo : S < h₁.objs.size) (hwr : ∀ b ∈ wr, b < h₁.objs.size)
    (hR : ∀ h' tk acc c as, (∀ b o, b ≠ S → b ∉ wr → h₁.get? b = some o → h'.get? b = some o) → h'.get? S = some { cls := .type "list", dict := none, data := .seq acc c, slots := #[] } → as.length = n → TG Pt h₁.objs.size h' as →
      acc.toList = as.map Value.ref → R (.ok (.ret res)) { s with heap := h', toks := tk }) :
    ∀ (k i : Nat) (h : Heap) (tk c : Nat) (acc : Array Value) (as : List Addr), n - i = k → i ≤ n → St i h → (∀ b o, b ≠ S → b ∉ wr → h₁.get? b = some o → h.get? b = some o) →
      h.get? S = some { cls := .type "list", dict := none, data := .seq acc c, slots := #[] } → acc.toList = as.map Value.ref → as.length = i → TG Pt h₁.objs.size h as → h₁.objs.size ≤ h.objs.size →
      codeAny (model prog w) A (.builtin "list.extend.loop" ⟨[.ref S, .ref I, res], []⟩) R { s with heap := h, toks := tk } := by
  intro k
  induction k with
  | zero =>
    intro i h tk c acc as hk hi hst hkeep hS hacc hal hG hIs
    have hin : i = n := by omega
    subst hin
    refine codeAny_builtin PySem.F.entry_extend_loop ?_
    rw [Around.under_plainId PySem.F.plain_extend_loop _]
    show wpAny _ A.in1 (pyNext (.ref I) >>= _) _ _ _
    refine wpAny_bind (W.done { s with heap := h, toks := tk } _ _ hst fun h' tk' he _ => ?_)
    refine wpAny_pure (hR h' tk' acc c as (fun b o h1 h2 e => he b o h2 (hkeep b o h1 h2 e)) (he S _ W.off hS) (by omega) ⟨hG.rise, hG.above, fun j a hj => ?_⟩ hacc)
    obtain ⟨vals, hp, e3⟩ := hG.pairs j a hj
    refine ⟨vals, hp, he a _ (fun hm => ?_) e3⟩
    exact Nat.lt_irrefl _ (Nat.lt_of_lt_of_le (hwr a hm) (hG.above a (List.mem_of_getElem? hj)))
  | succ k ih =>
    intro i h tk c acc as hk hi hst hkeep hS hacc hal hG hIs
    have hlt : i < n := by omega
    have hsz : acc.size = i := by rw [← Array.length_toList, hacc, List.length_map, hal]
    have hSl : S < h.objs.size := Heap.lt_size hS
    refine codeAny_builtin PySem.F.entry_extend_loop ?_
    rw [Around.under_plainId PySem.F.plain_extend_loop _]
    show wpAny _ A.in1 (pyNext (.ref I) >>= _) _ _ _
    refine wpAny_bind (W.item i { s with heap := h, toks := tk } _ _ hlt hst hSl fun vals h' tk' hP ht hst' hkp htk => ?_)
    dsimp only at ht hkp ⊢
    have hS' := hkp S _ W.off hS
    have up : ∀ b o, b ≠ S → h'.get? b = some o → (h'.update S (Obj.mapSeq (·.push (Value.ref h.objs.size)))).get? b = some o := fun b o hb e => (Heap.get?_update_other _ _ (Ne.symm hb)).trans e
    have newN : ∀ b ∈ wr, b ≠ h.objs.size := fun b hb => Nat.ne_of_lt (Nat.lt_of_lt_of_le (hwr b hb) hIs)
    show wpAny _ A.in1 (updateSeq S (·.push (Value.ref h.objs.size)) >>= _) _ _ _
    refine wpAny_bind ?_
    refine wpAny_updateSeq hS' rfl (wpAny_pure ⟨plainId_quiet PySem.F.plain_extend_loop _, ih (i + 1) _ tk' _ (acc.push (Value.ref h.objs.size)) (as ++ [h.objs.size]) (by omega) hlt (W.frame _ _ _ hst' up)
      (fun b o h1 h2 e => up b o h1 (hkp b o h2 (hkeep b o h1 h2 e))) (Heap.get?_update_self _ hS' rfl) (by rw [Array.toList_push, hacc, List.map_append]; rfl) (by rw [List.length_append, hal]; rfl) ⟨?_, ?_, ?_⟩ ?_⟩) (by rw [hsz]; omega) (by show (acc.push (Value.ref h.objs.size)).size ≤ sizeLine + 1; rw [Array.size_push, hsz]; omega)
    · refine List.pairwise_append.mpr ⟨hG.rise, List.pairwise_singleton _ _, fun a ha b hb => ?_⟩
      rw [List.mem_singleton.mp hb]
      exact hG.there ha
    · intro a ha
      rcases List.mem_append.mp ha with ha | ha
      · exact hG.above a ha
      · rw [List.mem_singleton.mp ha]; exact hIs
    · intro j b hj
      rcases Nat.lt_trichotomy j as.length with h1 | h1 | h1
      · rw [List.getElem?_append_left h1] at hj
        obtain ⟨vals2, hp2, e3⟩ := hG.pairs j b hj
        have hb := hG.above b (List.mem_of_getElem? hj)
        exact ⟨vals2, hp2, up b _ (Nat.ne_of_gt (Nat.lt_of_lt_of_le hlo hb)) (hkp b _ (fun hm => Nat.lt_irrefl _ (Nat.lt_of_lt_of_le (hwr b hm) hb)) e3)⟩
      · subst h1
        have hb : h.objs.size = b := by simpa using hj
        subst hb
        exact ⟨vals, by rw [hal]; exact hP, up _ _ (Nat.ne_of_gt hSl) ht⟩
      · have hnone : (as ++ [h.objs.size])[j]? = none := List.getElem?_eq_none (by rw [List.length_append, List.length_singleton]; omega)
        rw [hnone] at hj; cases hj
    · have e : (h'.update S (Obj.mapSeq (·.push (Value.ref h.objs.size)))).get? h.objs.size = _ := up _ _ (Nat.ne_of_gt hSl) ht
      exact Nat.le_of_lt (Nat.lt_of_le_of_lt hIs (Heap.lt_size e))
end
section
variable {prog : Program} {w : World} {A : Around} {E : Value → Shared → Prop} {s : Shared} {I S : Addr} {wr : List Addr} {n : Nat} {Pt : Nat → Array Value → Prop} {St : Nat → Heap → Prop} {T : String}
theorem hw_extend {R : Result → Shared → Prop} (W : HW prog w A.in1 I wr n Pt S St) (hself : ∀ (s : Shared) (Q : Value → Shared → Prop) (E : Value → Shared → Prop), St 0 s.heap → Q (.ref I) s → wpAny (model prog w) A.in1 (pyIter (.ref I)) Q E s)
    (hl : typeLookup (.type T) "__len__" = pure none) (hn0 : typeLookup (.type T) "__length_hint__" = pure none) (h2 : (Value.type T == Value.type "list") = false) (h3 : (Value.type T == Value.type "tuple") = false) (hT : ∀ s : Shared, St 0 s.heap → s.TypeIs (.ref I) T)
    (res : Value) (c₀ : Nat) (hst : St 0 s.heap) (hSI : S ≠ I) (hS : s.heap.get? S = some { cls := .type "list", data := .seq #[] c₀ })
    (hR : ∀ h' tk acc c as, (∀ b o, b ≠ S → b ∉ wr → s.heap.get? b = some o → h'.get? b = some o) → h'.get? S = some { cls := .type "list", dict := none, data := .seq acc c, slots := #[] } → as.length = n → TG Pt s.heap.objs.size h' as →
      acc.toList = as.map Value.ref → R (.ok (.ret res)) { s with heap := h', toks := tk }) (hn : n ≤ sizeLine) :
    wpAny (model prog w) A.in1 (Builtin.List.listExtendWith (.ref S) (.ref I) res)
      (fun fin s' => match fin with | .done f => R (.ok f) s' | .again c' => c'.quiet = true ∧ codeAny (model prog w) A c' R s') (fun e s' => R (.error e) s') s := by
  unfold Builtin.List.listExtendWith
  refine wpAny_bind (wpAny_typeOf (hT _ hst) ?_)
  have h1 : Builtin.List.listSameRef (.ref S) (.ref I) = false := by simp [Builtin.List.listSameRef, hSI]
  simp only [h1, h2, h3, Bool.or_false, Bool.false_eq_true, if_false]
  refine wpAny_bind (hself _ _ _ hst ?_)
  refine wpAny_bind (wpAny_holding ?_)
  unfold Builtin.List.listLengthHint
  refine wpAny_bind (wpAny_specialOf (hT _ hst) hl ?_)
  show wpAny _ A.in1 (specialOf (Value.ref I) (Str.ofString "__length_hint__") >>= _) _ _ _
  refine wpAny_bind (wpAny_specialOf (hT _ hst) hn0 ?_)
  refine wpAny_pure ?_
  show wpAny _ A.in1 (rule "list.extend.makes-room" >>= fun _ => Builtin.List.listTouch (.ref S) >>= fun _ =>
    again (.builtin "list.extend.loop" ⟨[.ref S, .ref I, res], []⟩)) _ _ _
  refine wpAny_bind (wpAny_rule ?_)
  refine wpAny_bind ?_
  show wpAny _ A.in1 (updateSeq S (·.push .none) >>= fun _ => updateSeq S (·.pop)) _ _ _
  refine wpAny_bind (wpAny_updateSeq hS rfl ?_)
  have hS₂ := Heap.get?_update_self (Obj.mapSeq (·.push Value.none)) hS rfl
  refine wpAny_updateSeq (hz := by seq_fits) hS₂ rfl ?_
  have hS₃ := Heap.get?_update_self (Obj.mapSeq (·.pop)) hS₂ rfl
  have oth : ∀ b o, b ≠ S → s.heap.get? b = some o → ((s.heap.update S (Obj.mapSeq (·.push Value.none))).update S (Obj.mapSeq (·.pop))).get? b = some o :=
    fun b o hb e => (Heap.get?_update_other _ _ (Ne.symm hb)).trans ((Heap.get?_update_other _ _ (Ne.symm hb)).trans e)
  have sz : ((s.heap.update S (Obj.mapSeq (·.push Value.none))).update S (Obj.mapSeq (·.pop))).objs.size = s.heap.objs.size := by
    rw [Heap.size_update, Heap.size_update]
  have hst₃ := W.frame 0 _ _ hst oth
  refine wpAny_pure ⟨plainId_quiet PySem.F.plain_extend_loop _, hw_loop (s := s) (h₁ := (s.heap.update S (Obj.mapSeq (·.push Value.none))).update S (Obj.mapSeq (·.pop))) W hn res (by rw [sz]; exact Heap.lt_size hS) (fun b hb => by rw [sz]; exact W.low 0 _ hst b hb) (fun h' tk acc c as hk hS' hl hG hacc => ?_) n 0 _ s.toks _ #[] [] (Nat.sub_zero _) (Nat.zero_le _) hst₃ (fun b o _ _ e => e) hS₃ rfl rfl ⟨List.Pairwise.nil, (fun _ ha => nomatch ha), (fun j a hj => by simp at hj)⟩ (Nat.le_refl _)⟩
  rw [sz] at hG
  exact hR h' tk acc c as (fun b o h1 h2 e => hk b o h1 h2 (oth b o h1 e)) hS' hl hG hacc
theorem hw_init {R : Result → Shared → Prop} (W : HW prog w A.in1 I wr n Pt S St) (hself : ∀ (s : Shared) (Q : Value → Shared → Prop) (E : Value → Shared → Prop), St 0 s.heap → Q (.ref I) s → wpAny (model prog w) A.in1 (pyIter (.ref I)) Q E s)
    (hl : typeLookup (.type T) "__len__" = pure none) (hn0 : typeLookup (.type T) "__length_hint__" = pure none) (h2 : (Value.type T == Value.type "list") = false) (h3 : (Value.type T == Value.type "tuple") = false) (hT : ∀ s : Shared, St 0 s.heap → s.TypeIs (.ref I) T)
    (hst : St 0 s.heap) (hSI : S ≠ I) (hS : s.heap.get? S = some { cls := .type "list", data := .seq #[] })
    (hR : ∀ h' tk acc c as, (∀ b o, b ≠ S → b ∉ wr → s.heap.get? b = some o → h'.get? b = some o) → h'.get? S = some { cls := .type "list", dict := none, data := .seq acc c, slots := #[] } → as.length = n → TG Pt s.heap.objs.size h' as →
      acc.toList = as.map Value.ref → R (.ok (.ret .none)) { s with heap := h', toks := tk }) (hn : n ≤ sizeLine) :
    wpAny (model prog w) A.in1 (Builtin.«list.__init__» ⟨[.ref S, .ref I], []⟩)
      (fun fin s' => match fin with | .done f => R (.ok f) s' | .again c' => c'.quiet = true ∧ codeAny (model prog w) A c' R s') (fun e s' => R (.error e) s') s := by
  show wpAny _ _ (do let old ← Builtin.List.listItems (.ref S); Builtin.List.listUpdate (.ref S) (fun _ => #[]); letGo old.toList.reverse; Builtin.List.listExtendWith (.ref S) (.ref I) .none) _ _ s
  refine wpAny_bind ?_
  unfold Builtin.List.listItems
  refine wpAny_bind (wpAny_seqItems hS rfl (wpAny_pure ?_))
  show wpAny _ _ (updateSeq S (fun _ => #[]) >>= fun _ => letGo (#[] : Array Value).toList.reverse >>= fun _ => Builtin.List.listExtendWith (.ref S) (.ref I) .none) _ _ s
  refine wpAny_bind (wpAny_updateSeq hS rfl ?_)
  have hS₂ := Heap.get?_update_self (Obj.mapSeq (fun _ => (#[] : Array Value))) hS rfl
  have oth : ∀ b o, b ≠ S → s.heap.get? b = some o → (s.heap.update S (Obj.mapSeq (fun _ => (#[] : Array Value)))).get? b = some o :=
    fun b o hb e => (Heap.get?_update_other _ _ (Ne.symm hb)).trans e
  have sz : (s.heap.update S (Obj.mapSeq (fun _ => (#[] : Array Value)))).objs.size = s.heap.objs.size := Heap.size_update ..
  refine wpAny_bind (wpAny_letGo ?_)
  refine hw_extend (s := { s with heap := s.heap.update S (Obj.mapSeq (fun _ => (#[] : Array Value))) }) W hself hl hn0 h2 h3 hT .none _ (W.frame 0 _ _ hst oth) hSI hS₂ (fun h' tk acc c as hk hS' hl hG hacc => ?_) hn
  refine hR h' tk acc c as (fun b o h1 h2 e => hk b o h1 h2 (oth b o h1 e)) hS' hl ?_ hacc
  have hG' : TG Pt ((s.heap.update S (Obj.mapSeq (fun _ => (#[] : Array Value)))).objs.size) h' as := hG
  rw [sz] at hG'
  exact hG'
theorem hw_call {Q : Value → Shared → Prop} (W : HW prog w A.in1.in1 I wr n Pt s.heap.objs.size St) (hself : ∀ (s : Shared) (Q : Value → Shared → Prop) (E : Value → Shared → Prop), St 0 s.heap → Q (.ref I) s → wpAny (model prog w) A.in1.in1 (pyIter (.ref I)) Q E s)
    (hl : typeLookup (.type T) "__len__" = pure none) (hn0 : typeLookup (.type T) "__length_hint__" = pure none) (h2 : (Value.type T == Value.type "list") = false) (h3 : (Value.type T == Value.type "tuple") = false) (hT : ∀ s : Shared, St 0 s.heap → s.TypeIs (.ref I) T)
    (hst : ∀ h', (∀ b o, s.heap.get? b = some o → h'.get? b = some o) → St 0 h') (hI : I < s.heap.objs.size) (hn : n ≤ sizeLine)
    (hQ : ∀ h' tk acc c as, (∀ b o, b ∉ wr → s.heap.get? b = some o → h'.get? b = some o) → h'.get? s.heap.objs.size = some { cls := .type "list", dict := none, data := .seq acc c, slots := #[] } → as.length = n → TG Pt (s.heap.objs.size + 1) h' as →
      acc.toList = as.map Value.ref → Q (.ref s.heap.objs.size) { s with heap := h', toks := tk }) :
    wpAny (model prog w) A (call (.type "list") [.ref I]) Q E s := by
  refine callType_codes (Q₁ := fun obj s₁ => obj = .ref s.heap.objs.size ∧ s₁ = { s with heap := s.heap.push { cls := .type "list", data := .seq #[] } }) PySem.F.called_list (PySem.F.typeCall_list_1 _) PySem.F.entry_list_init
    (code_list_new _ ⟨rfl, rfl⟩) fun obj s₁ h₁ => ?_
  obtain ⟨rfl, rfl⟩ := h₁
  have hS : (s.heap.push { cls := .type "list", data := .seq #[] }).get? s.heap.objs.size = some { cls := .type "list", data := .seq #[] } := Heap.get?_push_size _ rfl
  have sz : (s.heap.push { cls := .type "list", data := .seq #[] }).objs.size = s.heap.objs.size + 1 := Heap.size_push ..
  refine ⟨⟨_, hS, rfl⟩, PySem.F.args_list_init_2 _ _, hw_init (A := A.in1) (S := s.heap.objs.size) W hself hl hn0 h2 h3 hT (hst _ fun b o e => Heap.get?_push_of_some _ e) (Nat.ne_of_gt hI) hS (fun h' tk acc c as hk hS' hl hG hacc => ?_) hn⟩
  have hG' : TG Pt ((s.heap.push { cls := .type "list", data := .seq #[] }).objs.size) h' as := hG
  rw [sz] at hG'
  exact ⟨rfl, hQ h' tk acc c as (fun b o h1 e => hk b o (Nat.ne_of_lt (Heap.lt_size e)) h1 (Heap.get?_push_of_some _ e)) hS' hl hG' hacc⟩
end

/-! ### enumerate, its tuple held -/
section
variable {prog : Program} {w : World} {A : Around} {E : Value → Shared → Prop} {s : Shared}
theorem enumerate_next_itemH {e it T : Addr} {fp : List Addr} {n i : Nat} {c : Int} {P : Nat → Value → Prop} {St : Nat → Heap → Prop} {old : Value} {f : Bool} {oT : Obj} {Q : Value → Shared → Prop}
    (D : Draws prog w A it fp n P St) (he : IsEnumHeld s.heap e it c old T f) (hT : s.heap.get? T = some oT) (hTe : T ≠ e) (hTi : T ≠ it) (hst : St i s.heap) (hlt : i < n) (hne : e ≠ it) (hef : e ∉ fp)
    (hQ : ∀ x h' tk, P i x → IsEnumHeld h' e it (c + 1) old T true → St (i + 1) h' →
      h'.get? s.heap.objs.size = some { cls := .type "tuple", data := .seq #[.int c tk, x] } → h'.objs.size = s.heap.objs.size + 1 →
      (∀ b o, b ≠ e → b ≠ it → s.heap.get? b = some o → h'.get? b = some o) → Q (.ref s.heap.objs.size) { s with heap := h', toks := tk + 1 }) :
    wpAny (model prog w) A (Builtin.«enumerate.__next__» ⟨[.ref e], []⟩) (fun fin s' => ∃ v, fin = .done (.ret v) ∧ Q v s') E s := by
  obtain ⟨hp, g, d, tk₀, os⟩ := s
  show wpAny _ _ (field (.ref e) 2 >>= _) _ _ _
  refine wpAny_bind (wpAny_field he rfl (x := .ref it) rfl ?_)
  refine wpAny_bind (D.item i _ _ _ hlt hst fun x h₁ tk hPx hit₁ hs₁ => ?_)
  replace hs₁ : Heap.SameBut it hp h₁ := hs₁
  have he₁ : IsEnumHeld h₁ e it c old T f := (hs₁.2 e hne).trans he
  show wpAny _ _ (field (.ref e) 3 >>= _) _ _ ⟨h₁, g, d, tk, os⟩
  refine wpAny_bind (wpAny_field he₁ rfl (x := rawInt c) rfl ?_)
  show wpAny _ _ (field (.ref e) 4 >>= _) _ _ ⟨h₁, g, d, tk, os⟩
  refine wpAny_bind (wpAny_field he₁ rfl (x := .none) rfl ?_)
  show wpAny _ _ (mkInt c >>= _) _ _ ⟨h₁, g, d, tk, os⟩
  refine wpAny_bind (wpAny_mkInt ?_)
  show wpAny _ _ (setField (.ref e) 3 (rawInt (c + 1)) >>= _) _ _ ⟨h₁, g, d, tk + 1, os⟩
  refine wpAny_bind (wpAny_setField_rec he₁ (by simp) fun h₂ he₂ hs₂ => ?_)
  replace hs₂ : Heap.SameBut e h₁ h₂ := hs₂
  replace he₂ : IsEnumHeld h₂ e it (c + 1) old T f := he₂
  show wpAny _ _ (setField (.ref e) 4 .none >>= _) _ _ ⟨h₂, g, d, tk + 1, os⟩
  refine wpAny_bind (wpAny_setField_rec he₂ (by simp) fun h₃ he₃ hs₃ => ?_)
  replace hs₃ : Heap.SameBut e h₂ h₃ := hs₃
  replace he₃ : IsEnumHeld h₃ e it (c + 1) old T f := he₃
  show wpAny _ _ (newTuple [.int c tk, x] >>= _) _ _ ⟨h₃, g, d, tk + 1, os⟩
  refine wpAny_bind (wpAny_newTuple ?_)
  have he₄ : IsEnumHeld (h₃.push { cls := .type "tuple", data := .seq #[.int c tk, x] }) e it (c + 1) old T f := Heap.get?_push_of_some _ he₃
  generalize hh₄ : h₃.push { cls := .type "tuple", data := .seq #[.int c tk, x] } = h₄ at he₄
  have hsz : h₃.objs.size = hp.objs.size := by rw [hs₃.1, hs₂.1, hs₁.1]
  have hel : e < hp.objs.size := Heap.lt_size he
  have ht₄ : h₄.get? hp.objs.size = some { cls := .type "tuple", data := .seq #[.int c tk, x] } := by rw [← hh₄, ← hsz]; exact Heap.get?_push_size _ rfl
  have hz₄ : h₄.objs.size = hp.objs.size + 1 := by rw [← hh₄, Heap.size_push, hsz]
  have hk₄ : ∀ b o, b ≠ e → b ≠ it → hp.get? b = some o → h₄.get? b = some o := fun b o hbe hbi hb => by
    rw [← hh₄]; exact Heap.get?_push_of_some _ (hs₃.extBut b o hbe (hs₂.extBut b o hbe (hs₁.extBut b o hbi hb)))
  have hit₄ : St (i + 1) h₄ := D.frame _ _ _ hit₁ fun b hb o y => by
    have hbe : b ≠ e := fun q => hef (q ▸ hb)
    rw [← hh₄]; exact Heap.get?_push_of_some _ (hs₃.extBut b o hbe (hs₂.extBut b o hbe y))
  show wpAny _ _ (Builtin.SmallTypes.ownedTupleIsFree (.ref e) >>= _) _ _ ⟨h₄, g, d, tk + 1, os⟩
  rw [hsz]
  clear hh₄ he₃ hs₃ he₂ hs₂ he₁ hs₁ hit₁ hsz h₃ h₂ h₁
  refine wpAny_bind (wpAny_tupleHeld_enum (s := ⟨h₄, g, d, tk + 1, os⟩) he₄ (hk₄ T oT hTe hTi hT) fun h₅ he₅ hs₅ => ?_)
  replace hs₅ : Heap.SameBut e h₄ h₅ := hs₅
  simp only [Bool.false_eq_true, if_false]
  refine wpAny_pure ⟨_, rfl, hQ x h₅ tk hPx he₅ ?_ (hs₅.extBut _ _ (Nat.ne_of_gt hel) ht₄) ?_ fun b o hbe hbi hb => hs₅.extBut b o hbe (hk₄ b o hbe hbi hb)⟩
  · exact D.frame _ _ _ hit₄ fun b hb o y => hs₅.extBut b o (fun q => hef (q ▸ hb)) y
  · show h₅.objs.size = hp.objs.size + 1
    rw [hs₅.1, hz₄]
theorem pyNext_enum_itemH {e it T : Addr} {fp : List Addr} {n i : Nat} {c : Int} {P : Nat → Value → Prop} {St : Nat → Heap → Prop} {old : Value} {f : Bool} {oT : Obj} {Q : Option Value → Shared → Prop}
    (D : Draws prog w A.in1 it fp n P St) (he : IsEnumHeld s.heap e it c old T f) (hT : s.heap.get? T = some oT) (hTe : T ≠ e) (hTi : T ≠ it) (hst : St i s.heap) (hlt : i < n) (hne : e ≠ it) (hef : e ∉ fp)
    (hQ : ∀ x h' tk, P i x → IsEnumHeld h' e it (c + 1) old T true → St (i + 1) h' →
      h'.get? s.heap.objs.size = some { cls := .type "tuple", data := .seq #[.int c tk, x] } → h'.objs.size = s.heap.objs.size + 1 →
      (∀ b o, b ≠ e → b ≠ it → s.heap.get? b = some o → h'.get? b = some o) → Q (some (.ref s.heap.objs.size)) { s with heap := h', toks := tk + 1 }) :
    wpAny (model prog w) A (pyNext (.ref e)) Q E s := by
  have hTy : s.TypeIs (.ref e) "enumerate" := ⟨_, he, rfl⟩
  unfold pyNext
  exact wpAny_bind (wpAny_attempt (wpAny_callSpecial?_slot (name := Str.ofString "__next__") hTy PySem.F.slot_enumerate_next
    (wpAny_call_entry PySem.F.slot_enumerate_next hTy PySem.F.entry_enumerate_next
      (enumerate_next_itemH D he hT hTe hTi hst hlt hne hef fun x h' tk a b c d k q => wpAny_pure (hQ x h' tk a b c d k q)) (PySem.F.args_enumerate_next_1 _))))
theorem pyNext_enum_endH {e it T : Addr} {fp : List Addr} {n : Nat} {P : Nat → Value → Prop} {St : Nat → Heap → Prop} {i : Int} {old : Value} {f : Bool} {Q : Option Value → Shared → Prop}
    (D : Draws prog w A.in1 it fp n P St) (he : IsEnumHeld s.heap e it i old T f) (hst : St n s.heap)
    (hQ : ∀ h', Heap.ExtBut it s.heap h' → Q none { s with heap := h' }) : wpAny (model prog w) A (pyNext (.ref e)) Q E s := by
  have hT : s.TypeIs (.ref e) "enumerate" := ⟨_, he, rfl⟩
  unfold pyNext
  refine wpAny_bind (wpAny_attempt (wpAny_callSpecial?_slot (name := Str.ofString "__next__") hT PySem.F.slot_enumerate_next
    (wpAny_call_entry PySem.F.slot_enumerate_next hT PySem.F.entry_enumerate_next ?_ (PySem.F.args_enumerate_next_1 _))))
  show wpAny _ _ (field (.ref e) 2 >>= _) _ _ _
  refine wpAny_bind (wpAny_field he rfl (x := .ref it) rfl ?_)
  refine wpAny_bind (D.done _ _ _ hst fun h' x he' hx' => ?_)
  obtain ⟨o, ho, hc⟩ := hx'
  refine wpAny_bind (wpAny_isInstance (T := "StopIteration") (b := true) ⟨o, ho, hc⟩ isSubtype_stop ?_)
  exact wpAny_pure (hQ _ he')
end
theorem nolen_en : typeLookup (.type "enumerate") "__len__" = pure none := by rw [typeLookup_type, builtinLookup_eq_fast]; kernel_rfl
theorem nohint_en : typeLookup (.type "enumerate") "__length_hint__" = pure none := by rw [typeLookup_type, builtinLookup_eq_fast]; kernel_rfl
theorem nolen_zp : typeLookup (.type "zip") "__len__" = pure none := by rw [typeLookup_type, builtinLookup_eq_fast]; kernel_rfl
theorem nohint_zp : typeLookup (.type "zip") "__length_hint__" = pure none := by rw [typeLookup_type, builtinLookup_eq_fast]; kernel_rfl
theorem hw_enum {prog : Program} {w : World} {A : Around} {e it S : Addr} {fp : List Addr} {n : Nat} {P : Nat → Value → Prop} {St : Nat → Heap → Prop}
    (D : Draws prog w A.in1 it fp n P St) (hei : e ≠ it) (hef : e ∉ fp) (hif : it ∈ fp) (hSe : S ≠ e) (hSf : S ∉ fp) :
    HW prog w A e [e, it] n (fun i vals => ∃ t x, P i x ∧ vals = #[.int (i : Nat) t, x]) S
      (fun i h => ((∃ old, IsEnum h e it (i : Nat) old) ∨ ∃ old T f oT, IsEnumHeld h e it (i : Nat) old T f ∧ h.get? T = some oT ∧ T ≠ e ∧ T ≠ it ∧ T ≠ S) ∧ St i h) where
  off := fun hm => by
    have : S = e ∨ S = it := by simpa using hm
    rcases this with h | h
    · exact hSe h
    · exact hSf (h ▸ hif)
  frame := fun i h h' hst hk => by
    obtain ⟨he, hs⟩ := hst
    refine ⟨?_, D.frame _ _ _ hs fun b hb o y => hk b o (fun q => hSf (q ▸ hb)) y⟩
    rcases he with ⟨old, he⟩ | ⟨old, T, f, oT, he, hT, h1, h2, h3⟩
    · exact .inl ⟨old, hk _ _ (Ne.symm hSe) he⟩
    · exact .inr ⟨old, T, f, oT, hk _ _ (Ne.symm hSe) he, hk _ _ h3 hT, h1, h2, h3⟩
  item := fun i s Q E hi hst hSl hQ => by
    obtain ⟨he, hs⟩ := hst
    have hilt : it < s.heap.objs.size := by obtain ⟨_, y⟩ := D.live _ _ hs; exact Heap.lt_size y
    rcases he with ⟨old, he⟩ | ⟨old, T, f, oT, he, hT, h1, h2, h3⟩
    · refine wpAny_with_toks (Nat.le_refl s.toks) (wpAny_pyNext_enum_itemC D he hs hi hei hef fun x h' tk hP ho hs' hTt hsz hk htk => ?_)
      refine hQ #[.int (i : Nat) tk, x] h' (tk + 1) ⟨_, _, hP, rfl⟩ hTt ⟨.inr ⟨x, s.heap.objs.size, false, _, ?_, hTt, Nat.ne_of_gt (Heap.lt_size he), Nat.ne_of_gt hilt, Nat.ne_of_gt hSl⟩, hs'⟩ (fun b o hb y => hk b o (fun e' => hb (by simp [e'])) (fun e' => hb (by simp [e'])) y) htk
      rw [show ((i + 1 : Nat) : Int) = (i : Int) + 1 by omega]
      exact ho
    · refine wpAny_with_toks (Nat.le_refl s.toks) (pyNext_enum_itemH D he hT h1 h2 hs hi hei hef fun x h' tk hP ho hs' hTt hsz hk htk => ?_)
      refine hQ #[.int (i : Nat) tk, x] h' (tk + 1) ⟨_, _, hP, rfl⟩ hTt ⟨.inr ⟨old, T, true, oT, ?_, hk _ _ h1 h2 hT, h1, h2, h3⟩, hs'⟩ (fun b o hb y => hk b o (fun e' => hb (by simp [e'])) (fun e' => hb (by simp [e'])) y) htk
      rw [show ((i + 1 : Nat) : Int) = (i : Int) + 1 by omega]
      exact ho
  done := fun s Q E hst hQ => by
    obtain ⟨he, hs⟩ := hst
    rcases he with ⟨old, he⟩ | ⟨old, T, f, oT, he, _⟩
    · exact wpAny_pyNext_enum_endD D he hs fun h' hx => hQ h' s.toks (fun b o hb y => hx b o (fun e' => hb (by simp [e'])) y) (Nat.le_refl _)
    · exact pyNext_enum_endH D he hs fun h' hx => hQ h' s.toks (fun b o hb y => hx b o (fun e' => hb (by simp [e'])) y) (Nat.le_refl _)
  low := fun i h hst b hb => by
    obtain ⟨he, hs⟩ := hst
    have : b = e ∨ b = it := by simpa using hb
    rcases this with rfl | rfl
    · rcases he with ⟨old, he⟩ | ⟨old, T, f, oT, he, _⟩
      · exact Heap.lt_size he
      · exact Heap.lt_size he
    · obtain ⟨_, y⟩ := D.live _ _ hs; exact Heap.lt_size y
end Dz

set_option maxHeartbeats 4000000
namespace Dn
open PySem PySem.Spec PyProof.Rows L2
/-! ### list(enumerate(e)), list(zip(..)) -/
def putU : Hp → List Addr → List (List V) → Hp
  | H, a :: as, p :: us => putU (upd H a (.tup p)) as us
  | H, _, _ => H
theorem putU_off {b : Addr} : ∀ (as : List Addr) (us : List (List V)) (H : Hp), b ∉ as → putU H as us b = H b
  | [], _, _, _ => rfl
  | _ :: _, [], _, _ => rfl
  | a :: as, p :: us, H, h => by
    show putU (upd H a (.tup p)) as us b = H b
    rw [putU_off as us _ (fun z => h (List.mem_cons_of_mem _ z)), upd_ne (fun z => h (by rw [z]; exact List.mem_cons_self))]
theorem putU_at : ∀ (as : List Addr) (us : List (List V)) (H : Hp), as.length = us.length → as.Nodup → ∀ (j : Nat) (a : Addr), as[j]? = some a → ∃ p, us[j]? = some p ∧ putU H as us a = some (.tup p)
  | [], [], _, _, _, j, a, h => by simp at h
  | [], _ :: _, _, h, _, _, _, _ => by cases h
  | _ :: _, [], _, h, _, _, _, _ => by cases h
  | x :: as, p :: us, H, h, hn, 0, a, e => by
    have e' := Option.some.inj e
    subst e'
    refine ⟨p, rfl, ?_⟩
    show putU (upd H x (.tup p)) as us x = some (.tup p)
    rw [putU_off as us _ (List.nodup_cons.mp hn).1, upd_same]
  | x :: as, p :: us, H, h, hn, j + 1, a, e => by
    obtain ⟨q, h1, h2⟩ := putU_at as us (upd H x (.tup p)) (Nat.succ.inj h) (List.nodup_cons.mp hn).2 j a e
    exact ⟨q, h1, h2⟩
theorem vals_refs : ∀ as : List Addr, Vals (as.map V.ref) (as.map Value.ref)
  | [] => .nil
  | _ :: as => .cons rfl (vals_refs as)
section
variable {X : Cx}
theorem tups_laid {pins : List (Addr × Obj)} {σ : L2.St} {H : Hp} {s : Shared} {h' : Heap} {tk : Nat} {us : List (List V)} {Pt : Nat → Array Value → Prop} {acc : Array Value} {c : Nat} {as : List Addr} {wr : List Addr} {S : Addr}
    (I : Inv X pins σ H s) (hf : ∀ b ∈ wr, FpOk X pins H b) (hwS : ∀ b ∈ wr, b < S) (hSs : s.heap.objs.size ≤ S) (hz : us.length ≤ sizeLine) (hk : ∀ b o, b ∉ wr → s.heap.get? b = some o → h'.get? b = some o)
    (hS : h'.get? S = some { cls := .type "list", dict := none, data := .seq acc c, slots := #[] }) (hl : as.length = us.length) (hG : Dz.TG Pt (S + 1) h' as) (hacc : acc.toList = as.map Value.ref)
    (hP : ∀ (j : Nat) (p : List V) (vals : Array Value), us[j]? = some p → Pt j vals → Vals p vals.toList ∧ p.length ≤ sizeLine) :
    ∃ H' : Hp, (∀ b o, H b = some o → H' b = some o) ∧ H S = none ∧ (∀ t ∈ as, H t = none) ∧ S ∉ as ∧ as.Nodup ∧ H' S = some (.lst (as.map V.ref)) ∧ (∀ (j : Nat) (a : Addr), as[j]? = some a → ∃ p, us[j]? = some p ∧ H' a = some (.tup p)) ∧ Inv X pins σ H' { s with heap := h', toks := tk } := by
  have hSn : S ∉ as := fun z => Nat.lt_irrefl _ (Nat.lt_of_lt_of_le (Nat.lt_succ_self S) (hG.above _ z))
  have nd : as.Nodup := List.Pairwise.imp (fun {a b} (h : a < b) => Nat.ne_of_lt h) hG.rise
  have big : ∀ t ∈ as, s.heap.objs.size ≤ t := fun t ht => Nat.le_trans hSs (Nat.le_of_lt (Nat.lt_of_lt_of_le (Nat.lt_succ_self S) (hG.above t ht)))
  have new : ∀ t ∈ as, H t = none := fun t ht => I.hok.fresh (big t ht)
  have newS : H S = none := I.hok.fresh hSs
  have atP := putU_at as us (upd H S (.lst (as.map V.ref))) hl nd
  have off : ∀ b, b ∉ as → b ≠ S → putU (upd H S (.lst (as.map V.ref))) as us b = H b := fun b h1 h2 => by rw [putU_off as us _ h1, upd_ne h2]
  have low : ∀ b o, s.heap.get? b = some o → b ∉ as ∧ b ≠ S := fun b o e => ⟨fun z => absurd (Heap.lt_size e) (Nat.not_lt.mpr (big b z)), Nat.ne_of_lt (Nat.lt_of_lt_of_le (Heap.lt_size e) hSs)⟩
  have kp : ∀ b u, H b = some u → (putU (upd H S (.lst (as.map V.ref))) as us) b = some u := fun b u e => by
    rw [off b (fun z => by rw [new b z] at e; cases e) (fun z => by rw [z, newS] at e; cases e)]
    exact e
  have eS : putU (upd H S (.lst (as.map V.ref))) as us S = some (.lst (as.map V.ref)) := by rw [putU_off as us _ hSn, upd_same]
  have nit : ∀ b u, H b = some u → b ∉ wr := fun b u e z => by
    have q := (hf b z).1
    rw [q] at e; cases e
  refine ⟨putU (upd H S (.lst (as.map V.ref))) as us, kp, newS, new, hSn, nd, eS, atP, ?_⟩
  refine I.step (g' := s.gens) (d' := s.drawn) (ch := wr) (fun b hb => ⟨(hf b hb).2.2.2.1, (hf b hb).2.1, (hf b hb).2.2.2.2.1, (hf b hb).2.2.2.2.2⟩) (fun b o _ _ hc e _ => hk b o hc e) (fun b o _ _ hc e _ => ⟨o.slots, hk b o hc e⟩)
    (fun b o _ e n => ?_) (fun b o hc e => ⟨o, hk b o hc e⟩) (fun b xs e => kp b _ e) (fun b o u e => kp b _ e) (fun b ps e => ⟨#[], by rw [kp b _ e]; simp⟩) (fun m hm => ?_) (fun b u q => ?_) I.bare
  · obtain ⟨z1, z2⟩ := low b o e
    rw [off b z1 z2]
    exact n
  · obtain ⟨o, es, ep, ho, r⟩ := hm
    exact ⟨o, es, ep, hk _ o (fun z => (hf _ z).2.1 rfl) ho, r⟩
  · by_cases hb : b ∈ as
    · obtain ⟨j, hj⟩ := List.mem_iff_getElem?.mp hb
      obtain ⟨p, e2, e3⟩ := atP j b hj
      rw [e3] at q
      cases q
      obtain ⟨vals, f1, f2⟩ := hG.pairs j b hj
      obtain ⟨g1, g2⟩ := hP j p vals e2 f1
      exact ⟨g2, vals.toList, g1, ⟨_, f2, rfl, 0, by rw [Array.toArray_toList]⟩⟩
    · by_cases hb2 : b = S
      · rw [hb2] at q ⊢
        rw [eS] at q
        cases q
        refine ⟨by rw [List.length_map]; omega, acc.toList, c, by rw [hacc]; exact vals_refs as, ?_⟩
        rw [Array.toArray_toList]
        exact hS
      · rw [off b hb hb2] at q
        refine (I.hok b u q).stay (fun d v hd y => hk d v ?_ y) (fun d y => kp d _ y) fun d xs y => kp d _ y
        rcases hd with z | z
        · rw [z]; exact nit b u q
        · exact nit d _ z
/-- what a new list of new tuples is -/
structure LT (H H' : Hp) (p : Addr) (ts : List Addr) (us : List (List V)) : Prop where
  keep : ∀ b o, H b = some o → H' b = some o
  newP : H p = none
  newT : ∀ t ∈ ts, H t = none
  off : p ∉ ts
  lst : H' p = some (.lst (ts.map V.ref))
  len : ts.length = us.length
  at_ : ∀ (j : Nat) (a : Addr), ts[j]? = some a → ∃ q, us[j]? = some q ∧ H' a = some (.tup q)
def enV (xs : List V) : List (List V) := xs.zipIdx.map fun p => [.int (p.2 : Nat), p.1]
def tListEnum (K : PySem.W.Frag) (ta : TA) : TE := fun σ H Q => ta σ H fun vs H1 => ∃ k a xs, vs = [.ref a] ∧ SqK K H1 k a xs ∧ xs.length ≤ sizeLine ∧ ∀ H' p ts, LT H1 H' p ts (enV xs) → Q (.ref p) H'
theorem enV_len (xs : List V) : (enV xs).length = xs.length := by unfold enV; simp
theorem enV_at {xs : List V} {j : Nat} {p : List V} (h : (enV xs)[j]? = some p) : ∃ x, xs[j]? = some x ∧ p = [.int (j : Nat), x] := by
  unfold enV at h
  rw [List.getElem?_map, List.getElem?_zipIdx] at h
  cases hx : xs[j]? with
  | none => rw [hx] at h; simp at h
  | some x => rw [hx] at h; simp at h; exact ⟨x, rfl, h.symm⟩
theorem conK_at {h h' : Heap} {k : Sk} {a : Addr} {vs : Array Value} (x : conK h k a vs) (kp : ∀ o, h.get? a = some o → h'.get? a = some o) : conK h' k a vs := by
  cases k with
  | l => exact (show h.IsList a vs from x).at kp
  | t => exact (show h.IsTuple a vs from x).at kp
theorem pyIter_enumH {prog : Program} {w : World} {A : Around} {E : Value → Shared → Prop} {s : Shared} {e it T : Addr} {i : Int} {old : Value} {f : Bool} {Q : Value → Shared → Prop} (he : PySem.IsEnumHeld s.heap e it i old T f)
    (h : Q (.ref e) s) : wpAny (model prog w) A (pyIter (.ref e)) Q E s := by
  have hT : s.TypeIs (.ref e) "enumerate" := ⟨_, he, rfl⟩
  refine wpAny_pyIter_slot hT F.slot_enumerate_iter (wpAny_call_entry F.slot_enumerate_iter hT F.entry_enumerate_iter ?_ (F.args_enumerate_iter_1 _))
  show wpAny _ _ (ret (.ref e)) _ _ s
  exact wpAny_pure ⟨_, rfl, "enumerate", _, hT, F.slot_enumerate_next.lookup, h⟩
theorem pe_listEnum {e : Expr} {ta : TA} {p p2 pos pos2 : Pos} (hc : X.calm = true) (hg : Gl X "list") (hm : X.mg "list" = none) (hg2 : Gl X "enumerate") (hm2 : X.mg "enumerate" = none) (ha : PA X [e] ta)
    (hs : starEach [.Call (.Name "enumerate" p2) [e] [] pos2] X.env = (false, eval (.Call (.Name "enumerate" p2) [e] [] pos2) X.env) :: starEach [] X.env := by rfl) (hs2 : starEach [e] X.env = (false, eval e X.env) :: starEach [] X.env := by rfl) :
    PE X (.Call (.Name "list" p) [.Call (.Name "enumerate" p2) [e] [] pos2] [] pos) (tListEnum X.K ta) := by
  refine ⟨fun pins s σ H Q I hq => ?_⟩
  refine wpAny_Call_Name_kw (ld_blt I hg hm PyProof.Rows.boot_list ?_)
  refine PyProof.Rows.callWith_type1 ?_ hs rfl
  rw [hs]
  show wpAny _ _ (spliced ((false, eval (.Call (.Name "enumerate" p2) [e] [] pos2) X.env) :: backTo pos (starEach [] X.env))) _ _ s
  refine Calls.spliced_cons ?_
  refine Call_ (ld_blt I hg2 hm2 PyProof.Rows.boot_enumerate (PyProof.Rows.callWith_type1 (thn (ha.run pos2 pins s σ H _ I hq) fun us s1 ⟨vs, H1, I1, r1, q1⟩ => ?_) hs2 rfl))
  obtain ⟨k, a, xs, ex, hqk, hz, q⟩ := q1
  subst ex
  cases r1 with
  | cons r rr =>
    cases rr
    cases r
    obtain ⟨its, rv, con, hlt⟩ := inv_K I1 hqk
    have hh : X.A.in1.handled = none := I1.ok.hd hc
    refine enum_begins1 (begK k a its.toArray) con fun h' he hit hsz hk => ?_
    refine Calls.spliced_nil ?_
    have I2 : Inv X pins σ H1 { s1 with heap := h' } := I1.kept (t' := s1.toks) hk
    have h1 : a ≠ s1.heap.objs.size := Nat.ne_of_lt hlt
    have hh' : h'.objs.size = s1.heap.objs.size + 2 := hsz
    have hne : s1.heap.objs.size + 1 ≠ s1.heap.objs.size := Nat.succ_ne_self _
    have hea : s1.heap.objs.size + 1 ≠ a := Nat.ne_of_gt (Nat.lt_succ_of_lt hlt)
    have D := drawsK (prog := X.prog) (w := X.w) (A := X.A.in1.in1.in1) k hh s1.heap.objs.size a h1 its.toArray
    have W := Dz.hw_enum (S := h'.objs.size) (e := s1.heap.objs.size + 1) D hne (by simp; exact hea) (by simp) (by rw [hh']; exact Nat.succ_ne_self _) (by rw [hh']; simp; exact fun z => absurd (Nat.lt_of_lt_of_le hlt (by rw [← z]; exact Nat.le_add_right _ _)) (Nat.lt_irrefl _))
    refine Dz.hw_call (s := { s1 with heap := h' }) (n := its.toArray.size) (T := "enumerate") W (fun s Q E hst hQ => ?_) Dz.nolen_en Dz.nohint_en (by decide) (by decide) (fun s hst => ?_) (fun h2 hk2 => ⟨.inl ⟨_, hk2 _ _ he⟩, itK_at (itK_new hit) fun o q => hk2 _ o q, ?_⟩) (by show _ < h'.objs.size; rw [hh']; exact Nat.lt_succ_self _) (by simp; rw [← rv.length]; exact hz) fun h2 tk acc c as hk2 hS hl hG hacc => ?_
    · obtain ⟨he', _⟩ := hst
      rcases he' with ⟨old, he'⟩ | ⟨old, T, f, oT, he', _⟩
      · exact wpAny_pyIter_enum he' hQ
      · exact pyIter_enumH he' hQ
    · obtain ⟨he', _⟩ := hst
      rcases he' with ⟨old, he'⟩ | ⟨old, T, f, oT, he', _⟩
      · exact ⟨_, he', rfl⟩
      · exact ⟨_, he', rfl⟩
    · exact conK_at con fun o q => hk2 _ o (hk _ o q)
    · have fp : ∀ b ∈ [s1.heap.objs.size + 1, s1.heap.objs.size], FpOk X pins H1 b := fun b hb => by
        have e' : b = s1.heap.objs.size + 1 ∨ b = s1.heap.objs.size := by simpa using hb
        have hle : s1.heap.objs.size ≤ b := by
          rcases e' with z | z
          · rw [z]; exact Nat.le_add_right _ _
          · rw [z]; exact Nat.le_refl _
        exact I1.fpOk hle (I1.hok.fresh hle)
      obtain ⟨H', k1, k2, k3, k4, k5, k6, k7, J⟩ := tups_laid (s := { s1 with heap := h' }) (h' := h2) (tk := tk) (us := enV xs) (wr := [s1.heap.objs.size + 1, s1.heap.objs.size]) (S := h'.objs.size) I2 fp (fun b hb => by
        have e' : b = s1.heap.objs.size + 1 ∨ b = s1.heap.objs.size := by simpa using hb
        rw [hh']
        rcases e' with z | z
        · rw [z]; exact Nat.lt_succ_self _
        · rw [z]; exact Nat.lt_succ_of_lt (Nat.lt_succ_self _)) (Nat.le_refl _) (by rw [enV_len]; exact hz) hk2 hS (by rw [hl, enV_len]; simp; exact rv.length.symm) hG hacc (fun j p vals hj hP => by
        obtain ⟨x, hx, rfl⟩ := enV_at hj
        obtain ⟨t, y, hy, rfl⟩ := hP
        obtain ⟨v, hv, rvx⟩ := vals_at rv hy
        rw [hx] at hv
        cases hv
        exact ⟨.cons ⟨t, rfl⟩ (.cons rvx .nil), by simp; rw [sizeLine_eq]; decide⟩)
      exact ⟨.ref _, H', J, rfl, q H' _ as ⟨k1, k2, k3, k4, k6, by rw [hl, enV_len]; simp; exact rv.length.symm, k7⟩⟩
theorem lt_nxt {G : Gx} {α : List Addr} {H H' : Hp} {S : Store} {p : Addr} {ts : List Addr} {us : List (List V)} (hS : RelS G α H S) (L : LT H H' p ts us) : Nxt α H α H' ∧ RelS G α H' S := by
  have n : Nxt α H α H' := ⟨⟨[], by simp⟩, fun a o q m => ⟨L.keep a o q, m⟩, fun a ob u q => L.keep a _ q⟩
  refine ⟨n, hS.len, hS.nd, fun k a o h1 h2 => ?_⟩
  have r := hS.ob k a o h1 h2
  obtain ⟨u, q⟩ := r.there
  exact r.mono n (by rw [q, L.keep a u q])
inductive RepsL (G : Gx) (α : List Addr) (H : Hp) : List (List D) → List (List V) → Prop where
  | nil : RepsL G α H [] []
  | cons {x : List D} {u : List V} {xs : List (List D)} {us : List (List V)} (h : Reps G α H x u) (t : RepsL G α H xs us) : RepsL G α H (x :: xs) (u :: us)
theorem lt_rep {G : Gx} {α : List Addr} {H H' : Hp} {S : Store} {p : Addr} {ts : List Addr} {us : List (List V)} {xs : List (List D)} (hS : RelS G α H S) (L : LT H H' p ts us) (r : RepsL G α H xs us) :
    Rep G α H' (.lst (xs.map D.tup)) (.ref p) := by
  obtain ⟨n, _⟩ := lt_nxt hS L
  refine .lst L.lst (hS.new L.newP) ?_
  have key : ∀ (xs : List (List D)) (us : List (List V)) (ts : List Addr), RepsL G α H xs us → ts.length = us.length → (∀ t ∈ ts, H t = none) → (∀ (j : Nat) (a : Addr), ts[j]? = some a → ∃ q, us[j]? = some q ∧ H' a = some (.tup q)) → Reps G α H' (xs.map D.tup) (ts.map V.ref) := by
    intro xs us ts r
    induction r generalizing ts with
    | nil => intro hl _ _; cases ts with
      | nil => exact .nil
      | cons _ _ => simp at hl
    | @cons x u xs us h t ih =>
      intro hl hn ha
      cases ts with
      | nil => simp at hl
      | cons a ts =>
        obtain ⟨q, q1, q2⟩ := ha 0 a rfl
        have q1 := Option.some.inj q1
        subst q1
        exact .cons (.tup (.inl ⟨.inl q2, hS.new (hn a List.mem_cons_self)⟩) (h.mono n)) (ih ts (by simpa using hl) (fun b hb => hn b (List.mem_cons_of_mem _ hb)) fun j b hj => ha (j + 1) b (by simpa using hj))
  exact key xs us ts r L.len L.newT L.at_
theorem repsL_en {G : Gx} {α : List Addr} {H : Hp} : ∀ (xs : List D) (vs : List V) (j : Nat), Reps G α H xs vs → RepsL G α H ((xs.zipIdx j).map fun p => [.int (p.2 : Nat), p.1]) ((vs.zipIdx j).map fun p => [.int (p.2 : Nat), p.1])
  | [], _, j, .nil => .nil
  | x :: xs, _, j, .cons r t => by
    rw [List.zipIdx_cons, List.zipIdx_cons, List.map_cons, List.map_cons]
    exact .cons (.cons (.int _) (.cons r .nil)) (repsL_en xs _ (j + 1) t)
def dLenum (f : Den) : Den := fun ρ S => rbind (f ρ S) fun d S1 => match asQ S1 d with
  | some xs => .ok (.lst (enumL xs)) S1
  | none => .bad
theorem se_lenum {W : WK} {e : Expr} {f : Den} {p p2 pos pos2 : Pos} (hc : X.calm = true) (hg : Gl X "list") (hm : X.mg "list" = none) (hg2 : Gl X "enumerate") (hm2 : X.mg "enumerate" = none) (he : SE X W e f)
    (hs : starEach [.Call (.Name "enumerate" p2) [e] [] pos2] X.env = (false, eval (.Call (.Name "enumerate" p2) [e] [] pos2) X.env) :: starEach [] X.env := by rfl) (hs2 : starEach [e] X.env = (false, eval e X.env) :: starEach [] X.env := by rfl) :
    SE X W (.Call (.Name "list" p) [.Call (.Name "enumerate" p2) [e] [] pos2] [] pos) (dLenum f) := by
  refine se_of (pe_listEnum hc hg hm hg2 hm2 (pa_cons he pa_nil hs2) hs hs2) fun σ H Q hb ⟨α, ρ, S, hE, hS, h⟩ => ?_
  refine td_bind hE hS h fun d S1 α1 H1 v n1 hE1 s1 b1 r1 h => ?_
  split at h
  · rename_i xs e1
    obtain ⟨a, vs, rfl, hq, rq⟩ := asQ_rep s1 r1 e1
    have fin : ∀ k, SqK X.K H1 k a vs → ∃ k' a' xs', [V.ref a] = [V.ref a'] ∧ SqK X.K H1 k' a' xs' ∧ xs'.length ≤ sizeLine ∧ ∀ H' p ts, LT H1 H' p ts (enV xs') → Bnd X.K H' → Q (.ref p) H' := fun k hk => by
      refine ⟨k, a, vs, rfl, hk, ?_, fun H' p ts L => ?_⟩
      · cases k with
        | l => exact b1 a vs (.inl hk)
        | t => exact b1 a vs (.inr hk)
      · obtain ⟨n, rs⟩ := lt_nxt s1 L
        have rp := lt_rep s1 L (repsL_en xs vs 0 rq)
        refine h α1 H' _ n rs ?_
        have : enumL xs = ((xs.zipIdx 0).map fun p => [D.int (p.2 : Nat), p.1]).map D.tup := by
          unfold enumL
          rw [List.map_map]
          rfl
        rw [this]
        exact rp
    rcases hq with hq | hq
    · exact fin .l hq
    · exact fin .t hq
  · exact h.elim
end
end Dn

set_option maxHeartbeats 4000000
namespace Dn
open PySem PySem.Spec PyProof.Rows L2
/-! ### the law -/
def spLaw (K : PySem.W.Frag) : Sp := fun vs H Q _ => ∃ (a : Addr) (ns : List Int), vs = [.ref a] ∧ SqL K H a (ns.map V.int) ∧ ns.length ≤ 63 ∧ ∀ H', Q (.bl true) H'
theorem FnOk.weak {CX : CXT} {P : Program} {w : World} {K : PySem.W.Frag} {mg : Str → Option Value} {base : Heap} {k : Nat} {f : Addr} {fd : FuncData} {ps : List Str} {sp sp' : Sp} (F : FnOk P w K mg base CX k f fd ps sp) (h : ∀ vs H Q E, sp' vs H Q E → sp vs H Q E) :
    FnOk P w K mg base CX k f fd ps sp' := ⟨fun vs H Q E q => F.len vs H Q E (h vs H Q E q), fun A outer s H args us vs Q E hr e0 hb r hsp => F.run A outer s H args us vs Q E hr e0 hb r (h vs H Q E hsp)⟩
theorem law_sp {G : Gx} {F : List D → Store → Res D} (ht : ∀ ns : List Int, ns.length ≤ 63 → ∃ S, F [.rol ns] [] = .ok (.bl true) S) {vs : List V} {H : Hp} {Q : VK} {E : XK} (h : spLaw G.K vs H Q E) : SpD G F vs H Q E := by
  obtain ⟨a, ns, rfl, hS, hl, q⟩ := h
  obtain ⟨S, e⟩ := ht ns hl
  refine ⟨[], [.rol ns], [], .cons (law_start hS) .nil, ⟨rfl, List.nodup_nil, fun n a o h1 _ => by simp at h1⟩, ?_⟩
  rw [e]
  intro α' H' v _ _ r
  cases r
  exact q H'
end Dn

set_option maxHeartbeats 4000000
namespace Cm
open PySem L2 Dn
noncomputable def B_is_int : DenS := sRet (dAnd (dApp (gIsi "int") (aCons (dVar 0) aNil)) (dNot (dApp (gIsi "bool") (aCons (dVar 0) aNil))))
noncomputable def F_is_int : List D → Store → Res D := defD 1 1 B_is_int
noncomputable def B_is_number : DenS := sRet (dAnd (dCall F_is_int [] (aCons (dVar 0) (aNil))) (dAnd (dBin (gGe) (dVar 0) (dVar 1)) (dOr (dBin (gIsN false) (dVar 2) (dC .non)) (dBin (gLe) (dVar 0) (dVar 2)))))
noncomputable def F_is_number : List D → Store → Res D := defD 3 3 B_is_number
noncomputable def B_joined_lots : DenS := sSeq (sSet 1 (nDict)) (sSeq (sFor (iSeq (dVar 0)) (.nm 2) [2, 3] (sFor (iSeq (dVar 2)) (.nm 3) [3] (sSetD (dVar 1) (dVar 3) (dC (.bl true))))) (sRet (dApp gTuple (aCons (dApp gSortA (aCons (dApp gListD (aCons (dVar 1) (aNil))) (aNil))) (aNil)))))
noncomputable def F_joined_lots : List D → Store → Res D := defD 1 4 B_joined_lots
noncomputable def B_term_rows : DenS := sSeq (sAsg (.tp [.nm 1, .nm 2]) (dTup (aCons (nLst (aNil)) (aCons (nLst (aCons (dTup (aCons (dVar 0) (aCons (nLst (aNil)) (aNil)))) (aNil))) (aNil))))) (sSeq (sWhile (xOf (dBin (gGt) (dApp gLen (aCons (dVar 2) (aNil))) (dC (.int 0)))) [3, 4] (sSeq (sAsg (.tp [.nm 3, .nm 4]) (dBin gIdx (dVar 2) (dUn gNeg (dC (.int 1))))) (sIf (xAnd (xNot (xOf (dCall F_is_number [.int 0, .non] (aCons (dVar 3) (aNil))))) (xOf (dBin (gLt) (dApp gLen (aCons (dVar 4) (aNil))) (dApp gLen (aCons (dBin gIdx (dVar 3) (dC (.int 1))) (aNil)))))) (sDrop (dMtL gAppend (dVar 2) (aCons (dTup (aCons (dBin gIdx (dBin gIdx (dVar 3) (dC (.int 1))) (dApp gLen (aCons (dVar 4) (aNil)))) (aCons (nLst (aNil)) (aNil)))) (aNil)))) (sSeq (sIf (xOf (dCall F_is_number [.int 0, .non] (aCons (dVar 3) (aNil)))) (sDrop (dMtL gAppend (dVar 1) (aCons (dTup (aCons (dC .non) (aCons (dTup (aNil)) (aCons (dTup (aCons (dVar 3) (aNil))) (aNil))))) (aNil)))) (sDrop (dMtL gAppend (dVar 1) (aCons (dTup (aCons (dBin gIdx (dVar 3) (dC (.int 0))) (aCons (dApp gTuple (aCons (dVar 4) (aNil))) (aCons (dCall F_joined_lots [] (aCons (dLc (iSeq (dVar 4)) [5] (.nm 5) (xYes) (dBin gIdx (dBin gIdx (dVar 1) (dVar 5)) (dC (.int 2)))) (aNil))) (aNil))))) (aNil))))) (sSeq (sDrop (dMtL gPop (dVar 2) aNil)) (sIf (xOf (dBin (gGt) (dApp gLen (aCons (dVar 2) (aNil))) (dC (.int 0)))) (sDrop (dMtL gAppend (dBin gIdx (dBin gIdx (dVar 2) (dUn gNeg (dC (.int 1)))) (dC (.int 1))) (aCons (dBin gSubI (dApp gLen (aCons (dVar 1) (aNil))) (dC (.int 1))) (aNil)))) (sNext))))))) (sRet (dApp gTuple (aCons (dVar 1) (aNil)))))
noncomputable def F_term_rows : List D → Store → Res D := defD 1 6 B_term_rows
abbrev c_NOUGHT : D := .tup [.int 0, .int 1]
noncomputable def B_trimmed_row : DenS := sSeq (sSet 1 (dApp gMaxA (aCons (dLc (iEnum (dVar 0)) [2, 3] (.tp [.nm 2, .nm 3]) (xOf (dBin (gEq true) (dVar 3) (dC c_NOUGHT))) (dBin gAdd (dVar 2) (dC (.int 1)))) (aNil)))) (sRet (dApp gTuple (aCons (dSl (dVar 0) (oNone) (oSome (dVar 1))) (aNil))))
noncomputable def F_trimmed_row : List D → Store → Res D := defD 1 4 B_trimmed_row
noncomputable def B_common_part : DenS := sSeq (sWhile (xOf (dBin (gEq true) (dVar 1) (dC (.int 0)))) [] (sPar 0 1 (dVar 1) (dBin gMod (dVar 0) (dVar 1)))) (sRet (dApp gAbs (aCons (dVar 0) (aNil))))
noncomputable def F_common_part : List D → Store → Res D := defD 2 2 B_common_part
noncomputable def B_fraction_of : DenS := sSeq (sSet 2 (dCall F_common_part [] (aCons (dVar 0) (aCons (dVar 1) (aNil))))) (sRet (dTup (aCons (dBin gDiv (dVar 0) (dVar 2)) (aCons (dBin gDiv (dVar 1) (dVar 2)) (aNil)))))
noncomputable def F_fraction_of : List D → Store → Res D := defD 2 3 B_fraction_of
noncomputable def B_plus_fractions : DenS := sRet (dCall F_fraction_of [] (aCons (dBin gAdd (dBin gMul (dBin gIdx (dVar 0) (dC (.int 0))) (dBin gIdx (dVar 1) (dC (.int 1)))) (dBin gMul (dBin gIdx (dVar 1) (dC (.int 0))) (dBin gIdx (dVar 0) (dC (.int 1))))) (aCons (dBin gMul (dBin gIdx (dVar 0) (dC (.int 1))) (dBin gIdx (dVar 1) (dC (.int 1)))) (aNil))))
noncomputable def F_plus_fractions : List D → Store → Res D := defD 2 2 B_plus_fractions
noncomputable def B_times_fractions : DenS := sRet (dCall F_fraction_of [] (aCons (dBin gMul (dBin gIdx (dVar 0) (dC (.int 0))) (dBin gIdx (dVar 1) (dC (.int 0)))) (aCons (dBin gMul (dBin gIdx (dVar 0) (dC (.int 1))) (dBin gIdx (dVar 1) (dC (.int 1)))) (aNil))))
noncomputable def F_times_fractions : List D → Store → Res D := defD 2 2 B_times_fractions
noncomputable def B_summed_row : DenS := sSeq (sSet 2 (dBin gMulN (dLst (aCons (dC c_NOUGHT) (aNil))) (dBin gSubI (dBin gAdd (dApp gLen (aCons (dVar 0) (aNil))) (dApp gLen (aCons (dVar 1) (aNil)))) (dC (.int 1))))) (sSeq (sFor (iEnum (dVar 0)) (.tp [.nm 3, .nm 4]) [3, 4, 5, 6] (sFor (iEnum (dVar 1)) (.tp [.nm 5, .nm 6]) [5, 6] (sSetI (dVar 2) (dBin gAdd (dVar 3) (dVar 5)) (dCall F_plus_fractions [] (aCons (dBin gIdx (dVar 2) (dBin gAdd (dVar 3) (dVar 5))) (aCons (dCall F_times_fractions [] (aCons (dVar 4) (aCons (dVar 6) (aNil)))) (aNil))))))) (sRet (dApp gTuple (aCons (dVar 2) (aNil)))))
noncomputable def F_summed_row : List D → Store → Res D := defD 2 7 B_summed_row
noncomputable def B_least_row : DenS := sSeq (sSet 2 (dBin gMulN (dLst (aCons (dC c_NOUGHT) (aNil))) (dApp gMin2 (aCons (dApp gLen (aCons (dVar 0) (aNil))) (aCons (dApp gLen (aCons (dVar 1) (aNil))) (aNil)))))) (sSeq (sFor (iEnum (dVar 0)) (.tp [.nm 3, .nm 4]) [3, 4, 5, 6] (sFor (iEnum (dVar 1)) (.tp [.nm 5, .nm 6]) [5, 6] (sSetI (dVar 2) (dApp gMin2 (aCons (dVar 3) (aCons (dVar 5) (aNil)))) (dCall F_plus_fractions [] (aCons (dBin gIdx (dVar 2) (dApp gMin2 (aCons (dVar 3) (aCons (dVar 5) (aNil))))) (aCons (dCall F_times_fractions [] (aCons (dVar 4) (aCons (dVar 6) (aNil)))) (aNil))))))) (sRet (dApp gTuple (aCons (dVar 2) (aNil)))))
noncomputable def F_least_row : List D → Store → Res D := defD 2 7 B_least_row
abbrev c_ROW : D := .str "row"
noncomputable def B_number_chances : DenS := sSeq (sSet 2 (nLst (aNil))) (sSeq (sFor (iSeq (dCall F_term_rows [] (aCons (dVar 0) (aNil)))) (.tp [.nm 3, .nm 4, .nm 5]) [3, 4, 5, 6, 7] (sSeq (sSet 6 (dIf (xOf (dBin (gIsN false) (dVar 3) (dC .non))) (dBin gIdx (dVar 1) (dBin gIdx (dVar 5) (dC (.int 0)))) (dBin gIdx (dVar 2) (dBin gIdx (dVar 4) (dC (.int 0)))))) (sSeq (sFor (iSeq (dSl (dVar 4) (oSome (dC (.int 1))) (oNone))) (.nm 7) [7] (sSet 6 (dIf (xOf (dBin (gEq false) (dVar 3) (dC c_ROW))) (dCall F_least_row [] (aCons (dVar 6) (aCons (dBin gIdx (dVar 2) (dVar 7)) (aNil)))) (dCall F_summed_row [] (aCons (dVar 6) (aCons (dBin gIdx (dVar 2) (dVar 7)) (aNil))))))) (sDrop (dMtL gAppend (dVar 2) (aCons (dCall F_trimmed_row [] (aCons (dVar 6) (aNil))) (aNil))))))) (sRet (dBin gIdx (dVar 2) (dUn gNeg (dC (.int 1))))))
noncomputable def F_number_chances : List D → Store → Res D := defD 2 8 B_number_chances
noncomputable def B__law_box : DenS := sSeq (sSet 2 (dBin gAdd (dBin gMul (dC (.int 8513)) (dVar 1)) (dC (.int 6329)))) (sSeq (sIf (xOf (dBin (gLt) (dVar 1) (dApp gLen (aCons (dVar 0) (aNil))))) (sSet 2 (dApp gAbs (aCons (dApp gInt (aCons (dBin gIdx (dVar 0) (dVar 1)) (aNil))) (aNil)))) (sIf (xOf (dBin (gGt) (dApp gLen (aCons (dVar 0) (aNil))) (dC (.int 0)))) (sSet 2 (dBin gAdd (dVar 2) (dBin gMul (dBin gMod (dApp gInt (aCons (dApp gAbs (aCons (dApp gInt (aCons (dBin gIdx (dVar 0) (dBin gMod (dApp gInt (aCons (dVar 1) (aNil))) (dApp gLen (aCons (dVar 0) (aNil))))) (aNil))) (aNil))) (aNil))) (dC (.int 2147483563))) (dC (.int 50331))))) (sNext))) (sSeq (sSet 3 (dIf (xOf (dBin (gGe) (dVar 2) (dBin gPow (dC (.int 10)) (dC (.int 18))))) (dVar 2) (dC (.int 0)))) (sRet (nLst (aCons (dVar 3) (aCons (dBin gAdd (dBin gMod (dApp gInt (aCons (dBin gAdd (dBin gMul (dBin gMod (dApp gInt (aCons (dVar 2) (aNil))) (dC (.int 2147483563))) (dC (.int 40709))) (dBin gMul (dC (.int 6329)) (dVar 1))) (aNil))) (dC (.int 2147483563))) (dC (.int 1))) (aNil)))))))
noncomputable def F__law_box : List D → Store → Res D := defR 2 4 B__law_box
noncomputable def B__law_take : DenS := sSeq (sIf (xOf (dBin (gGt) (dBin gIdx (dVar 0) (dC (.int 0))) (dC (.int 0)))) (sSeq (sSet 2 (dBin gMod (dApp gInt (aCons (dBin gIdx (dVar 0) (dC (.int 0))) (aNil))) (dVar 1))) (sSeq (sSetI (dVar 0) (dC (.int 0)) (dBin gDiv (dBin gIdx (dVar 0) (dC (.int 0))) (dVar 1))) (sRet (dVar 2)))) (sNext)) (sSeq (sSet 3 (dBin gMod (dApp gInt (aCons (dBin gAdd (dBin gMul (dBin gIdx (dVar 0) (dC (.int 1))) (dC (.int 39373))) (dC (.int 593))) (aNil))) (dC (.int 2147483647)))) (sSeq (sSetI (dVar 0) (dC (.int 1)) (dBin gAdd (dBin gMod (dApp gInt (aCons (dBin gAdd (dBin gMul (dVar 3) (dC (.int 40692))) (dC (.int 71))) (aNil))) (dC (.int 2147483399))) (dC (.int 1)))) (sRet (dBin gMod (dApp gInt (aCons (dBin gDiv (dBin gAdd (dBin gMul (dVar 3) (dC (.int 2147483629))) (dBin gIdx (dVar 0) (dC (.int 1)))) (dC (.int 8209))) (aNil))) (dVar 1)))))
noncomputable def F__law_take : List D → Store → Res D := defD 2 4 B__law_take
noncomputable def B__law_pick : DenS := sRet (dBin gIdx (dVar 1) (dCall F__law_take [] (aCons (dVar 0) (aCons (dApp gLen (aCons (dVar 1) (aNil))) (aNil)))))
noncomputable def F__law_pick : List D → Store → Res D := defD 2 2 B__law_pick
noncomputable def R__law_same (Fr : List D → Store → Res D) : DenS := sSeq (sIf (xOf (dApp (gIsi "tuple") (aCons (dVar 1) aNil))) (sSeq (sIf (xOr (xNot (xOf (dApp (gIsi "tuple") (aCons (dVar 0) aNil)))) (xOf (dBin (gEq true) (dApp gLen (aCons (dVar 0) (aNil))) (dApp gLen (aCons (dVar 1) (aNil)))))) (sRet (dC (.bl false))) (sNext)) (sSeq (sFor (iZip (dVar 0) (dVar 1)) (.tp [.nm 2, .nm 3]) [2, 3] (sIf (xNot (xOf (dCall Fr [] (aCons (dVar 2) (aCons (dVar 3) (aNil)))))) (sRet (dC (.bl false))) (sNext))) (sRet (dC (.bl true))))) (sNext)) (sSeq (sIf (xOf (dBin (gIsN false) (dVar 1) (dC .non))) (sRet (dBin (gIsN false) (dVar 0) (dC .non))) (sNext)) (sSeq (sIf (xOr (xOf (dBin (gIsN false) (dVar 1) (dC (.bl true)))) (xOf (dBin (gIsN false) (dVar 1) (dC (.bl false))))) (sRet (dAnd (dApp (gIsi "bool") (aCons (dVar 0) aNil)) (dBin (gEq false) (dVar 0) (dVar 1)))) (sNext)) (sSeq (sIf (xOf (dApp (gIsi "str") (aCons (dVar 1) aNil))) (sRet (dAnd (dApp (gIsi "str") (aCons (dVar 0) aNil)) (dBin (gEq false) (dVar 0) (dVar 1)))) (sNext)) (sRet (dAnd (dApp (gIsi "int") (aCons (dVar 0) aNil)) (dAnd (dNot (dApp (gIsi "bool") (aCons (dVar 0) aNil))) (dBin (gEq false) (dVar 0) (dVar 1))))))))
noncomputable def F__law_same : Nat → List D → Store → Res D
  | 0 => Fbad
  | n + 1 => defD 2 4 (R__law_same (F__law_same n))
noncomputable def B__law_same (n : Nat) : DenS := R__law_same (F__law_same n)
noncomputable def B__law_order : DenS := sSeq (sSet 2 (nLst (aNil))) (sSeq (sFor (iSeq (dVar 1)) (.nm 3) [3] (sDrop (dMtL gInsert (dVar 2) (aCons (dCall F__law_take [] (aCons (dVar 0) (aCons (dBin gAdd (dApp gLen (aCons (dVar 2) (aNil))) (dC (.int 1))) (aNil)))) (aCons (dVar 3) (aNil)))))) (sRet (dVar 2)))
noncomputable def F__law_order : List D → Store → Res D := defD 2 4 B__law_order
noncomputable def B__law_joined : DenS := sRet (dApp gTuple (aCons (dApp gSortA (aCons (dBin gAdd (dApp gList (aCons (dVar 0) (aNil))) (dLc (iSeq (dVar 1)) [2] (.nm 2) (xOf (dBin (gIn true) (dVar 2) (dVar 0))) (dVar 2))) (aNil))) (aNil)))
noncomputable def F__law_joined : List D → Store → Res D := defD 2 3 B__law_joined
noncomputable def B__law_row : DenS := sSeq (sSet 2 (dLst (aCons (dTup (aNil)) (aNil)))) (sSeq (sFor (iSeq (dVar 1)) (.tp [.nm 3, .nm 4]) [3, 4, 5, 6, 7] (sSeq (sSet 5 (nLst (aNil))) (sSeq (sFor (iSeq (dVar 2)) (.nm 6) [6, 7] (sFor (iSeq (dVar 4)) (.nm 7) [7] (sDrop (dMtL gAppend (dVar 5) (aCons (dCall F__law_joined [] (aCons (dVar 6) (aCons (dVar 7) (aNil)))) (aNil)))))) (sSet 2 (dVar 5))))) (sRet (dTup (aCons (dTup (aCons (dC (.str "row")) (aCons (dApp gTuple (aCons (dCall F__law_order [] (aCons (dVar 0) (aCons (dLc (iSeq (dVar 1)) [3, 4] (.tp [.nm 3, .nm 4]) (xYes) (dVar 3)) (aNil)))) (aNil))) (aNil)))) (aCons (dVar 2) (aNil))))))
noncomputable def F__law_row : List D → Store → Res D := defD 2 8 B__law_row
noncomputable def B__law_side : DenS := sSeq (sSet 2 (dLst (aNil))) (sSeq (sFor (iSeq (dVar 1)) (.tp [.nm 3, .nm 4]) [3, 4] (sSet 2 (dBin gAdd (dVar 2) (dVar 4)))) (sRet (dTup (aCons (dTup (aCons (dC (.str "side")) (aCons (dApp gTuple (aCons (dCall F__law_order [] (aCons (dVar 0) (aCons (dLc (iSeq (dVar 1)) [3, 4] (.tp [.nm 3, .nm 4]) (xYes) (dVar 3)) (aNil)))) (aNil))) (aNil)))) (aCons (dVar 2) (aNil))))))
noncomputable def F__law_side : List D → Store → Res D := defD 2 5 B__law_side
noncomputable def B__law_things : DenS := sRet (dLc (iSeq (dVar 0)) [1] (.nm 1) (xYes) (dTup (aCons (dVar 1) (aCons (dLst (aCons (dTup (aCons (dVar 1) (aNil))) (aNil))) (aNil)))))
noncomputable def F__law_things : List D → Store → Res D := defD 1 2 B__law_things
noncomputable def B__law_once : DenS := sSeq (sSet 3 (dCall F__law_things [] (aCons (dVar 1) (aNil)))) (sSeq (sFor (iRange1 (dC (.int 60))) (.nm 4) [4, 5, 6, 7, 8, 9] (sSeq (sIf (xOf (dBin (gEq false) (dApp gLen (aCons (dVar 3) (aNil))) (dC (.int 1)))) (sBrk) (sNext)) (sSeq (sSet 3 (dCall F__law_order [] (aCons (dVar 0) (aCons (dVar 3) (aNil))))) (sSeq (sSet 5 (dSl (dVar 3) (oNone) (oSome (dApp gMin2 (aCons (dApp gLen (aCons (dVar 3) (aNil))) (aCons (dBin gAdd (dC (.int 2)) (dCall F__law_take [] (aCons (dVar 0) (aCons (dC (.int 2)) (aNil))))) (aNil))))))) (sSeq (sSet 6 (dC (.int 1))) (sSeq (sFor (iSeq (dVar 5)) (.tp [.nm 7, .nm 8]) [7, 8] (sSet 6 (dBin gMul (dVar 6) (dApp gLen (aCons (dVar 8) (aNil)))))) (sSeq (sSet 9 (dIf (xAnd (xOf (dBin (gLe) (dVar 6) (dVar 2))) (xOf (dBin (gEq false) (dCall F__law_take [] (aCons (dVar 0) (aCons (dC (.int 2)) (aNil)))) (dC (.int 0))))) (dCall F__law_row [] (aCons (dVar 0) (aCons (dVar 5) (aNil)))) (dCall F__law_side [] (aCons (dVar 0) (aCons (dVar 5) (aNil)))))) (sSet 3 (dBin gAdd (dSl (dVar 3) (oSome (dApp gLen (aCons (dVar 5) (aNil)))) (oNone)) (dLst (aCons (dVar 9) (aNil)))))))))))) (sRet (dBin gIdx (dVar 3) (dC (.int 0)))))
noncomputable def F__law_once : List D → Store → Res D := defD 3 10 B__law_once
noncomputable def B__law_family : DenS := sRet (dApp gTuple (aCons (dApp gSortA (aCons (dVar 0) (aNil))) (aNil)))
noncomputable def F__law_family : List D → Store → Res D := defD 1 1 B__law_family
noncomputable def B__law_many : DenS := sRet (dBin gAdd (dC (.int 1)) (dApp gMaxA (aCons (dLc (iSeq (dVar 0)) [1] (.nm 1) (xYes) (dApp gMaxA (aCons (dVar 1) (aNil)))) (aNil))))
noncomputable def F__law_many : List D → Store → Res D := defD 1 2 B__law_many
noncomputable def B__law_lowest : DenS := sSeq (sPar 2 3 (dApp gAbs (aCons (dVar 0) (aNil))) (dVar 1)) (sSeq (sFor (iRange1 (dC (.int 2000))) (.nm 4) [4] (sSeq (sIf (xOf (dBin (gEq false) (dVar 3) (dC (.int 0)))) (sBrk) (sNext)) (sPar 2 3 (dVar 3) (dBin gMod (dApp gInt (aCons (dVar 2) (aNil))) (dVar 3))))) (sRet (dTup (aCons (dBin gDiv (dVar 0) (dVar 2)) (aCons (dBin gDiv (dVar 1) (dVar 2)) (aNil))))))
noncomputable def F__law_lowest : List D → Store → Res D := defD 2 5 B__law_lowest
noncomputable def B__law_split_row : DenS := sSeq (sSet 2 (dCall F__law_pick [] (aCons (dVar 0) (aCons (dLst (aCons (dC (.int 2)) (aCons (dC (.int 6)) (aCons (dC (.int 12)) (aCons (dC (.int 60)) (aNil)))))) (aNil))))) (sSeq (sSet 3 (dApp gSortA (aCons (dLc (iRange1 (dBin gSubI (dVar 1) (dC (.int 1)))) [7] (.nm 7) (xYes) (dCall F__law_take [] (aCons (dVar 0) (aCons (dBin gAdd (dVar 2) (dC (.int 1))) (aNil))))) (aNil)))) (sSeq (sSet 4 (nLst (aNil))) (sSeq (sFor (iZip (dBin gAdd (dLst (aCons (dC (.int 0)) (aNil))) (dVar 3)) (dBin gAdd (dVar 3) (dLst (aCons (dVar 2) (aNil))))) (.tp [.nm 5, .nm 6]) [5, 6] (sDrop (dMtL gAppend (dVar 4) (aCons (dCall F__law_lowest [] (aCons (dBin gSubI (dVar 6) (dVar 5)) (aCons (dVar 2) (aNil)))) (aNil))))) (sRet (dApp gTuple (aCons (dVar 4) (aNil)))))))
noncomputable def F__law_split_row : List D → Store → Res D := defD 2 8 B__law_split_row
noncomputable def B__law_sum : DenS := sRet (dCall F__law_lowest [] (aCons (dBin gAdd (dBin gMul (dBin gIdx (dVar 0) (dC (.int 0))) (dBin gIdx (dVar 1) (dC (.int 1)))) (dBin gMul (dBin gIdx (dVar 1) (dC (.int 0))) (dBin gIdx (dVar 0) (dC (.int 1))))) (aCons (dBin gMul (dBin gIdx (dVar 0) (dC (.int 1))) (dBin gIdx (dVar 1) (dC (.int 1)))) (aNil))))
noncomputable def F__law_sum : List D → Store → Res D := defD 2 2 B__law_sum
noncomputable def B__law_times : DenS := sRet (dCall F__law_lowest [] (aCons (dBin gMul (dBin gIdx (dVar 0) (dC (.int 0))) (dBin gIdx (dVar 1) (dC (.int 0)))) (aCons (dBin gMul (dBin gIdx (dVar 0) (dC (.int 1))) (dBin gIdx (dVar 1) (dC (.int 1)))) (aNil))))
noncomputable def F__law_times : List D → Store → Res D := defD 2 2 B__law_times
noncomputable def B__law_draws : DenS := sSeq (sSet 1 (dLst (aCons (dTup (aCons (dTup (aNil)) (aCons (dTup (aCons (dC (.int 1)) (aCons (dC (.int 1)) (aNil)))) (aNil)))) (aNil)))) (sSeq (sFor (iSeq (dVar 0)) (.nm 2) [2, 3, 4, 5] (sSeq (sSet 3 (dLst (aNil))) (sSeq (sFor (iSeq (dVar 1)) (.tp [.nm 4, .nm 5]) [4, 5] (sSet 3 (dBin gAdd (dVar 3) (dLc (iSeq (dVar 2)) [6, 7] (.tp [.nm 6, .nm 7]) (xYes) (dTup (aCons (dBin gAdd (dVar 4) (dTup (aCons (dVar 6) (aNil)))) (aCons (dCall F__law_times [] (aCons (dVar 5) (aCons (dVar 7) (aNil)))) (aNil)))))))) (sSet 1 (dVar 3))))) (sRet (dVar 1)))
noncomputable def F__law_draws : List D → Store → Res D := defD 1 8 B__law_draws
noncomputable def B__law_paths : DenS := sSeq (sPar 1 2 (dLst (aCons (dVar 0) (aNil))) (nLst (aNil))) (sSeq (sFor (iRange1 (dC (.int 60))) (.nm 3) [3, 4] (sSeq (sIf (xOf (dBin (gEq false) (dVar 3) (dApp gLen (aCons (dVar 1) (aNil))))) (sBrk) (sNext)) (sSeq (sSet 4 (dBin gIdx (dVar 1) (dVar 3))) (sIf (xOf (dApp (gIsi "int") (aCons (dVar 4) aNil))) (sDrop (dMtL gAppend (dVar 2) (aCons (dTup (aCons (dC .non) (aCons (dVar 4) (aNil)))) (aNil)))) (sSeq (sDrop (dMtL gAppend (dVar 2) (aCons (dTup (aCons (dBin gIdx (dVar 4) (dC (.int 0))) (aCons (dLrg2 (dApp gLen (aCons (dVar 1) (aNil))) (dBin gAdd (dApp gLen (aCons (dVar 1) (aNil))) (dApp gLen (aCons (dBin gIdx (dVar 4) (dC (.int 1))) (aNil))))) (aNil)))) (aNil)))) (sSet 1 (dBin gAdd (dVar 1) (dApp gList (aCons (dBin gIdx (dVar 4) (dC (.int 1))) (aNil)))))))))) (sRet (dVar 2)))
noncomputable def F__law_paths : List D → Store → Res D := defD 1 5 B__law_paths
noncomputable def B__law_narrow : DenS := sSeq (sSet 2 (dCall F__law_paths [] (aCons (dVar 0) (aNil)))) (sSeq (sSet 3 (nLc (iSeq (dVar 2)) [8] (.nm 8) (xYes) (dC (.int 0)))) (sSeq (sFor (iRev (dLrg1 (dApp gLen (aCons (dVar 2) (aNil))))) (.nm 4) [4, 5, 6, 7] (sSeq (sAsg (.tp [.nm 5, .nm 6]) (dBin gIdx (dVar 2) (dVar 4))) (sIf (xOf (dBin (gIsN false) (dVar 5) (dC .non))) (sSetI (dVar 3) (dVar 4) (dBin gIdx (dVar 1) (dVar 6))) (sSeq (sSet 7 (dLc (iSeq (dVar 6)) [9] (.nm 9) (xYes) (dBin gIdx (dVar 3) (dVar 9)))) (sSetI (dVar 3) (dVar 4) (dIf (xOf (dBin (gEq false) (dVar 5) (dC (.str "row")))) (dApp gMinA (aCons (dVar 7) (aNil))) (dApp gSum (aCons (dVar 7) (aNil))))))))) (sRet (dBin gIdx (dVar 3) (dC (.int 0))))))
noncomputable def F__law_narrow : List D → Store → Res D := defD 2 10 B__law_narrow
noncomputable def B__law_due : DenS := sSeq (sSet 2 (nDict)) (sSeq (sFor (iSeq (dCall F__law_draws [] (aCons (dLc (iSeq (dVar 1)) [7] (.nm 7) (xYes) (dLenum (dVar 7))) (aNil)))) (.tp [.nm 3, .nm 4]) [3, 4, 5] (sSeq (sSet 5 (dCall F__law_narrow [] (aCons (dVar 0) (aCons (dVar 3) (aNil))))) (sSetD (dVar 2) (dVar 5) (dCall F__law_sum [] (aCons (dIf (xOf (dBin (gDIn false) (dVar 5) (dVar 2))) (dBin gDGet (dVar 2) (dVar 5)) (dTup (aCons (dC (.int 0)) (aCons (dC (.int 1)) (aNil))))) (aCons (dVar 4) (aNil))))))) (sSeq (sSet 6 (dApp gMaxA (aCons (dLock 2 (dLc (iDictI (dVar 2)) [5] (.nm 5) (xOf (dBin (gGt) (dBin gIdx (dBin gDGet (dVar 2) (dVar 5)) (dC (.int 0))) (dC (.int 0)))) (dVar 5))) (aNil)))) (sRet (dApp gTuple (aCons (dLc (iRange1 (dBin gAdd (dVar 6) (dC (.int 1)))) [5] (.nm 5) (xYes) (dIf (xOf (dBin (gDIn false) (dVar 5) (dVar 2))) (dBin gDGet (dVar 2) (dVar 5)) (dTup (aCons (dC (.int 0)) (aCons (dC (.int 1)) (aNil)))))) (aNil))))))
noncomputable def F__law_due : List D → Store → Res D := defD 2 8 B__law_due
noncomputable def B_law : DenS := sSeq (sFor (iRange1 (dC (.int 3))) (.nm 1) [1, 2, 3, 4, 5, 6] (sSeq (sSet 2 (dCall F__law_box [] (aCons (dVar 0) (aCons (dVar 1) (aNil))))) (sSeq (sAsg (.tp [.nm 3, .nm 4]) (dCall F__law_once [] (aCons (dVar 2) (aCons (dLrg1 (dBin gAdd (dC (.int 1)) (dCall F__law_take [] (aCons (dVar 2) (aCons (dC (.int 5)) (aNil)))))) (aCons (dC (.int 9)) (aNil)))))) (sSeq (sSet 5 (dIf (xOf (dBin (gLt) (dCall F__law_many [] (aCons (dCall F__law_family [] (aCons (dVar 4) (aNil))) (aNil))) (dC (.int 5)))) (dCall F__law_pick [] (aCons (dVar 2) (aCons (dLst (aCons (dC (.int 2)) (aCons (dC (.int 3)) (aCons (dC (.int 4)) (aNil))))) (aNil)))) (dC (.int 3)))) (sSeq (sSet 6 (dApp gTuple (aCons (dLc (iRange1 (dCall F__law_many [] (aCons (dCall F__law_family [] (aCons (dVar 4) (aNil))) (aNil)))) [7] (.nm 7) (xYes) (dCall F__law_split_row [] (aCons (dVar 2) (aCons (dBin gAdd (dC (.int 1)) (dCall F__law_take [] (aCons (dVar 2) (aCons (dVar 5) (aNil))))) (aNil))))) (aNil)))) (sIf (xNot (xOf (dCall (F__law_same 8) [] (aCons (dCall F_number_chances [] (aCons (dVar 3) (aCons (dVar 6) (aNil)))) (aCons (dCall F__law_due [] (aCons (dVar 3) (aCons (dVar 6) (aNil)))) (aNil)))))) (sRet (dC (.bl false))) (sNext))))))) (sRet (dCall (F__law_same 8) [] (aCons (dCallP F_number_chances [1, 0] (aCons (dTup (aCons (dTup (aCons (dTup (aCons (dC (.int 0)) (aCons (dC (.int 1)) (aNil)))) (aCons (dTup (aCons (dC (.int 1)) (aCons (dC (.int 2)) (aNil)))) (aCons (dTup (aCons (dC (.int 1)) (aCons (dC (.int 2)) (aNil)))) (aNil))))) (aCons (dTup (aCons (dTup (aCons (dC (.int 1)) (aCons (dC (.int 2)) (aNil)))) (aCons (dTup (aCons (dC (.int 1)) (aCons (dC (.int 2)) (aNil)))) (aNil)))) (aCons (dTup (aCons (dTup (aCons (dC (.int 2)) (aCons (dC (.int 3)) (aNil)))) (aCons (dTup (aCons (dC (.int 1)) (aCons (dC (.int 3)) (aNil)))) (aNil)))) (aNil))))) (aCons (dTup (aCons (dC (.str "row")) (aCons (dTup (aCons (dC (.int 0)) (aCons (dTup (aCons (dC (.str "side")) (aCons (dTup (aCons (dC (.int 1)) (aCons (dC (.int 2)) (aNil)))) (aNil)))) (aNil)))) (aNil)))) (aNil)))) (aCons (dTup (aCons (dTup (aCons (dC (.int 1)) (aCons (dC (.int 3)) (aNil)))) (aCons (dTup (aCons (dC (.int 7)) (aCons (dC (.int 12)) (aNil)))) (aCons (dTup (aCons (dC (.int 1)) (aCons (dC (.int 12)) (aNil)))) (aNil))))) (aNil)))))
noncomputable def F_law : List D → Store → Res D := defD 1 8 B_law
abbrev c_ONE : D := .tup [.int 1, .int 1]
noncomputable def B_all_times : DenS := sSeq (sSet 1 (dC c_ONE)) (sSeq (sFor (iSeq (dVar 0)) (.nm 2) [2] (sSet 1 (dCall F_times_fractions [] (aCons (dVar 1) (aCons (dVar 2) (aNil)))))) (sRet (dVar 1)))
noncomputable def F_all_times : List D → Store → Res D := defD 1 3 B_all_times
noncomputable def B_less_fractions : DenS := sRet (dCall F_fraction_of [] (aCons (dBin gSubI (dBin gMul (dBin gIdx (dVar 0) (dC (.int 0))) (dBin gIdx (dVar 1) (dC (.int 1)))) (dBin gMul (dBin gIdx (dVar 1) (dC (.int 0))) (dBin gIdx (dVar 0) (dC (.int 1))))) (aCons (dBin gMul (dBin gIdx (dVar 0) (dC (.int 1))) (dBin gIdx (dVar 1) (dC (.int 1)))) (aNil))))
noncomputable def F_less_fractions : List D → Store → Res D := defD 2 2 B_less_fractions
noncomputable def B_missing_of : DenS := sRet (dCall F_less_fractions [] (aCons (dC c_ONE) (aCons (dVar 0) (aNil))))
noncomputable def F_missing_of : List D → Store → Res D := defD 1 1 B_missing_of
noncomputable def B_open_chance : DenS := sSeq (sSet 2 (nLst (aNil))) (sSeq (sFor (iSeq (dCall F_term_rows [] (aCons (dVar 0) (aNil)))) (.tp [.nm 3, .nm 4, .nm 5]) [3, 4, 5] (sIf (xOf (dBin (gIsN false) (dVar 3) (dC .non))) (sDrop (dMtL gAppend (dVar 2) (aCons (dBin gIdx (dVar 1) (dBin gIdx (dVar 5) (dC (.int 0)))) (aNil)))) (sIf (xOf (dBin (gEq false) (dVar 3) (dC c_ROW))) (sDrop (dMtL gAppend (dVar 2) (aCons (dCall F_all_times [] (aCons (dLc (iSeq (dVar 4)) [6] (.nm 6) (xYes) (dBin gIdx (dVar 2) (dVar 6))) (aNil))) (aNil)))) (sDrop (dMtL gAppend (dVar 2) (aCons (dCall F_missing_of [] (aCons (dCall F_all_times [] (aCons (dLc (iSeq (dVar 4)) [6] (.nm 6) (xYes) (dCall F_missing_of [] (aCons (dBin gIdx (dVar 2) (dVar 6)) (aNil)))) (aNil))) (aNil))) (aNil))))))) (sRet (dBin gIdx (dVar 2) (dUn gNeg (dC (.int 1))))))
noncomputable def F_open_chance : List D → Store → Res D := defD 2 7 B_open_chance
noncomputable def B_with_chance : DenS := sRet (dBin gAdd (dBin gAdd (dSl (dVar 0) (oNone) (oSome (dVar 1))) (dTup (aCons (dVar 2) (aNil)))) (dSl (dVar 0) (oSome (dBin gAdd (dVar 1) (dC (.int 1)))) (oNone)))
noncomputable def F_with_chance : List D → Store → Res D := defD 3 3 B_with_chance
noncomputable def B_thing_weight : DenS := sSeq (sPar 3 4 (dCall F_with_chance [] (aCons (dVar 1) (aCons (dVar 2) (aCons (dC c_ONE) (aNil))))) (dCall F_with_chance [] (aCons (dVar 1) (aCons (dVar 2) (aCons (dC c_NOUGHT) (aNil)))))) (sRet (dCall F_less_fractions [] (aCons (dCall F_open_chance [] (aCons (dVar 0) (aCons (dVar 3) (aNil)))) (aCons (dCall F_open_chance [] (aCons (dVar 0) (aCons (dVar 4) (aNil)))) (aNil)))))
noncomputable def F_thing_weight : List D → Store → Res D := defD 3 5 B_thing_weight
noncomputable def B__law_put : DenS := sRet (dBin gAdd (dBin gAdd (dSl (dVar 0) (oNone) (oSome (dVar 1))) (dTup (aCons (dVar 2) (aNil)))) (dSl (dVar 0) (oSome (dBin gAdd (dVar 1) (dC (.int 1)))) (oNone)))
noncomputable def F__law_put : List D → Store → Res D := defD 3 3 B__law_put
noncomputable def B__law_minus : DenS := sRet (dCall F__law_lowest [] (aCons (dBin gSubI (dBin gMul (dBin gIdx (dVar 0) (dC (.int 0))) (dBin gIdx (dVar 1) (dC (.int 1)))) (dBin gMul (dBin gIdx (dVar 1) (dC (.int 0))) (dBin gIdx (dVar 0) (dC (.int 1))))) (aCons (dBin gMul (dBin gIdx (dVar 0) (dC (.int 1))) (dBin gIdx (dVar 1) (dC (.int 1)))) (aNil))))
noncomputable def F__law_minus : List D → Store → Res D := defD 2 2 B__law_minus
noncomputable def B__law_chance : DenS := sSeq (sSet 1 (dCall F__law_pick [] (aCons (dVar 0) (aCons (dLst (aCons (dC (.int 2)) (aCons (dC (.int 3)) (aCons (dC (.int 6)) (aCons (dC (.int 10)) (aCons (dC (.int 100)) (aCons (dBin gAdd (dC (.int 1)) (dCall F__law_take [] (aCons (dVar 0) (aCons (dC (.int 100)) (aNil))))) (aNil)))))))) (aNil))))) (sRet (dCall F__law_pick [] (aCons (dVar 0) (aCons (dLst (aCons (dTup (aCons (dC (.int 0)) (aCons (dC (.int 1)) (aNil)))) (aCons (dTup (aCons (dC (.int 1)) (aCons (dC (.int 1)) (aNil)))) (aCons (dTup (aCons (dC (.int 1)) (aCons (dC (.int 2)) (aNil)))) (aCons (dCall F__law_lowest [] (aCons (dCall F__law_take [] (aCons (dVar 0) (aCons (dBin gAdd (dVar 1) (dC (.int 1))) (aNil)))) (aCons (dVar 1) (aNil)))) (aCons (dCall F__law_lowest [] (aCons (dCall F__law_take [] (aCons (dVar 0) (aCons (dBin gAdd (dVar 1) (dC (.int 1))) (aNil)))) (aCons (dVar 1) (aNil)))) (aCons (dCall F__law_lowest [] (aCons (dCall F__law_take [] (aCons (dVar 0) (aCons (dBin gAdd (dVar 1) (dC (.int 1))) (aNil)))) (aCons (dVar 1) (aNil)))) (aNil)))))))) (aNil)))))
noncomputable def F__law_chance : List D → Store → Res D := defD 1 2 B__law_chance
noncomputable def B__law_chances : DenS := sRet (dApp gTuple (aCons (dLc (iRange1 (dVar 1)) [2] (.nm 2) (xYes) (dCall F__law_chance [] (aCons (dVar 0) (aNil)))) (aNil)))
noncomputable def F__law_chances : List D → Store → Res D := defD 2 3 B__law_chances
noncomputable def B__law_by_lots : DenS := sSeq (sPar3 2 3 4 (dApp gLen (aCons (dVar 1) (aNil))) (dC (.int 1)) (dC (.int 0))) (sSeq (sFor (iSeq (dVar 1)) (.nm 5) [5] (sSet 3 (dBin gMul (dVar 3) (dBin gIdx (dVar 5) (dC (.int 1)))))) (sSeq (sFor (iRange1 (dBin gShl (dC (.int 1)) (dVar 2))) (.nm 6) [5, 6, 7, 8, 9] (sSeq (sSet 8 (dLc (iRange1 (dVar 2)) [7] (.nm 7) (xOf (dBin (gEq false) (dBin gMod (dApp gInt (aCons (dBin gShr (dVar 6) (dVar 7)) (aNil))) (dC (.int 2))) (dC (.int 1)))) (dVar 7))) (sIf (xOf (dBin (gGt) (dApp gLen (aCons (dLc (iSeq (dVar 0)) [10] (.nm 10) (xOf (dBin (gEq false) (dApp gLen (aCons (dLc (iSeq (dVar 10)) [7] (.nm 7) (xOf (dBin (gIn true) (dVar 7) (dVar 8))) (dVar 7)) (aNil))) (dC (.int 0)))) (dVar 10)) (aNil))) (dC (.int 0)))) (sSeq (sSet 9 (dC (.int 1))) (sSeq (sFor (iEnum (dVar 1)) (.tp [.nm 7, .nm 5]) [5, 7] (sSet 9 (dBin gMul (dVar 9) (dIf (xOf (dBin (gIn false) (dVar 7) (dVar 8))) (dBin gIdx (dVar 5) (dC (.int 0))) (dBin gSubI (dBin gIdx (dVar 5) (dC (.int 1))) (dBin gIdx (dVar 5) (dC (.int 0)))))))) (sSet 4 (dBin gAdd (dVar 4) (dVar 9))))) (sNext)))) (sRet (dCall F__law_lowest [] (aCons (dVar 4) (aCons (dVar 3) (aNil)))))))
noncomputable def F__law_by_lots : List D → Store → Res D := defD 2 11 B__law_by_lots
noncomputable def B__law_product : DenS := sSeq (sSet 1 (dTup (aCons (dC (.int 1)) (aCons (dC (.int 1)) (aNil))))) (sSeq (sFor (iSeq (dVar 0)) (.nm 2) [2] (sSet 1 (dCall F__law_times [] (aCons (dVar 1) (aCons (dVar 2) (aNil)))))) (sRet (dVar 1)))
noncomputable def F__law_product : List D → Store → Res D := defD 1 3 B__law_product
noncomputable def B__law_missing_of : DenS := sRet (dLc (iSeq (dVar 0)) [1] (.nm 1) (xYes) (dCall F__law_minus [] (aCons (dTup (aCons (dC (.int 1)) (aCons (dC (.int 1)) (aNil)))) (aCons (dVar 1) (aNil)))))
noncomputable def F__law_missing_of : List D → Store → Res D := defD 1 2 B__law_missing_of
end Cm

set_option maxHeartbeats 4000000
namespace Dn
open PySem PySem.Spec PyProof.Rows L2

/-! ### reckoning denotations -/
section
variable {τ ω : Type} {d x y : D} {S S1 : Store} {ρ : Env} {k : τ → Store → Res ω} {v : τ}
@[simp] theorem rbind_ok : rbind (.ok v S) k = k v S := (rfl)
@[simp] theorem rbind_bad : rbind (.bad : Res τ) k = .bad := (rfl)
@[simp] theorem rbind_exc {e : Exn} : rbind (.exc e S : Res τ) k = .exc e S := (rfl)
@[simp] theorem obind_ok {k : τ → Store → Out} : obind (.ok v S) ρ k = k v S := (rfl)
@[simp] theorem obind_bad {k : τ → Store → Out} : obind (.bad : Res τ) ρ k = .bad := (rfl)
@[simp] theorem nox_ok : nox (.ok v S : Res τ) = .ok v S := (rfl)
@[simp] theorem dVar_zero : dVar 0 (some d :: ρ) S = .ok d S := (rfl)
@[simp] theorem dVar_succ {o : Option D} {n : Nat} : dVar (n + 1) (o :: ρ) S = dVar n ρ S := by
  unfold dVar; simp
@[simp] theorem dC_eq : dC d ρ S = .ok d S := (rfl)
@[simp] theorem dUn_eq {g : D → Store → Res D} {a : Den} : dUn g a ρ S = rbind (a ρ S) fun x S1 => g x S1 := (rfl)
@[simp] theorem dBin_eq {g : D → D → Store → Res D} {a b : Den} : dBin g a b ρ S = rbind (a ρ S) fun x S1 => rbind (b ρ S1) fun y S2 => g x y S2 := (rfl)
@[simp] theorem dBl_eq {b : Bool} : dBl (.bl b) S = .ok b S := (rfl)
@[simp] theorem xOf_eq {a : Den} : xOf a ρ S = rbind (a ρ S) dBl := (rfl)
@[simp] theorem xAnd_eq {a b : DenT} : xAnd a b ρ S = rbind (a ρ S) fun x S1 => if x = true then b ρ S1 else .ok false S1 := (rfl)
@[simp] theorem xOr_eq {a b : DenT} : xOr a b ρ S = rbind (a ρ S) fun x S1 => if x = true then .ok true S1 else b ρ S1 := (rfl)
@[simp] theorem xNot_eq {a : DenT} : xNot a ρ S = rbind (a ρ S) fun x S1 => .ok (!x) S1 := (rfl)
@[simp] theorem xYes_eq : xYes ρ S = .ok true S := (rfl)
@[simp] theorem dAnd_eq {a b : Den} : dAnd a b ρ S = rbind (a ρ S) fun x S1 => rbind (dBl x S1) fun k S2 => if k = true then b ρ S2 else .ok (.bl false) S2 := (rfl)
@[simp] theorem dOr_eq {a b : Den} : dOr a b ρ S = rbind (a ρ S) fun x S1 => rbind (dBl x S1) fun k S2 => if k = true then .ok (.bl true) S2 else b ρ S2 := (rfl)
@[simp] theorem dNot_eq {a : Den} : dNot a ρ S = rbind (a ρ S) fun x S1 => rbind (dBl x S1) fun k S2 => .ok (.bl (!k)) S2 := (rfl)
@[simp] theorem dIf_eq {t : DenT} {a b : Den} : dIf t a b ρ S = rbind (t ρ S) fun k S1 => if k = true then a ρ S1 else b ρ S1 := (rfl)
@[simp] theorem aNil_eq : aNil ρ S = .ok [] S := (rfl)
@[simp] theorem aCons_eq {a : Den} {r : DenA} : aCons a r ρ S = rbind (a ρ S) fun x S1 => rbind (r ρ S1) fun xs S2 => .ok (x :: xs) S2 := (rfl)
@[simp] theorem dApp_eq {g : List D → Store → Res D} {a : DenA} : dApp g a ρ S = rbind (a ρ S) g := (rfl)
theorem small_lt {n : Nat} (h : n < 16777216) : n < sizeLine := by rw [sizeLine_eq]; exact h
theorem small_line {n : Nat} (h : n ≤ 16777216) : n ≤ sizeLine := by rw [sizeLine_eq]; exact h
@[simp] theorem dTup_eq {a : DenA} : dTup a ρ S = rbind (a ρ S) fun xs S => if xs.length ≤ sizeLine then .ok (.tup xs) S else .bad := (rfl)
@[simp] theorem dLst_eq {a : DenA} : dLst a ρ S = rbind (a ρ S) fun xs S => if xs.length ≤ sizeLine then .ok (.lst xs) S else .bad := (rfl)
@[simp] theorem nLst_eq {a : DenA} : nLst a ρ S = rbind (a ρ S) fun xs S => if xs.length ≤ sizeLine then .ok (.ref S.length) (S ++ [.lst xs]) else .bad := (rfl)
@[simp] theorem dCall_eq {F : List D → Store → Res D} {dv : List D} {a : DenA} : dCall F dv a ρ S = rbind (a ρ S) fun ds S1 => nox (F (ds ++ dv) S1) := (rfl)
@[simp] theorem dChain_eq {g g' : D → D → Store → Res D} {a b c : Den} : dChain g g' a b c ρ S = rbind (a ρ S) fun x S1 => rbind (b ρ S1) fun y S2 => rbind (g x y S2) fun z S3 => rbind (dBl z S3) fun k S4 =>
  if k = true then rbind (c ρ S4) fun w S5 => g' y w S5 else .ok (.bl false) S4 := (rfl)
/-! statements -/
@[simp] theorem sSet_eq {i : Nat} {f : Den} : sSet i f ρ S = obind (f ρ S) ρ fun d S1 => .nx (ρ.set i (some d)) S1 := (rfl)
@[simp] theorem sRet_eq {f : Den} : sRet f ρ S = obind (f ρ S) ρ fun d S1 => .rt d S1 := (rfl)
@[simp] theorem sRetN_eq : sRetN ρ S = .rt .non S := (rfl)
@[simp] theorem sDrop_eq {f : Den} : sDrop f ρ S = obind (f ρ S) ρ fun d S1 => .nx ρ S1 := (rfl)
@[simp] theorem sIf_eq {t : DenT} {f g : DenS} : sIf t f g ρ S = obind (t ρ S) ρ fun b S1 => if b = true then f ρ S1 else g ρ S1 := (rfl)
@[simp] theorem sNext_eq : sNext ρ S = .nx ρ S := (rfl)
@[simp] theorem sBrk_eq : sBrk ρ S = .bk ρ S := (rfl)
@[simp] theorem sCnt_eq : sCnt ρ S = .ct ρ S := (rfl)
@[simp] theorem sPar_eq {i j : Nat} {a b : Den} : sPar i j a b ρ S = obind (a ρ S) ρ fun x S1 => obind (b ρ S1) ρ fun y S2 => .nx ((ρ.set i (some x)).set j (some y)) S2 := (rfl)
@[simp] theorem sPar3_eq {i j l : Nat} {a b c : Den} : sPar3 i j l a b c ρ S = obind (a ρ S) ρ fun x S1 => obind (b ρ S1) ρ fun y S2 => obind (c ρ S2) ρ fun z S3 => .nx (((ρ.set i (some x)).set j (some y)).set l (some z)) S3 := (rfl)
@[simp] theorem sAsg_eq {t : Tgt} {f : Den} : sAsg t f ρ S = obind (f ρ S) ρ fun d S1 => match tset t d ρ with
  | some ρ' => .nx ρ' S1
  | none => .bad := (rfl)
theorem sSeq_eq {f g : DenS} : sSeq f g ρ S = match f ρ S with
  | .nx ρ' S' => g ρ' S'
  | o => o := rfl
theorem seq_nx {f g : DenS} {ρ' : Env} (h : f ρ S = .nx ρ' S1) : sSeq f g ρ S = g ρ' S1 := by rw [sSeq_eq, h]
theorem seq_rt {f g : DenS} {d : D} (h : f ρ S = .rt d S1) : sSeq f g ρ S = .rt d S1 := by rw [sSeq_eq, h]
@[simp] theorem tset_nm {i : Nat} : tset (.nm i) d ρ = some (ρ.set i (some d)) := by unfold tset; rfl
@[simp] theorem tset_tp {ts : List Tgt} {ds : List D} : tset (.tp ts) (.tup ds) ρ = tsets ts ds ρ := by unfold tset; rfl
@[simp] theorem tsets_nil : tsets [] [] ρ = some ρ := by unfold tsets; rfl
@[simp] theorem tsets_cons {t : Tgt} {ts : List Tgt} {ds : List D} : tsets (t :: ts) (d :: ds) ρ = match tset t d ρ with
  | some ρ1 => tsets ts ds ρ1
  | none => none := by rw [tsets]; try (cases tset t d ρ <;> rfl)
/-! loops -/
@[simp] theorem grd_none : grdOk none S := trivial
theorem forD_nil {t : Tgt} {dead : List Nat} {body : DenS} : forD t dead body none [] ρ S = .nx ρ S := by unfold forD; exact if_pos (show grdOk none S from trivial)
theorem forD_cons {t : Tgt} {dead : List Nat} {body : DenS} {xs : List D} : forD t dead body none (x :: xs) ρ S = match tset t x ρ with
      | none => .bad
      | some ρ1 => match body ρ1 S with
        | .nx ρ2 S2 => forD t dead body none xs (wipeE dead ρ2) S2
        | .ct ρ2 S2 => forD t dead body none xs (wipeE dead ρ2) S2
        | .bk ρ2 S2 => .nx (wipeE dead ρ2) S2
        | o => o := by rw [forD]; exact if_pos (show grdOk none S from trivial)
theorem sFor_eq {it : DenI} {t : Tgt} {dead : List Nat} {body : DenS} : sFor it t dead body ρ S = obind (it ρ S) ρ fun i S1 => forD t dead body i.grd i.xs ρ S1 := rfl
theorem whileN_mono {c : DenT} {dead : List Nat} {body : DenS} : ∀ (n : Nat) (ρ : Env) (S : Store), whileN c dead body n ρ S ≠ .bad → whileN c dead body (n + 1) ρ S = whileN c dead body n ρ S
  | 0, ρ, S, h => absurd rfl h
  | n + 1, ρ, S, h => by
    rw [whileN] at h ⊢
    rw [whileN]
    cases hc : c ρ S with
    | bad => rfl
    | exc e S1 => rfl
    | ok b S1 =>
      rw [hc] at h
      simp only [obind_ok] at h ⊢
      cases b with
      | false => rfl
      | true =>
        simp only [if_true] at h ⊢
        cases hb : body ρ S1 with
        | nx ρ2 S2 => rw [hb] at h; exact whileN_mono n _ _ h
        | ct ρ2 S2 => rw [hb] at h; exact whileN_mono n _ _ h
        | _ => rfl
theorem whileN_le {c : DenT} {dead : List Nat} {body : DenS} {n : Nat} {ρ : Env} {S : Store} (h : whileN c dead body n ρ S ≠ .bad) (k : Nat) : whileN c dead body (n + k) ρ S = whileN c dead body n ρ S := by
  induction k with
  | zero => rfl
  | succ k ih =>
    rw [← Nat.add_assoc, whileN_mono _ _ _ (by rw [ih]; exact h), ih]
theorem sWhile_of {c : DenT} {dead : List Nat} {body : DenS} {n : Nat} {ρ : Env} {S : Store} {o : Out} (h : whileN c dead body n ρ S = o) (ho : o ≠ .bad) : sWhile c dead body ρ S = o := by
  have hx : ∃ n, whileN c dead body n ρ S ≠ .bad := ⟨n, by rw [h]; exact ho⟩
  unfold sWhile
  rw [dif_pos hx]
  have h2 := hx.choose_spec
  rcases Nat.le_total n hx.choose with hl | hl
  · obtain ⟨k, e⟩ := Nat.exists_eq_add_of_le hl
    rw [e, whileN_le (by rw [h]; exact ho) k, h]
  · obtain ⟨k, e⟩ := Nat.exists_eq_add_of_le hl
    have := whileN_le h2 k
    rw [← e, h] at this
    exact this.symm
theorem whileN_succ {c : DenT} {dead : List Nat} {body : DenS} {n : Nat} {ρ : Env} {S : Store} : whileN c dead body (n + 1) ρ S = obind (c ρ S) ρ fun b S1 => if b = true then match body ρ S1 with
      | .nx ρ2 S2 => whileN c dead body n (wipeE dead ρ2) S2
      | .ct ρ2 S2 => whileN c dead body n (wipeE dead ρ2) S2
      | .bk ρ2 S2 => .nx (wipeE dead ρ2) S2
      | o => o
    else .nx ρ S1 := by rw [whileN]; try rfl
@[simp] theorem wipeE_nil : wipeE [] ρ = ρ := (rfl)
@[simp] theorem wipeE_cons {i : Nat} {is : List Nat} : wipeE (i :: is) ρ = wipeE is (ρ.set i none) := (rfl)
end
/-! defs -/
mutual
theorem frzD_low {k : Nat} {g : Nat → Option D} : ∀ d : D, lowD k d = true → frzD k g d = some d
  | .non, _ => rfl
  | .bl b, _ => rfl
  | .int i, _ => rfl
  | .str x, _ => rfl
  | .rol xs, _ => rfl
  | .tup xs, h => by unfold frzD; rw [frzDs_low xs (by simpa [lowD] using h)]; rfl
  | .lst xs, h => by unfold frzD; rw [frzDs_low xs (by simpa [lowD] using h)]; rfl
  | .ref n, h => by unfold frzD; exact if_pos (by simpa [lowD] using h)
theorem frzDs_low {k : Nat} {g : Nat → Option D} : ∀ ds : List D, lowDs k ds = true → frzDs k g ds = some ds
  | [], _ => rfl
  | d :: ds, h => by
    have h' : lowD k d = true ∧ lowDs k ds = true := by simpa [lowDs] using h
    unfold frzDs
    rw [frzD_low d h'.1, frzDs_low ds h'.2]
end
theorem drop_eq {S S1 : Store} {d d' : D} (h : frz S1 S.length d = some d') (hk : keepOk S S1) : dropTo S S1 d = .ok d' (S1.take S.length) := by
  unfold dropTo
  rw [h]
  exact if_pos hk
theorem drop_same {S : Store} {d : D} (h : lowD S.length d = true) : dropTo S S d = .ok d S := by
  rw [drop_eq (frzD_low d h) (fun i o hi ho => .inl ho), List.take_length]
mutual
theorem low_pure (k : Nat) : ∀ d : D, pureD d = true → lowD k d = true
  | .non, _ => rfl
  | .bl _, _ => rfl
  | .int _, _ => rfl
  | .str _, _ => rfl
  | .rol _, _ => rfl
  | .tup xs, h => by unfold lowD; exact lows_pure k xs (by simpa [pureD] using h)
  | .lst xs, h => by unfold lowD; exact lows_pure k xs (by simpa [pureD] using h)
  | .ref n, h => by simp [pureD] at h
theorem lows_pure (k : Nat) : ∀ ds : List D, pureDs ds = true → lowDs k ds = true
  | [], _ => rfl
  | d :: ds, h => by
    have h' : pureD d = true ∧ pureDs ds = true := by simpa [pureDs] using h
    unfold lowDs
    rw [low_pure k d h'.1, lows_pure k ds h'.2]; rfl
end
theorem drop_pure {S : Store} {d : D} (h : pureD d = true) : dropTo S S d = .ok d S := drop_same (low_pure _ d h)
/-- a def whose body tells d and leaves the store -/
theorem def_rt {S : Store} {d : D} {np n : Nat} {fb : DenS} {ds : List D} (hl : ds.length = np) (h : fb (startE n ds) S = .rt d S) (hp : lowD S.length d = true) : defD np n fb ds S = .ok d S := by
  unfold defD
  rw [if_pos hl, h]
  exact drop_same hp
end Dn

set_option maxHeartbeats 1000000
namespace Dn
open PySem PySem.Spec PyProof.Rows L2
section
variable {S S1 S2 : Store} {i j : Int} {xs : List D} {d : D}
theorem eqv_int {i j : Int} : PyData.eqv (.int i) (.int j) = decide (i = j) := by
  unfold PyData.eqv
  exact Bool.eq_iff_iff.mpr (by simp)
theorem eqv_str {x y : Str} : PyData.eqv (.str x) (.str y) = decide (x = y) := by
  unfold PyData.eqv
  exact Bool.eq_iff_iff.mpr (by simp)
theorem gEq_of {neg : Bool} {x y : D} {p q : PyData} (h1 : pyTop S x = some p) (h2 : pyTop S y = some q) (h3 : p.depth ≤ 64) (h4 : q.depth ≤ 64) : gEq neg x y S = .ok (.bl (if neg then !PyData.eqv p q else PyData.eqv p q)) S := by
  unfold gEq
  rw [h1, h2]
  exact if_pos ⟨h3, h4⟩
theorem top_int : pyTop S (.int i) = some (.int i) := by unfold pyTop; simp only; unfold pyOf; rfl
theorem depth_int : (PyData.int i).depth ≤ 64 := by simp [PyData.depth]
@[simp] theorem gEq_int {neg : Bool} : gEq neg (.int i) (.int j) S = .ok (.bl (if neg then !decide (i = j) else decide (i = j))) S := by
  rw [gEq_of top_int top_int depth_int depth_int, eqv_int]
theorem top_str {x : Str} (h : PyData.strOk x = true) : pyTop S (.str x) = some (.str x) := by unfold pyTop; simp only; unfold pyOf; rw [if_pos h]
theorem gEq_str {neg : Bool} {x y : Str} (hx : PyData.strOk x = true) (hy : PyData.strOk y = true) : gEq neg (.str x) (.str y) S = .ok (.bl (if neg then !decide (x = y) else decide (x = y))) S := by
  rw [gEq_of (top_str hx) (top_str hy) (by simp [PyData.depth]) (by simp [PyData.depth]), eqv_str]
theorem gEq_bl {neg : Bool} {a b : Bool} : gEq neg (.bl a) (.bl b) S = .ok (.bl (if neg then !decide (a = b) else decide (a = b))) S := by
  rw [gEq_of (p := .bool a) (q := .bool b) (by unfold pyTop; simp only; unfold pyOf; rfl) (by unfold pyTop; simp only; unfold pyOf; rfl) (by simp [PyData.depth]) (by simp [PyData.depth])]
  have : PyData.eqv (.bool a) (.bool b) = decide (a = b) := by
    unfold PyData.eqv
    exact Bool.eq_iff_iff.mpr (by simp)
  rw [this]
@[simp] theorem gIsN_non {neg : Bool} : gIsN neg .non .non S = .ok (.bl (!neg)) S := (rfl)
theorem gIsN_of {neg : Bool} (h : d ≠ .non) : gIsN neg d .non S = .ok (.bl neg) S := by
  cases d <;> first | rfl | exact absurd rfl h
@[simp] theorem gIsN_int {neg : Bool} : gIsN neg (.int i) .non S = .ok (.bl neg) S := gIsN_of (by simp)
@[simp] theorem gIsN_str {neg : Bool} {x : Str} : gIsN neg (.str x) .non S = .ok (.bl neg) S := gIsN_of (by simp)
@[simp] theorem gIsN_tup {neg : Bool} : gIsN neg (.tup xs) .non S = .ok (.bl neg) S := gIsN_of (by simp)
@[simp] theorem gIsN_bl {neg : Bool} {a b : Bool} : gIsN neg (.bl a) (.bl b) S = .ok (.bl (if neg then !decide (a = b) else decide (a = b))) S := (rfl)
@[simp] theorem gIsN_ib {neg : Bool} {b : Bool} : gIsN neg (.int i) (.bl b) S = .ok (.bl neg) S := (rfl)
@[simp] theorem gIsN_nb {neg : Bool} {b : Bool} : gIsN neg .non (.bl b) S = .ok (.bl neg) S := (rfl)
@[simp] theorem gIsN_sb {neg : Bool} {b : Bool} {x : Str} : gIsN neg (.str x) (.bl b) S = .ok (.bl neg) S := (rfl)
@[simp] theorem gIsN_tb {neg : Bool} {b : Bool} : gIsN neg (.tup xs) (.bl b) S = .ok (.bl neg) S := (rfl)
@[simp] theorem gAdd_int : gAdd (.int i) (.int j) S = .ok (.int (i + j)) S := (rfl)
@[simp] theorem gAugAdd_int : gAugAdd (.int i) (.int j) S = .ok (.int (i + j)) S := (rfl)
@[simp] theorem gSubI_int : gSubI (.int i) (.int j) S = .ok (.int (i - j)) S := (rfl)
@[simp] theorem gLt_int : gLt (.int i) (.int j) S = .ok (.bl (decide (i < j))) S := (rfl)
@[simp] theorem gLe_int : gLe (.int i) (.int j) S = .ok (.bl (decide (i ≤ j))) S := (rfl)
@[simp] theorem gGt_int : gGt (.int i) (.int j) S = .ok (.bl (decide (j < i))) S := (rfl)
@[simp] theorem gGe_int : gGe (.int i) (.int j) S = .ok (.bl (decide (j ≤ i))) S := (rfl)
@[simp] theorem gNeg_int : gNeg (.int i) S = .ok (.int (-i)) S := (rfl)
@[simp] theorem gAbs_int : gAbs [.int i] S = .ok (.int (if i < 0 then -i else i)) S := (rfl)
@[simp] theorem gInt_int : gInt [.int i] S = .ok (.int i) S := (rfl)
@[simp] theorem gMax2_int : gMax2 [.int i, .int j] S = .ok (.int (if j > i then j else i)) S := (rfl)
@[simp] theorem gMin2_int : gMin2 [.int i, .int j] S = .ok (.int (if j < i then j else i)) S := (rfl)
theorem gMod_int (h : 0 < j) : gMod (.int i) (.int j) S = .ok (.int (i % j)) S := by
  show (if decide (0 < j) = true then _ else _) = _
  rw [if_pos (decide_eq_true h)]
theorem log2_small {n : Nat} (h : n < 2 ^ 8000) : n.log2 < 9000 := by
  by_cases h0 : n = 0
  · subst h0; simp
  · have := (Nat.log2_lt h0).mpr h
    omega
theorem gDiv_int (h : 0 < j) (h2 : j < 18446744073709551616) : gDiv (.int i) (.int j) S = .ok (.int (i / j)) S := by
  show (if decide (0 < j ∧ j.natAbs.log2 < 9000) = true then _ else _) = _
  have hb : j.natAbs < 2 ^ 64 := by omega
  rw [if_pos (decide_eq_true ⟨h, log2_small (Nat.lt_of_lt_of_le hb (Nat.pow_le_pow_right (by omega) (by omega)))⟩)]
theorem bits_le {k : Nat} (h : i.natAbs < 2 ^ k) : Builtin.Int.intBits i ≤ k := by
  unfold Builtin.Int.intBits
  split
  · omega
  · rename_i h0
    have h1 : i.natAbs ≠ 0 := by
      intro e
      exact h0 (by simp [Int.natAbs_eq_zero.mp e])
    have := (Nat.log2_lt h1).mpr h
    omega
theorem gMul_bits {a b : Nat} (h1 : i.natAbs < 2 ^ a) (h2 : j.natAbs < 2 ^ b) (h : a + b ≤ 134217728) : gMul (.int i) (.int j) S = .ok (.int (i * j)) S := by
  show (if decide ((Builtin.Int.intBits i : Int) + (Builtin.Int.intBits j : Int) ≤ 134217728) = true then _ else _) = _
  have b1 := bits_le h1
  have b2 := bits_le h2
  rw [if_pos (decide_eq_true (by omega))]
/-- products of numbers below 2^64 -/
theorem gMul_int (h1 : i.natAbs < 18446744073709551616) (h2 : j.natAbs < 18446744073709551616) : gMul (.int i) (.int j) S = .ok (.int (i * j)) S := gMul_bits (a := 64) (b := 64) h1 h2 (by omega)
theorem gPow_ten : gPow (.int 10) (.int 18) S = .ok (.int 1000000000000000000) S := by
  show (if decide (0 ≤ (18 : Int) ∧ (18 : Int) ≤ 1000000 ∧ (10 : Int).natAbs < 2 ^ 64) = true then Res.ok (D.int (10 ^ (18 : Int).toNat)) S else .bad) = _
  rw [if_pos (by decide)]
  rfl
/-! sequences -/
theorem atI_nat {τ : Type} {xs : List τ} {n : Nat} : L2.atI xs (n : Int) = xs[n]? := by
  unfold L2.atI L2.ixN
  rw [if_pos (by omega)]
  by_cases h : n < xs.length
  · rw [if_pos (by omega)]
    simp
  · rw [if_neg (by omega)]
    simp [List.getElem?_eq_none (by omega : xs.length ≤ n)]
theorem atI_last {τ : Type} {xs : List τ} : L2.atI xs (-1) = xs.getLast? := by
  unfold L2.atI L2.ixN
  rw [if_neg (by omega)]
  cases xs with
  | nil => rfl
  | cons x xs =>
    rw [if_pos (by simp; omega)]
    rw [List.getLast?_eq_getElem?]
    have e : ((-1 : Int) + ((x :: xs).length : Nat)).toNat = (x :: xs).length - 1 := by simp only [List.length_cons]; omega
    show (x :: xs)[((-1 : Int) + ((x :: xs).length : Nat)).toNat]? = _
    rw [e]
@[simp] theorem asQ_tup : asQ S (.tup xs) = some xs := (rfl)
@[simp] theorem asQ_lst : asQ S (.lst xs) = some xs := (rfl)
@[simp] theorem asL_lst : asL S (.lst xs) = some xs := (rfl)
theorem asQ_ref {n : Nat} (h : S[n]? = some (.lst xs)) : asQ S (.ref n) = some xs := by unfold asQ; simp only; rw [h]
theorem asL_ref {n : Nat} (h : S[n]? = some (.lst xs)) : asL S (.ref n) = some xs := by unfold asL; simp only; rw [h]
theorem cellL_ref {n : Nat} (h : S[n]? = some (.lst xs)) : cellL S (.ref n) = some (n, xs) := by unfold cellL; simp only; rw [h]
theorem gIdx_of {x : D} {k : Nat} (h1 : asQ S x = some xs) (h2 : xs[k]? = some d) : gIdx x (.int (k : Nat)) S = .ok d S := by
  unfold gIdx
  rw [h1]
  simp only
  rw [atI_nat, h2]
theorem gIdx_last {x : D} (h1 : asQ S x = some xs) (h2 : xs.getLast? = some d) : gIdx x (.int (-1)) S = .ok d S := by
  unfold gIdx
  rw [h1]
  simp only
  rw [atI_last, h2]
@[simp] theorem gIdx_tup0 {x : D} : gIdx (.tup (x :: xs)) (.int 0) S = .ok x S := gIdx_of (k := 0) rfl rfl
@[simp] theorem gIdx_tup1 {x y : D} : gIdx (.tup (x :: y :: xs)) (.int 1) S = .ok y S := gIdx_of (k := 1) rfl rfl
@[simp] theorem gIdx_tup2 {x y z : D} : gIdx (.tup (x :: y :: z :: xs)) (.int 2) S = .ok z S := gIdx_of (k := 2) rfl rfl
@[simp] theorem gLen_tup : gLen [.tup xs] S = .ok (.int xs.length) S := (rfl)
@[simp] theorem gLen_lst : gLen [.lst xs] S = .ok (.int xs.length) S := (rfl)
@[simp] theorem gLen_rol {ns : List Int} : gLen [.rol ns] S = .ok (.int ns.length) S := by
  show Res.ok (D.int (ns.map D.int).length) S = _
  rw [List.length_map]
theorem gLen_ref {n : Nat} (h : S[n]? = some (.lst xs)) : gLen [.ref n] S = .ok (.int xs.length) S := by unfold gLen; simp only; rw [h]
@[simp] theorem gTuple_tup : gTuple [.tup xs] S = .ok (.tup xs) S := (rfl)
@[simp] theorem gTuple_lst : gTuple [.lst xs] S = .ok (.tup xs) S := (rfl)
theorem gTuple_ref {n : Nat} (h : S[n]? = some (.lst xs)) : gTuple [.ref n] S = .ok (.tup xs) S := by
  show (match asL S (.ref n) with | some xs => Res.ok (D.tup xs) S | none => .bad) = _
  rw [asL_ref h]
@[simp] theorem gList_tup : gList [.tup xs] S = .ok (.lst xs) S := (rfl)
@[simp] theorem gList_lst : gList [.lst xs] S = .ok (.lst xs) S := (rfl)
theorem gAdd_lst {ys : List D} (h : xs.length + ys.length ≤ sizeLine) : gAdd (.lst xs) (.lst ys) S = .ok (.lst (xs ++ ys)) S := by
  show (if _ then _ else _) = _
  rw [if_pos h]
theorem gAdd_tup {ys : List D} (h : xs.length + ys.length ≤ sizeLine) : gAdd (.tup xs) (.tup ys) S = .ok (.tup (xs ++ ys)) S := by
  show (if _ then _ else _) = _
  rw [if_pos h]
def setL (x y z : D) (ρ : Env) (S : Store) : Out := match cellL S x, y with
  | some (n, xs), .int k => match ixN xs.length k with
    | some j => .nx ρ (S.set n (.lst (xs.set j z)))
    | none => .bad
  | _, _ => .bad
@[simp] theorem sSetI_eq {o i v : Den} {ρ : Env} : sSetI o i v ρ S = obind (v ρ S) ρ fun z S1 => obind (o ρ S1) ρ fun x S2 => obind (i ρ S2) ρ fun y S3 => setL x y z ρ S3 := (rfl)
theorem setL_of {n k : Nat} {z : D} {ρ : Env} (h : S[n]? = some (.lst xs)) (hk : k < xs.length) : setL (.ref n) (.int (k : Nat)) z ρ S = .nx ρ (S.set n (.lst (xs.set k z))) := by
  unfold setL
  rw [cellL_ref h]
  simp only
  have : ixN xs.length (k : Int) = some k := by
    unfold ixN
    rw [if_pos (by omega), if_pos (by omega)]
    simp
  rw [this]
/-! methods -/
@[simp] theorem dMtL_eq {g : D → List D → Store → Res D} {o : Den} {a : DenA} {ρ : Env} : dMtL g o a ρ S = rbind (o ρ S) fun x S1 => match asL S1 x with
  | some _ => rbind (a ρ S1) fun xs S2 => g x xs S2
  | none => .bad := (rfl)
theorem gAppend_of {n : Nat} (h : S[n]? = some (.lst xs)) (hz : xs.length < sizeLine) : gAppend (.ref n) [d] S = .ok .non (S.set n (.lst (xs ++ [d]))) := by
  unfold gAppend
  rw [cellL_ref h]
  exact if_pos hz
theorem gInsert_of {n k : Nat} (h : S[n]? = some (.lst xs)) (hz : xs.length < sizeLine) (hk : k < 9223372036854775808) : gInsert (.ref n) [.int (k : Nat), d] S = .ok .non (S.set n (.lst (xs.take k ++ [d] ++ xs.drop k))) := by
  unfold gInsert
  rw [cellL_ref h]
  simp only
  rw [if_pos ⟨hz, by omega, by omega⟩]
  simp
/-! iterables -/
@[simp] theorem iSeq_lst {f : Den} {ρ : Env} (h : f ρ S = .ok (.lst xs) S) : iSeq f ρ S = .ok ⟨xs, none⟩ S := by unfold iSeq; rw [h]; rfl
@[simp] theorem iSeq_tup {f : Den} {ρ : Env} (h : f ρ S = .ok (.tup xs) S) : iSeq f ρ S = .ok ⟨xs, none⟩ S := by unfold iSeq; rw [h]; rfl
theorem okR1_of {j : Int} (h0 : -1000 ≤ j) (h1 : j ≤ 16777216) : okR1 j = true := decide_eq_true ⟨by omega, h1⟩
theorem okR2_of {a b : Nat} (ha : a ≤ 16777216) (hb : b ≤ 16777216) : okR2 a b = true := decide_eq_true ⟨⟨by omega, by omega, by omega, by omega⟩, by omega⟩
theorem iRange1_of {f : Den} {ρ : Env} {k : Nat} (h : f ρ S = .ok (.int (k : Nat)) S1) (hk : k ≤ 16777216) : iRange1 f ρ S = .ok ⟨rangeL 0 k, none⟩ S1 := by
  unfold iRange1
  rw [h]
  show (if okR1 (k : Int) = true then Res.ok (Itm.mk (rangeL 0 (k : Int).toNat) none) S1 else .bad) = _
  rw [if_pos (okR1_of (by omega) (by omega)), Int.toNat_natCast]
theorem iRange1_neg {f : Den} {ρ : Env} {k : Int} (h : f ρ S = .ok (.int k) S1) (h0 : k ≤ 0) (h1 : -1000 ≤ k) : iRange1 f ρ S = .ok ⟨[], none⟩ S1 := by
  unfold iRange1
  rw [h]
  show (if okR1 k = true then Res.ok (Itm.mk (rangeL 0 k.toNat) none) S1 else .bad) = _
  rw [if_pos (okR1_of h1 (by omega)), show k.toNat = 0 by omega]
  rfl
theorem iRange2_int {f f2 : Den} {ρ : Env} {a b : Int} (h : f ρ S = .ok (.int a) S1) (h' : f2 ρ S1 = .ok (.int b) S2) (hk : okR2 a b = true) : iRange2 f f2 ρ S = .ok ⟨rangeL a (b - a).toNat, none⟩ S2 := by
  unfold iRange2
  rw [h, rbind_ok, h', rbind_ok]
  exact if_pos hk
theorem iRange2_of {f f2 : Den} {ρ : Env} {a b : Nat} (h : f ρ S = .ok (.int (a : Nat)) S1) (h' : f2 ρ S1 = .ok (.int (b : Nat)) S2) (ha : a ≤ 16777216) (hb : b ≤ 16777216) : iRange2 f f2 ρ S = .ok ⟨rangeL (a : Nat) (b - a), none⟩ S2 := by
  rw [iRange2_int h h' (okR2_of ha hb)]
  have e : ((b : Int) - (a : Int)).toNat = b - a := by omega
  rw [e]
end
end Dn

set_option maxHeartbeats 1000000
namespace Cm
open PySem PySem.Spec PyProof.Rows L2 Dn
/-! ### the box of digits -/
structure BoxAt (S : Store) (n : Nat) (g c : Int) : Prop where
  at_ : S[n]? = some (.lst [.int g, .int c])
  g0 : 0 ≤ g
  c0 : 0 ≤ c
  c1 : c ≤ 4294967296
structure Bx (n : Nat) (S S' : Store) : Prop where
  len : S'.length = S.length
  box : ∃ g c, BoxAt S' n g c
  oth : ∀ j, j ≠ n → S'[j]? = S[j]?
theorem Bx.trans {n : Nat} {S S' S2 : Store} (a : Bx n S S') (b : Bx n S' S2) : Bx n S S2 := ⟨b.len.trans a.len, b.box, fun j h => (b.oth j h).trans (a.oth j h)⟩
theorem Bx.refl {n : Nat} {S : Store} (h : ∃ g c, BoxAt S n g c) : Bx n S S := ⟨rfl, h, fun _ _ => rfl⟩
theorem Bx.lt {n : Nat} {S S' : Store} (a : Bx n S S') : n < S'.length := by
  obtain ⟨g, c, h⟩ := a.box
  exact (List.getElem?_eq_some_iff.mp h.at_).1
/-- a body that draws from the box: the def's own end -/
theorem def_box {np k n : Nat} {fb : DenS} {ds : List D} {S S' : Store} {d : D} (hl : ds.length = np) (h : fb (startE k ds) S = .rt d S') (b : Bx n S S') (hp : lowD S.length d = true) : defD np k fb ds S = .ok d S' := by
  unfold defD
  rw [if_pos hl, h]
  show dropTo S S' d = _
  rw [drop_eq (frzD_low d hp) (fun i o hi ho => ?_), ← b.len, List.take_length]
  by_cases e : i = n
  · subst e
    obtain ⟨g, c, hb⟩ := b.box
    rw [hb.at_] at ho
    cases ho
    right; rfl
  · left; rw [← b.oth i e]; exact ho
theorem ev_take {S : Store} {n : Nat} {m : Int} (hb : ∃ g c, BoxAt S n g c) (h1 : 0 < m) (h2 : m < 4294967296) : ∃ v S', F__law_take [.ref n, .int m] S = .ok (.int v) S' ∧ Bx n S S' ∧ 0 ≤ v ∧ v < m := by
  obtain ⟨g, c, hb⟩ := hb
  have hn : n < S.length := (List.getElem?_eq_some_iff.mp hb.at_).1
  have a0 : gIdx (.ref n) (.int 0) S = .ok (.int g) S := gIdx_of (k := 0) (asQ_ref hb.at_) rfl
  have a1 : gIdx (.ref n) (.int 1) S = .ok (.int c) S := gIdx_of (k := 1) (asQ_ref hb.at_) rfl
  have s0 : ∀ (z : D) (ρ : Dn.Env), setL (.ref n) (.int 0) z ρ S = .nx ρ (S.set n (.lst [z, .int c])) := fun z ρ => setL_of (k := 0) hb.at_ (by simp)
  have s1 : ∀ (z : D) (ρ : Dn.Env), setL (.ref n) (.int 1) z ρ S = .nx ρ (S.set n (.lst [.int g, z])) := fun z ρ => setL_of (k := 1) hb.at_ (by simp)
  have c0 := hb.c0
  have c1 := hb.c1
  by_cases hg : 0 < g
  · have hB : Bx n S (S.set n (.lst [.int (g / m), .int c])) := ⟨by simp, ⟨g / m, c, by rw [List.getElem?_set_self hn], Int.ediv_nonneg hb.g0 (by omega), hb.c0, hb.c1⟩, fun j h => by rw [List.getElem?_set_ne (Ne.symm h)]⟩
    refine ⟨g % m, _, def_box (n := n) rfl ?_ hB rfl, hB, Int.emod_nonneg _ (by omega), Int.emod_lt_of_pos _ h1⟩
    simp -implicitDefEqProofs only [Dn.rbind_ok, Dn.rbind_bad, Dn.rbind_exc, Dn.obind_ok, Dn.obind_bad, Dn.nox_ok, Dn.dVar_zero, Dn.dVar_succ, Dn.dC_eq, Dn.dUn_eq, Dn.dBin_eq, Dn.dBl_eq, Dn.xOf_eq, Dn.xAnd_eq, Dn.xOr_eq, Dn.xNot_eq, Dn.xYes_eq, Dn.dAnd_eq, Dn.dOr_eq, Dn.dNot_eq, Dn.dIf_eq, Dn.aNil_eq, Dn.aCons_eq, Dn.dApp_eq, Dn.dTup_eq, Dn.dLst_eq, Dn.nLst_eq, Dn.dCall_eq, Dn.dChain_eq, Dn.sSet_eq, Dn.sRet_eq, Dn.sRetN_eq, Dn.sDrop_eq, Dn.sIf_eq, Dn.sNext_eq, Dn.sBrk_eq, Dn.sCnt_eq, Dn.sPar_eq, Dn.sPar3_eq, Dn.sAsg_eq, Dn.tset_nm, Dn.tset_tp, Dn.tsets_nil, Dn.tsets_cons, Dn.grd_none, Dn.wipeE_nil, Dn.wipeE_cons, Dn.gEq_int, Dn.gIsN_non, Dn.gIsN_int, Dn.gIsN_str, Dn.gIsN_tup, Dn.gIsN_bl, Dn.gIsN_ib, Dn.gIsN_nb, Dn.gIsN_sb, Dn.gIsN_tb, Dn.gAdd_int, Dn.gAugAdd_int, Dn.gSubI_int, Dn.gLt_int, Dn.gLe_int, Dn.gGt_int, Dn.gGe_int, Dn.gNeg_int, Dn.gAbs_int, Dn.gInt_int, Dn.gMax2_int, Dn.gMin2_int, Dn.asQ_tup, Dn.asQ_lst, Dn.asL_lst, Dn.gIdx_tup0, Dn.gIdx_tup1, Dn.gIdx_tup2, Dn.gLen_tup, Dn.gLen_lst, Dn.gLen_rol, Dn.gTuple_tup, Dn.gTuple_lst, Dn.gList_tup, Dn.gList_lst, Dn.sSetI_eq, Dn.dMtL_eq, Dn.iSeq_lst, Dn.iSeq_tup, Dn.sSeq_eq, Dn.startE, List.set_cons_zero, List.set_cons_succ, List.map_cons, List.map_nil, List.length_cons, List.length_nil, List.cons_append, List.nil_append, List.append_nil, List.replicate_succ, List.replicate_zero, if_true, if_false, ite_true, ite_false, Bool.false_eq_true, decide_true, decide_false, Nat.reduceSub, Nat.reduceAdd, Nat.reduceLeDiff, Bool.not_true, Bool.not_false, reduceIte, reduceCtorEq, Nat.zero_add, Nat.add_zero, B__law_take, a0, s0, decide_eq_true hg, gMod_int h1, gDiv_int h1 (by omega)]
  · generalize hr : (c * 39373 + 593) % 2147483647 = raw
    have r0 : 0 ≤ raw := by omega
    have r1 : raw < 2147483647 := by omega
    generalize hd : (raw * 40692 + 71) % 2147483399 + 1 = d
    have d0 : 0 ≤ d := by omega
    have d1 : d ≤ 2147483399 := by omega
    have hB : Bx n S (S.set n (.lst [.int g, .int d])) := ⟨by simp, ⟨g, d, by rw [List.getElem?_set_self hn], hb.g0, d0, by omega⟩, fun j h => by rw [List.getElem?_set_ne (Ne.symm h)]⟩
    refine ⟨(raw * 2147483629 + d) / 8209 % m, _, def_box (n := n) rfl ?_ hB rfl, hB, Int.emod_nonneg _ (by omega), Int.emod_lt_of_pos _ h1⟩
    have a2 : gIdx (.ref n) (.int 1) (S.set n (.lst [.int g, .int d])) = .ok (.int d) (S.set n (.lst [.int g, .int d])) := gIdx_of (k := 1) (asQ_ref (by rw [List.getElem?_set_self hn])) rfl
    have m1 : ∀ S, gMul (.int c) (.int 39373) S = .ok (.int (c * 39373)) S := fun S => gMul_int (by omega) (by omega)
    have m2 : ∀ S, gMul (.int raw) (.int 40692) S = .ok (.int (raw * 40692)) S := fun S => gMul_int (by omega) (by omega)
    have m3 : ∀ S, gMul (.int raw) (.int 2147483629) S = .ok (.int (raw * 2147483629)) S := fun S => gMul_int (by omega) (by omega)
    have e1 : ∀ i S, gMod (.int i) (.int 2147483647) S = .ok (.int (i % 2147483647)) S := fun i S => gMod_int (by omega)
    have e2 : ∀ i S, gMod (.int i) (.int 2147483399) S = .ok (.int (i % 2147483399)) S := fun i S => gMod_int (by omega)
    have e3 : ∀ i S, gDiv (.int i) (.int 8209) S = .ok (.int (i / 8209)) S := fun i S => gDiv_int (by omega) (by omega)
    simp -implicitDefEqProofs only [Dn.rbind_ok, Dn.rbind_bad, Dn.rbind_exc, Dn.obind_ok, Dn.obind_bad, Dn.nox_ok, Dn.dVar_zero, Dn.dVar_succ, Dn.dC_eq, Dn.dUn_eq, Dn.dBin_eq, Dn.dBl_eq, Dn.xOf_eq, Dn.xAnd_eq, Dn.xOr_eq, Dn.xNot_eq, Dn.xYes_eq, Dn.dAnd_eq, Dn.dOr_eq, Dn.dNot_eq, Dn.dIf_eq, Dn.aNil_eq, Dn.aCons_eq, Dn.dApp_eq, Dn.dTup_eq, Dn.dLst_eq, Dn.nLst_eq, Dn.dCall_eq, Dn.dChain_eq, Dn.sSet_eq, Dn.sRet_eq, Dn.sRetN_eq, Dn.sDrop_eq, Dn.sIf_eq, Dn.sNext_eq, Dn.sBrk_eq, Dn.sCnt_eq, Dn.sPar_eq, Dn.sPar3_eq, Dn.sAsg_eq, Dn.tset_nm, Dn.tset_tp, Dn.tsets_nil, Dn.tsets_cons, Dn.grd_none, Dn.wipeE_nil, Dn.wipeE_cons, Dn.gEq_int, Dn.gIsN_non, Dn.gIsN_int, Dn.gIsN_str, Dn.gIsN_tup, Dn.gIsN_bl, Dn.gIsN_ib, Dn.gIsN_nb, Dn.gIsN_sb, Dn.gIsN_tb, Dn.gAdd_int, Dn.gAugAdd_int, Dn.gSubI_int, Dn.gLt_int, Dn.gLe_int, Dn.gGt_int, Dn.gGe_int, Dn.gNeg_int, Dn.gAbs_int, Dn.gInt_int, Dn.gMax2_int, Dn.gMin2_int, Dn.asQ_tup, Dn.asQ_lst, Dn.asL_lst, Dn.gIdx_tup0, Dn.gIdx_tup1, Dn.gIdx_tup2, Dn.gLen_tup, Dn.gLen_lst, Dn.gLen_rol, Dn.gTuple_tup, Dn.gTuple_lst, Dn.gList_tup, Dn.gList_lst, Dn.sSetI_eq, Dn.dMtL_eq, Dn.iSeq_lst, Dn.iSeq_tup, Dn.sSeq_eq, Dn.startE, List.set_cons_zero, List.set_cons_succ, List.map_cons, List.map_nil, List.length_cons, List.length_nil, List.cons_append, List.nil_append, List.append_nil, List.replicate_succ, List.replicate_zero, if_true, if_false, ite_true, ite_false, Bool.false_eq_true, decide_true, decide_false, Nat.reduceSub, Nat.reduceAdd, Nat.reduceLeDiff, Bool.not_true, Bool.not_false, reduceIte, reduceCtorEq, Nat.zero_add, Nat.add_zero, B__law_take, a0, a1, a2, s1, decide_eq_false hg, gMod_int h1, m1, m2, m3, e1, e2, e3, hr, hd]
theorem def_end {np k : Nat} {fb : DenS} {ds : List D} {S S2 S' : Store} {d d' : D} (hl : ds.length = np) (h : fb (startE k ds) S = .rt d S2) (hf : frz S2 S.length d = some d') (hk : keepOk S S2) (ht : S2.take S.length = S') : defD np k fb ds S = .ok d' S' := by
  unfold defD
  rw [if_pos hl, h]
  show dropTo S S2 d = _
  rw [drop_eq hf hk, ht]
theorem keep_box {n : Nat} {S S' L : Store} (b : Bx n S S') : keepOk S (S' ++ L) := fun i o hi ho => by
  rw [List.getElem?_append_left (by rw [b.len]; exact hi)] at ho
  by_cases e : i = n
  · subst e
    obtain ⟨g, c, hb⟩ := b.box
    rw [hb.at_] at ho
    cases ho
    right; rfl
  · left; rw [← b.oth i e]; exact ho
theorem take_box {n : Nat} {S S' L : Store} (b : Bx n S S') : (S' ++ L).take S.length = S' := by rw [← b.len]; simp
theorem frz_ref {S : Store} {k n : Nat} {xs : List D} (h : S[n]? = some (.lst xs)) (hn : ¬ n < k) (hp : lowDs k xs = true) : frz S k (.ref n) = some (.lst xs) := by
  unfold frz
  unfold frzD
  rw [if_neg hn]
  unfold frzN
  rw [h]
  show (frzDs k _ xs).map D.lst = _
  rw [frzDs_low xs hp]
  rfl
theorem pures_iff {xs : List D} : pureDs xs = true ↔ ∀ x ∈ xs, pureD x = true := by
  induction xs with
  | nil => simp [pureDs]
  | cons x xs ih => simp [pureDs, ih]
theorem ev_pick {S : Store} {n : Nat} {xs : List D} (hb : ∃ g c, BoxAt S n g c) (hp : pureDs xs = true) (h1 : 0 < xs.length) (h2 : xs.length < 4294967296) :
    ∃ x S', F__law_pick [.ref n, .lst xs] S = .ok x S' ∧ Bx n S S' ∧ x ∈ xs := by
  obtain ⟨v, S', e, b, v0, v1⟩ := ev_take hb (m := xs.length) (by omega) (by omega)
  obtain ⟨k, rfl⟩ : ∃ k : Nat, v = k := ⟨v.toNat, by omega⟩
  have hk : k < xs.length := by omega
  have hi : gIdx (.lst xs) (.int (k : Nat)) S' = .ok xs[k] S' := gIdx_of rfl (List.getElem?_eq_getElem hk)
  refine ⟨xs[k], S', def_box (n := n) rfl ?_ b (low_pure _ _ (pures_iff.mp hp _ (List.getElem_mem hk))), b, List.getElem_mem hk⟩
  simp -implicitDefEqProofs only [Dn.rbind_ok, Dn.rbind_bad, Dn.rbind_exc, Dn.obind_ok, Dn.obind_bad, Dn.nox_ok, Dn.dVar_zero, Dn.dVar_succ, Dn.dC_eq, Dn.dUn_eq, Dn.dBin_eq, Dn.dBl_eq, Dn.xOf_eq, Dn.xAnd_eq, Dn.xOr_eq, Dn.xNot_eq, Dn.xYes_eq, Dn.dAnd_eq, Dn.dOr_eq, Dn.dNot_eq, Dn.dIf_eq, Dn.aNil_eq, Dn.aCons_eq, Dn.dApp_eq, Dn.dTup_eq, Dn.dLst_eq, Dn.nLst_eq, Dn.dCall_eq, Dn.dChain_eq, Dn.sSet_eq, Dn.sRet_eq, Dn.sRetN_eq, Dn.sDrop_eq, Dn.sIf_eq, Dn.sNext_eq, Dn.sBrk_eq, Dn.sCnt_eq, Dn.sPar_eq, Dn.sPar3_eq, Dn.sAsg_eq, Dn.tset_nm, Dn.tset_tp, Dn.tsets_nil, Dn.tsets_cons, Dn.grd_none, Dn.wipeE_nil, Dn.wipeE_cons, Dn.gEq_int, Dn.gIsN_non, Dn.gIsN_int, Dn.gIsN_str, Dn.gIsN_tup, Dn.gIsN_bl, Dn.gIsN_ib, Dn.gIsN_nb, Dn.gIsN_sb, Dn.gIsN_tb, Dn.gAdd_int, Dn.gAugAdd_int, Dn.gSubI_int, Dn.gLt_int, Dn.gLe_int, Dn.gGt_int, Dn.gGe_int, Dn.gNeg_int, Dn.gAbs_int, Dn.gInt_int, Dn.gMax2_int, Dn.gMin2_int, Dn.asQ_tup, Dn.asQ_lst, Dn.asL_lst, Dn.gIdx_tup0, Dn.gIdx_tup1, Dn.gIdx_tup2, Dn.gLen_tup, Dn.gLen_lst, Dn.gLen_rol, Dn.gTuple_tup, Dn.gTuple_lst, Dn.gList_tup, Dn.gList_lst, Dn.sSetI_eq, Dn.dMtL_eq, Dn.iSeq_lst, Dn.iSeq_tup, Dn.sSeq_eq, Dn.startE, List.set_cons_zero, List.set_cons_succ, List.map_cons, List.map_nil, List.length_cons, List.length_nil, List.cons_append, List.nil_append, List.append_nil, List.replicate_succ, List.replicate_zero, if_true, if_false, ite_true, ite_false, Bool.false_eq_true, decide_true, decide_false, Nat.reduceSub, Nat.reduceAdd, Nat.reduceLeDiff, Bool.not_true, Bool.not_false, reduceIte, reduceCtorEq, Nat.zero_add, Nat.add_zero, B__law_pick, e, hi]
theorem set_last {S : List O} {o o' : O} : (S ++ [o]).set S.length o' = S ++ [o'] := by
  simp [List.set_append]
theorem get_last {S : List O} {o : O} : (S ++ [o])[S.length]? = some o := by simp
theorem box_app {n : Nat} {S L : Store} (h : ∃ g c, BoxAt S n g c) : ∃ g c, BoxAt (S ++ L) n g c := by
  obtain ⟨g, c, h⟩ := h
  exact ⟨g, c, by rw [List.getElem?_append_left (List.getElem?_eq_some_iff.mp h.at_).1]; exact h.at_, h.g0, h.c0, h.c1⟩
/-- what is drawn beside new cells -/
theorem Bx.cut {n : Nat} {S L S2 : Store} (hn : n < S.length) (b : Bx n (S ++ L) S2) : ∃ S', S2 = S' ++ L ∧ Bx n S S' := by
  refine ⟨S2.take S.length, ?_, ⟨by rw [List.length_take, b.len]; simp, ?_, fun j h => ?_⟩⟩
  · have h2 : S2.drop S.length = L := by
      refine List.ext_getElem? fun i => ?_
      rw [List.getElem?_drop, b.oth (S.length + i) (by omega)]
      rw [List.getElem?_append_right (by omega)]
      congr 1
      omega
    rw [← h2, List.take_append_drop]
  · obtain ⟨g, c, h⟩ := b.box
    exact ⟨g, c, by rw [List.getElem?_take, if_pos hn]; exact h.at_, h.g0, h.c0, h.c1⟩
  · rw [List.getElem?_take]
    split
    · rename_i hj
      rw [b.oth j h, List.getElem?_append_left hj]
    · rename_i hj
      rw [List.getElem?_eq_none (by omega)]
theorem ev_order_loop {n : Nat} {b : Option D} : ∀ (xs acc : List D) (S : Store), (∃ g c, BoxAt S n g c) → acc.length + xs.length < 1000000 →
    ∃ ys S', forD (.nm 3) [3] (sDrop (dMtL gInsert (dVar 2) (aCons (dCall F__law_take [] (aCons (dVar 0) (aCons (dBin gAdd (dApp gLen (aCons (dVar 2) (aNil))) (dC (.int 1))) (aNil)))) (aCons (dVar 3) (aNil))))) none xs [some (.ref n), b, some (.ref S.length), none] (S ++ [.lst acc])
      = .nx [some (.ref n), b, some (.ref S.length), none] (S' ++ [.lst ys]) ∧ Bx n S S' ∧ ys.Perm (acc ++ xs)
  | [], acc, S, hb, hl => ⟨acc, S, forD_nil, .refl hb, by simp⟩
  | x :: xs, acc, S, hb, hl => by
    obtain ⟨v, S2, e, b2, v0, v1⟩ := ev_take (box_app (L := [O.lst acc]) hb) (m := acc.length + 1) (by omega) (by simp at hl; omega)
    obtain ⟨k, rfl⟩ : ∃ k : Nat, v = k := ⟨v.toNat, by omega⟩
    have hn : n < S.length := by
      obtain ⟨g, c, h⟩ := hb
      exact (List.getElem?_eq_some_iff.mp h.at_).1
    obtain ⟨S3, rfl, b3⟩ := b2.cut hn
    have hlen : S3.length = S.length := b3.len
    have g1 : gLen [.ref S.length] (S ++ [.lst acc]) = .ok (.int acc.length) (S ++ [.lst acc]) := gLen_ref get_last
    have g2 : asL (S ++ [O.lst acc]) (.ref S.length) = some acc := asL_ref get_last
    have g3 : gInsert (.ref S.length) [.int (k : Nat), x] (S3 ++ [.lst acc]) = .ok .non (S3 ++ [.lst (acc.take k ++ [x] ++ acc.drop k)]) := by
      rw [← hlen, gInsert_of get_last (small_lt (by simp at hl; omega)) (by simp at hl; omega), set_last]
    obtain ⟨ys, S4, e4, b4, p4⟩ := ev_order_loop (b := b) xs (acc.take k ++ [x] ++ acc.drop k) S3 b3.box (by simp at hl ⊢; omega)
    refine ⟨ys, S4, ?_, b3.trans b4, p4.trans ?_⟩
    · rw [forD_cons]
      simp -implicitDefEqProofs only [Dn.rbind_ok, Dn.rbind_bad, Dn.rbind_exc, Dn.obind_ok, Dn.obind_bad, Dn.nox_ok, Dn.dVar_zero, Dn.dVar_succ, Dn.dC_eq, Dn.dUn_eq, Dn.dBin_eq, Dn.dBl_eq, Dn.xOf_eq, Dn.xAnd_eq, Dn.xOr_eq, Dn.xNot_eq, Dn.xYes_eq, Dn.dAnd_eq, Dn.dOr_eq, Dn.dNot_eq, Dn.dIf_eq, Dn.aNil_eq, Dn.aCons_eq, Dn.dApp_eq, Dn.dTup_eq, Dn.dLst_eq, Dn.nLst_eq, Dn.dCall_eq, Dn.dChain_eq, Dn.sSet_eq, Dn.sRet_eq, Dn.sRetN_eq, Dn.sDrop_eq, Dn.sIf_eq, Dn.sNext_eq, Dn.sBrk_eq, Dn.sCnt_eq, Dn.sPar_eq, Dn.sPar3_eq, Dn.sAsg_eq, Dn.tset_nm, Dn.tset_tp, Dn.tsets_nil, Dn.tsets_cons, Dn.grd_none, Dn.wipeE_nil, Dn.wipeE_cons, Dn.gEq_int, Dn.gIsN_non, Dn.gIsN_int, Dn.gIsN_str, Dn.gIsN_tup, Dn.gIsN_bl, Dn.gIsN_ib, Dn.gIsN_nb, Dn.gIsN_sb, Dn.gIsN_tb, Dn.gAdd_int, Dn.gAugAdd_int, Dn.gSubI_int, Dn.gLt_int, Dn.gLe_int, Dn.gGt_int, Dn.gGe_int, Dn.gNeg_int, Dn.gAbs_int, Dn.gInt_int, Dn.gMax2_int, Dn.gMin2_int, Dn.asQ_tup, Dn.asQ_lst, Dn.asL_lst, Dn.gIdx_tup0, Dn.gIdx_tup1, Dn.gIdx_tup2, Dn.gLen_tup, Dn.gLen_lst, Dn.gLen_rol, Dn.gTuple_tup, Dn.gTuple_lst, Dn.gList_tup, Dn.gList_lst, Dn.sSetI_eq, Dn.dMtL_eq, Dn.iSeq_lst, Dn.iSeq_tup, Dn.sSeq_eq, Dn.startE, List.set_cons_zero, List.set_cons_succ, List.map_cons, List.map_nil, List.length_cons, List.length_nil, List.cons_append, List.nil_append, List.append_nil, List.replicate_succ, List.replicate_zero, if_true, if_false, ite_true, ite_false, Bool.false_eq_true, decide_true, decide_false, Nat.reduceSub, Nat.reduceAdd, Nat.reduceLeDiff, Bool.not_true, Bool.not_false, reduceIte, reduceCtorEq, Nat.zero_add, Nat.add_zero, g1, g2, e, g3]
      rw [hlen] at e4
      exact e4
    · have p1 : (acc.take k ++ [x] ++ acc.drop k).Perm (acc ++ [x]) := by
        have h1 : (acc.take k ++ [x] ++ acc.drop k).Perm (acc.take k ++ acc.drop k ++ [x]) := by
          rw [List.append_assoc, List.append_assoc]
          exact List.Perm.append_left _ List.perm_append_comm
        rwa [List.take_append_drop] at h1
      have := p1.append_right xs
      simpa using this
theorem perm_pure {xs ys : List D} (p : ys.Perm xs) (h : pureDs xs = true) : pureDs ys = true := pures_iff.mpr fun y hy => pures_iff.mp h y (p.mem_iff.mp hy)
theorem ev_order {S : Store} {n : Nat} {xs : List D} (hb : ∃ g c, BoxAt S n g c) (hp : pureDs xs = true) (hl : xs.length < 1000000) : ∃ ys S', F__law_order [.ref n, .lst xs] S = .ok (.lst ys) S' ∧ Bx n S S' ∧ ys.Perm xs := by
  obtain ⟨ys, S', e, b, p⟩ := ev_order_loop (b := some (.lst xs)) xs [] S hb (by simpa using hl)
  have p : ys.Perm xs := by simpa using p
  refine ⟨ys, S', def_end rfl ?_ (frz_ref (n := S.length) (by rw [← b.len]; exact get_last) (by omega) (lows_pure _ _ (perm_pure p hp))) (keep_box b) (take_box b), b, p⟩
  have z : (0 : Nat) ≤ sizeLine := Nat.zero_le _
  have i1 : ∀ S, iSeq (dVar 1) [some (.ref n), some (.lst xs), some (.ref S.length), none] (S ++ [.lst []]) = .ok ⟨xs, none⟩ (S ++ [.lst []]) := fun S => iSeq_lst rfl
  simp -implicitDefEqProofs only [Dn.rbind_ok, Dn.rbind_bad, Dn.rbind_exc, Dn.obind_ok, Dn.obind_bad, Dn.nox_ok, Dn.dVar_zero, Dn.dVar_succ, Dn.dC_eq, Dn.dUn_eq, Dn.dBin_eq, Dn.dBl_eq, Dn.xOf_eq, Dn.xAnd_eq, Dn.xOr_eq, Dn.xNot_eq, Dn.xYes_eq, Dn.dAnd_eq, Dn.dOr_eq, Dn.dNot_eq, Dn.dIf_eq, Dn.aNil_eq, Dn.aCons_eq, Dn.dApp_eq, Dn.dTup_eq, Dn.dLst_eq, Dn.nLst_eq, Dn.dCall_eq, Dn.dChain_eq, Dn.sSet_eq, Dn.sRet_eq, Dn.sRetN_eq, Dn.sDrop_eq, Dn.sIf_eq, Dn.sNext_eq, Dn.sBrk_eq, Dn.sCnt_eq, Dn.sPar_eq, Dn.sPar3_eq, Dn.sAsg_eq, Dn.tset_nm, Dn.tset_tp, Dn.tsets_nil, Dn.tsets_cons, Dn.grd_none, Dn.wipeE_nil, Dn.wipeE_cons, Dn.gEq_int, Dn.gIsN_non, Dn.gIsN_int, Dn.gIsN_str, Dn.gIsN_tup, Dn.gIsN_bl, Dn.gIsN_ib, Dn.gIsN_nb, Dn.gIsN_sb, Dn.gIsN_tb, Dn.gAdd_int, Dn.gAugAdd_int, Dn.gSubI_int, Dn.gLt_int, Dn.gLe_int, Dn.gGt_int, Dn.gGe_int, Dn.gNeg_int, Dn.gAbs_int, Dn.gInt_int, Dn.gMax2_int, Dn.gMin2_int, Dn.asQ_tup, Dn.asQ_lst, Dn.asL_lst, Dn.gIdx_tup0, Dn.gIdx_tup1, Dn.gIdx_tup2, Dn.gLen_tup, Dn.gLen_lst, Dn.gLen_rol, Dn.gTuple_tup, Dn.gTuple_lst, Dn.gList_tup, Dn.gList_lst, Dn.sSetI_eq, Dn.dMtL_eq, Dn.iSeq_lst, Dn.iSeq_tup, Dn.sSeq_eq, Dn.startE, List.set_cons_zero, List.set_cons_succ, List.map_cons, List.map_nil, List.length_cons, List.length_nil, List.cons_append, List.nil_append, List.append_nil, List.replicate_succ, List.replicate_zero, if_true, if_false, ite_true, ite_false, Bool.false_eq_true, decide_true, decide_false, Nat.reduceSub, Nat.reduceAdd, Nat.reduceLeDiff, Bool.not_true, Bool.not_false, reduceIte, reduceCtorEq, Nat.zero_add, Nat.add_zero, B__law_order, z, sFor_eq, i1, e]
end Cm

set_option maxHeartbeats 1000000
namespace Dn
open PySem PySem.Spec PyProof.Rows L2 Cm
inductive F2 {α β : Type} (P : α → β → Prop) : List α → List β → Prop where
  | nil : F2 P [] []
  | cons {x : α} {y : β} {xs : List α} {ys : List β} (h : P x y) (t : F2 P xs ys) : F2 P (x :: xs) (y :: ys)
theorem F2.length {α β : Type} {P : α → β → Prop} {xs : List α} {ys : List β} (h : F2 P xs ys) : ys.length = xs.length := by
  induction h with
  | nil => rfl
  | cons a t ih => simp [ih]
/-! ### loops by an invariant -/
/-- a loop that is not left: I of what is done -/
theorem forD_run {t : Tgt} {dead : List Nat} {body : DenS} {grd : Option (Nat × O)} (I : List D → Dn.Env → Store → Prop) : ∀ (todo done : List D) (ρ : Dn.Env) (S : Store), I done ρ S →
    (∀ d r ρ S, I d ρ S → d ++ r = done ++ todo → grdOk grd S) →
    (∀ d x r ρ S, I d ρ S → d ++ x :: r = done ++ todo → ∃ ρ1 ρ2 S2, tset t x ρ = some ρ1 ∧ (body ρ1 S = .nx ρ2 S2 ∨ body ρ1 S = .ct ρ2 S2) ∧ I (d ++ [x]) (wipeE dead ρ2) S2) →
    ∃ ρ' S', forD t dead body grd todo ρ S = .nx ρ' S' ∧ I (done ++ todo) ρ' S'
  | [], done, ρ, S, h0, hg, hs => by
    refine ⟨ρ, S, ?_, by simpa using h0⟩
    rw [forD]
    exact if_pos (hg done [] ρ S h0 rfl)
  | x :: xs, done, ρ, S, h0, hg, hs => by
    obtain ⟨ρ1, ρ2, S2, h1, h2, h3⟩ := hs done x xs ρ S h0 rfl
    obtain ⟨ρ', S', e, h4⟩ := forD_run I xs (done ++ [x]) (wipeE dead ρ2) S2 h3 (fun d r ρ S hi he => hg d r ρ S hi (by simpa using he)) (fun d y r ρ S hi he => hs d y r ρ S hi (by simpa using he))
    refine ⟨ρ', S', ?_, by simpa using h4⟩
    rw [forD, if_pos (hg done (x :: xs) ρ S h0 rfl), h1]
    simp only
    rcases h2 with h2 | h2
    · rw [h2]; exact e
    · rw [h2]; exact e
/-- a loop that may be left by break (J), or told by return (never here) -/
theorem forD_brk {t : Tgt} {dead : List Nat} {body : DenS} (I : List D → Dn.Env → Store → Prop) (J : Dn.Env → Store → Prop) : ∀ (todo done : List D) (ρ : Dn.Env) (S : Store), I done ρ S →
    (∀ d x r ρ S, I d ρ S → d ++ x :: r = done ++ todo → ∃ ρ1 ρ2 S2, tset t x ρ = some ρ1 ∧ ((body ρ1 S = .nx ρ2 S2 ∧ I (d ++ [x]) (wipeE dead ρ2) S2) ∨ (body ρ1 S = .bk ρ2 S2 ∧ J (wipeE dead ρ2) S2))) →
    (∀ ρ S, I (done ++ todo) ρ S → J ρ S) → ∃ ρ' S', forD t dead body none todo ρ S = .nx ρ' S' ∧ J ρ' S'
  | [], done, ρ, S, h0, hs, hj => ⟨ρ, S, forD_nil, hj ρ S (by simpa using h0)⟩
  | x :: xs, done, ρ, S, h0, hs, hj => by
    obtain ⟨ρ1, ρ2, S2, h1, h2⟩ := hs done x xs ρ S h0 rfl
    rcases h2 with ⟨h2, h3⟩ | ⟨h2, h3⟩
    · obtain ⟨ρ', S', e, h4⟩ := forD_brk I J xs (done ++ [x]) (wipeE dead ρ2) S2 h3 (fun d y r ρ S hi he => hs d y r ρ S hi (by simpa using he)) (fun ρ S h => hj ρ S (by simpa using h))
      refine ⟨ρ', S', ?_, h4⟩
      rw [forD_cons, h1]
      simp only
      rw [h2]; exact e
    · refine ⟨_, _, ?_, h3⟩
      rw [forD_cons, h1]
      simp only
      rw [h2]
/-! ### list comprehensions -/
theorem lcGo_pure {t : Tgt} {ft : DenT} {fe : Den} {ρ : Dn.Env} {S : List O} {p : D → Bool} {g : D → D} : ∀ (xs acc : List D),
    (∀ x ∈ xs, ∀ acc : List D, ∃ ρ1, tset t x ρ = some ρ1 ∧ ft ρ1 (S ++ [.lst acc]) = .ok (p x) (S ++ [.lst acc]) ∧ (p x = true → fe ρ1 (S ++ [.lst acc]) = .ok (g x) (S ++ [.lst acc]))) →
    lcGo t ft fe none S.length ρ xs acc (S ++ [.lst acc]) = .ok () (S ++ [.lst (acc ++ (xs.filter p).map g)])
  | [], acc, h => by
    rw [lcGo]
    exact (if_pos trivial).trans (by simp)
  | x :: xs, acc, h => by
    obtain ⟨ρ1, h1, h2, h3⟩ := h x List.mem_cons_self acc
    have ih := fun acc => lcGo_pure xs acc fun y hy => h y (List.mem_cons_of_mem _ hy)
    rw [lcGo]
    refine (if_pos trivial).trans ?_
    rw [h1]
    simp only
    rw [h2]
    simp only [nox_ok, rbind_ok]
    cases hp : p x with
    | false =>
      simp only [Bool.false_eq_true, if_false]
      rw [if_pos get_last, ih, List.filter_cons_of_neg (by simp [hp])]
    | true =>
      simp only [if_true]
      rw [h3 hp]
      simp only [nox_ok, rbind_ok]
      rw [if_pos get_last, set_last, ih, List.filter_cons_of_pos hp]
      simp
theorem dLc_pure {it : DenI} {vs : List Nat} {t : Tgt} {ft : DenT} {fe : Den} {ρ : Dn.Env} {S : List O} {xs : List D} {p : D → Bool} {g : D → D} (hi : it ρ S = .ok ⟨xs, none⟩ S)
    (h : ∀ x ∈ xs, ∀ acc : List D, ∃ ρ1, tset t x (wipeC ρ vs) = some ρ1 ∧ ft ρ1 (S ++ [.lst acc]) = .ok (p x) (S ++ [.lst acc]) ∧ (p x = true → fe ρ1 (S ++ [.lst acc]) = .ok (g x) (S ++ [.lst acc])))
    (hp : lowDs S.length ((xs.filter p).map g) = true) : dLc it vs t ft fe ρ S = .ok (.lst ((xs.filter p).map g)) S := by
  unfold dLc
  rw [hi]
  simp only [rbind_ok]
  rw [lcGo_pure xs [] h]
  simp only [rbind_ok, List.nil_append]
  rw [drop_eq (frz_ref get_last (by omega) hp) (fun i o hi ho => ?_)]
  · simp
  · left
    rw [List.getElem?_append_left hi] at ho
    exact ho
theorem nLc_pure {it : DenI} {vs : List Nat} {t : Tgt} {ft : DenT} {fe : Den} {ρ : Dn.Env} {S : List O} {xs : List D} {p : D → Bool} {g : D → D} (hi : it ρ S = .ok ⟨xs, none⟩ S)
    (h : ∀ x ∈ xs, ∀ acc : List D, ∃ ρ1, tset t x (wipeC ρ vs) = some ρ1 ∧ ft ρ1 (S ++ [.lst acc]) = .ok (p x) (S ++ [.lst acc]) ∧ (p x = true → fe ρ1 (S ++ [.lst acc]) = .ok (g x) (S ++ [.lst acc]))) :
    nLc it vs t ft fe ρ S = .ok (.ref S.length) (S ++ [.lst ((xs.filter p).map g)]) := by
  unfold nLc
  rw [hi]
  simp only [rbind_ok]
  rw [lcGo_pure xs [] h]
  simp only [rbind_ok, List.nil_append]
/-- elements that draw from the box at n -/
theorem lcGo_box {n : Nat} {t : Tgt} {fe : Den} {ρ : Dn.Env} {P : D → D → Prop} : ∀ (xs acc : List D) (S : List O), (∃ g c, BoxAt S n g c) →
    (∀ x ∈ xs, ∀ (S1 : List O) (acc : List D), S1.length = S.length → (∃ g c, BoxAt S1 n g c) → ∃ ρ1 y S2, tset t x ρ = some ρ1 ∧ fe ρ1 (S1 ++ [.lst acc]) = .ok y (S2 ++ [.lst acc]) ∧ Bx n S1 S2 ∧ P x y) →
    ∃ ys S2, lcGo t xYes fe none S.length ρ xs acc (S ++ [.lst acc]) = .ok () (S2 ++ [.lst (acc ++ ys)]) ∧ Bx n S S2 ∧ F2 P xs ys
  | [], acc, S, hb, h => ⟨[], S, by rw [lcGo]; exact (if_pos trivial).trans (by simp), .refl hb, .nil⟩
  | x :: xs, acc, S, hb, h => by
    obtain ⟨ρ1, y, S2, h1, h2, h3, h4⟩ := h x List.mem_cons_self S acc rfl hb
    obtain ⟨ys, S3, e, b, f⟩ := lcGo_box xs (acc ++ [y]) S2 h3.box (fun z hz S1 acc hl hb => h z (List.mem_cons_of_mem _ hz) S1 acc (hl.trans h3.len) hb)
    refine ⟨y :: ys, S3, ?_, h3.trans b, .cons h4 f⟩
    rw [lcGo]
    refine (if_pos trivial).trans ?_
    rw [h1]
    simp only [xYes_eq, nox_ok, rbind_ok, if_true]
    rw [h2]
    simp only [nox_ok, rbind_ok]
    rw [← h3.len, if_pos get_last, set_last, e]
    simp
theorem f2_pure {α : Type} {P : α → D → Prop} (hp : ∀ x y, P x y → pureD y = true) {xs : List α} {ys : List D} (f : F2 P xs ys) : pureDs ys = true := by
  induction f with
  | nil => rfl
  | cons a f ih => simp [pureDs, hp _ _ a, ih]
theorem dLc_box {n : Nat} {it : DenI} {vs : List Nat} {t : Tgt} {fe : Den} {ρ : Dn.Env} {S S0 : List O} {xs : List D} {P : D → D → Prop} (hi : it ρ S0 = .ok ⟨xs, none⟩ S) (hb : ∃ g c, BoxAt S n g c)
    (h : ∀ x ∈ xs, ∀ (S1 : List O) (acc : List D), S1.length = S.length → (∃ g c, BoxAt S1 n g c) → ∃ ρ1 y S2, tset t x (wipeC ρ vs) = some ρ1 ∧ fe ρ1 (S1 ++ [.lst acc]) = .ok y (S2 ++ [.lst acc]) ∧ Bx n S1 S2 ∧ P x y)
    (hp : ∀ x y, P x y → pureD y = true) : ∃ ys S2, dLc it vs t xYes fe ρ S0 = .ok (.lst ys) S2 ∧ Bx n S S2 ∧ F2 P xs ys := by
  obtain ⟨ys, S2, e, b, f⟩ := lcGo_box (ρ := wipeC ρ vs) xs [] S hb h
  refine ⟨ys, S2, ?_, b, f⟩
  have hpy : pureDs ys = true := f2_pure hp f
  unfold dLc
  rw [hi]
  simp only [rbind_ok]
  rw [e]
  simp only [rbind_ok, List.nil_append]
  rw [drop_eq (frz_ref (by rw [← b.len]; exact get_last) (by omega) (lows_pure _ _ hpy)) (keep_box b), take_box b]
end Dn

set_option maxHeartbeats 1000000
namespace Cm
open PySem PySem.Spec PyProof.Rows L2 Dn
/-! ### ints in sequences -/
theorem pyAll_ints : ∀ ks : List Int, pyAll (ks.map D.int) = some (ks.map PyData.int)
  | [] => by simp [pyAll]
  | k :: ks => by
    rw [List.map_cons]
    unfold pyAll
    rw [pyAll_ints ks]
    rfl
theorem any_ints {i : Int} : ∀ ks : List Int, ((ks.map PyData.int).any fun z => PyData.eqv z (.int i)) = decide (i ∈ ks)
  | [] => by simp
  | k :: ks => by
    rw [List.map_cons, List.any_cons, any_ints ks, eqv_int]
    by_cases h : k = i
    · simp [h]
    · simp [h, show ¬ i = k from fun e => h e.symm]
theorem gIn_ints {neg : Bool} {i : Int} {d : D} {ks : List Int} {S : Store} (h : asQ S d = some (ks.map D.int)) : gIn neg (.int i) d S = .ok (.bl (if neg then !decide (i ∈ ks) else decide (i ∈ ks))) S := by
  unfold gIn
  rw [top_int, h]
  simp only
  rw [pyAll_ints]
  simp only
  rw [if_pos depth_int, any_ints]
theorem pure_ints (ks : List Int) : pureDs (ks.map D.int) = true := pures_iff.mpr fun x hx => by
  obtain ⟨k, _, rfl⟩ := List.mem_map.mp hx
  rfl
theorem pure_mkT (k : List Int) : pureD (mkT k) = true := by
  show pureDs (k.map D.int) = true
  exact pure_ints k
theorem pure_mkTs (W : List (List Int)) : pureDs (W.map mkT) = true := pures_iff.mpr fun x hx => by
  obtain ⟨k, _, rfl⟩ := List.mem_map.mp hx
  exact pure_mkT k
theorem filter_ints {p : D → Bool} {q : Int → Bool} (h : ∀ i, p (.int i) = q i) (b : List Int) : (b.map D.int).filter p = (b.filter q).map D.int := by
  rw [List.filter_map]
  congr 1
  refine List.filter_congr fun i _ => ?_
  exact h i
theorem flt_true {α : Type} {l : List α} : l.filter (fun _ => true) = l := List.filter_eq_self.mpr (by simp)
theorem gSortA_ints {is : List Int} {S : Store} : gSortA [.lst (is.map D.int)] S = .ok (.lst ((sortI is).map D.int)) S := by
  show (match unInts (is.map D.int) with
      | some is => Res.ok (D.lst ((sortI is).map D.int)) S
      | none => match unTups (is.map D.int) with
        | some ks => if ks.all (fun k => !k.isEmpty) then .ok (.lst ((sortT ks).map mkT)) S else .bad
        | none => .bad) = _
  rw [unInts_map]
theorem gSortA_tups {W : List (List Int)} {S : Store} (h : ∀ w ∈ W, w ≠ []) : gSortA [.lst (W.map mkT)] S = .ok (.lst ((sortT W).map mkT)) S := by
  cases W with
  | nil =>
    have e1 : sortT [] = [] := by simp [sortT]
    have e2 : sortI [] = [] := by simp [sortI]
    have := gSortA_ints (is := []) (S := S)
    rw [e2] at this
    rw [e1]
    exact this
  | cons w W =>
    show (match unInts ((w :: W).map mkT) with
      | some is => Res.ok (D.lst ((sortI is).map D.int)) S
      | none => match unTups ((w :: W).map mkT) with
        | some ks => if ks.all (fun k => !k.isEmpty) then .ok (.lst ((sortT ks).map mkT)) S else .bad
        | none => .bad) = _
    have e1 : unInts ((w :: W).map mkT) = none := rfl
    rw [e1]
    simp only
    rw [unTups_map]
    refine if_pos (List.all_eq_true.mpr fun x hx => ?_)
    have := h x hx
    cases x with
    | nil => exact absurd rfl this
    | cons _ _ => rfl
/-! ### ways joined -/
def jn (a b : List Int) : List Int := sortI (a ++ b.filter fun i => decide (i ∉ a))
def intOr (f : Int → Bool) : D → Bool
  | .int i => f i
  | _ => false
theorem ev_joined {a b : List Int} {S : List O} (ha : a.length + b.length ≤ 1000000) : F__law_joined [mkT a, mkT b] S = .ok (mkT (jn a b)) S := by
  refine def_rt rfl ?_ (low_pure _ _ (pure_mkT _))
  have i1 : iSeq (dVar 1) [some (mkT a), some (mkT b), none] S = .ok ⟨b.map D.int, none⟩ S := iSeq_tup rfl
  have e1 : dLc (iSeq (dVar 1)) [2] (.nm 2) (xOf (dBin (gIn true) (dVar 2) (dVar 0))) (dVar 2) [some (mkT a), some (mkT b), none] S = .ok (.lst (((b.map D.int).filter (intOr fun i => decide (i ∉ a))).map id)) S := by
    refine dLc_pure i1 (fun x hx acc => ?_) ?_
    · obtain ⟨i, _, rfl⟩ := List.mem_map.mp hx
      refine ⟨_, tset_nm, ?_, fun _ => rfl⟩
      have g1 : ∀ S, gIn true (.int i) (mkT a) S = .ok (.bl (!decide (i ∈ a))) S := fun S => gIn_ints rfl
      simp -implicitDefEqProofs only [Dn.rbind_ok, Dn.rbind_bad, Dn.rbind_exc, Dn.obind_ok, Dn.obind_bad, Dn.nox_ok, Dn.dVar_zero, Dn.dVar_succ, Dn.dC_eq, Dn.dUn_eq, Dn.dBin_eq, Dn.dBl_eq, Dn.xOf_eq, Dn.xAnd_eq, Dn.xOr_eq, Dn.xNot_eq, Dn.xYes_eq, Dn.dAnd_eq, Dn.dOr_eq, Dn.dNot_eq, Dn.dIf_eq, Dn.aNil_eq, Dn.aCons_eq, Dn.dApp_eq, Dn.dTup_eq, Dn.dLst_eq, Dn.nLst_eq, Dn.dCall_eq, Dn.dChain_eq, Dn.sSet_eq, Dn.sRet_eq, Dn.sRetN_eq, Dn.sDrop_eq, Dn.sIf_eq, Dn.sNext_eq, Dn.sBrk_eq, Dn.sCnt_eq, Dn.sPar_eq, Dn.sPar3_eq, Dn.sAsg_eq, Dn.tset_nm, Dn.tset_tp, Dn.tsets_nil, Dn.tsets_cons, Dn.grd_none, Dn.wipeE_nil, Dn.wipeE_cons, Dn.gEq_int, Dn.gIsN_non, Dn.gIsN_int, Dn.gIsN_str, Dn.gIsN_tup, Dn.gIsN_bl, Dn.gIsN_ib, Dn.gIsN_nb, Dn.gIsN_sb, Dn.gIsN_tb, Dn.gAdd_int, Dn.gAugAdd_int, Dn.gSubI_int, Dn.gLt_int, Dn.gLe_int, Dn.gGt_int, Dn.gGe_int, Dn.gNeg_int, Dn.gAbs_int, Dn.gInt_int, Dn.gMax2_int, Dn.gMin2_int, Dn.asQ_tup, Dn.asQ_lst, Dn.asL_lst, Dn.gIdx_tup0, Dn.gIdx_tup1, Dn.gIdx_tup2, Dn.gLen_tup, Dn.gLen_lst, Dn.gLen_rol, Dn.gTuple_tup, Dn.gTuple_lst, Dn.gList_tup, Dn.gList_lst, Dn.sSetI_eq, Dn.dMtL_eq, Dn.iSeq_lst, Dn.iSeq_tup, Dn.sSeq_eq, Dn.startE, List.set_cons_zero, List.set_cons_succ, List.map_cons, List.map_nil, List.length_cons, List.length_nil, List.cons_append, List.nil_append, List.append_nil, List.replicate_succ, List.replicate_zero, if_true, if_false, ite_true, ite_false, Bool.false_eq_true, decide_true, decide_false, Nat.reduceSub, Nat.reduceAdd, Nat.reduceLeDiff, Bool.not_true, Bool.not_false, reduceIte, reduceCtorEq, Nat.zero_add, Nat.add_zero, wipeC, g1, intOr, decide_not]
    · rw [List.map_id, filter_ints (q := fun i => decide (i ∉ a)) fun i => rfl]
      exact lows_pure _ _ (pure_ints _)
  rw [List.map_id, filter_ints (q := fun i => decide (i ∉ a)) fun i => rfl] at e1
  have hl : (a.map D.int).length + ((b.filter fun i => decide (i ∉ a)).map D.int).length ≤ sizeLine := by
    have := List.length_filter_le (fun i => decide (i ∉ a)) b
    rw [List.length_map, List.length_map]
    exact small_line (by omega)
  have e2 : gList [mkT a] S = .ok (.lst (a.map D.int)) S := rfl
  have e3 : gSortA [.lst (a.map D.int ++ (b.filter fun i => decide (i ∉ a)).map D.int)] S = .ok (.lst ((jn a b).map D.int)) S := by
    rw [← List.map_append]
    exact gSortA_ints
  have e4 : gTuple [.lst ((jn a b).map D.int)] S = .ok (mkT (jn a b)) S := rfl
  simp -implicitDefEqProofs only [Dn.rbind_ok, Dn.rbind_bad, Dn.rbind_exc, Dn.obind_ok, Dn.obind_bad, Dn.nox_ok, Dn.dVar_zero, Dn.dVar_succ, Dn.dC_eq, Dn.dUn_eq, Dn.dBin_eq, Dn.dBl_eq, Dn.xOf_eq, Dn.xAnd_eq, Dn.xOr_eq, Dn.xNot_eq, Dn.xYes_eq, Dn.dAnd_eq, Dn.dOr_eq, Dn.dNot_eq, Dn.dIf_eq, Dn.aNil_eq, Dn.aCons_eq, Dn.dApp_eq, Dn.dTup_eq, Dn.dLst_eq, Dn.nLst_eq, Dn.dCall_eq, Dn.dChain_eq, Dn.sSet_eq, Dn.sRet_eq, Dn.sRetN_eq, Dn.sDrop_eq, Dn.sIf_eq, Dn.sNext_eq, Dn.sBrk_eq, Dn.sCnt_eq, Dn.sPar_eq, Dn.sPar3_eq, Dn.sAsg_eq, Dn.tset_nm, Dn.tset_tp, Dn.tsets_nil, Dn.tsets_cons, Dn.grd_none, Dn.wipeE_nil, Dn.wipeE_cons, Dn.gEq_int, Dn.gIsN_non, Dn.gIsN_int, Dn.gIsN_str, Dn.gIsN_tup, Dn.gIsN_bl, Dn.gIsN_ib, Dn.gIsN_nb, Dn.gIsN_sb, Dn.gIsN_tb, Dn.gAdd_int, Dn.gAugAdd_int, Dn.gSubI_int, Dn.gLt_int, Dn.gLe_int, Dn.gGt_int, Dn.gGe_int, Dn.gNeg_int, Dn.gAbs_int, Dn.gInt_int, Dn.gMax2_int, Dn.gMin2_int, Dn.asQ_tup, Dn.asQ_lst, Dn.asL_lst, Dn.gIdx_tup0, Dn.gIdx_tup1, Dn.gIdx_tup2, Dn.gLen_tup, Dn.gLen_lst, Dn.gLen_rol, Dn.gTuple_tup, Dn.gTuple_lst, Dn.gList_tup, Dn.gList_lst, Dn.sSetI_eq, Dn.dMtL_eq, Dn.iSeq_lst, Dn.iSeq_tup, Dn.sSeq_eq, Dn.startE, List.set_cons_zero, List.set_cons_succ, List.map_cons, List.map_nil, List.length_cons, List.length_nil, List.cons_append, List.nil_append, List.append_nil, List.replicate_succ, List.replicate_zero, if_true, if_false, ite_true, ite_false, Bool.false_eq_true, decide_true, decide_false, Nat.reduceSub, Nat.reduceAdd, Nat.reduceLeDiff, Bool.not_true, Bool.not_false, reduceIte, reduceCtorEq, Nat.zero_add, Nat.add_zero, B__law_joined, e1, e2, gAdd_lst hl, e3, e4]
/-! ### the things as parts, the family, how many -/
/-- a part: a term told as a value, and its ways -/
def mkP (t : D) (W : List (List Int)) : D := .tup [t, .lst (W.map mkT)]
theorem ev_things {ns : List Int} {S : List O} : F__law_things [.lst (ns.map D.int)] S = .ok (.lst (ns.map fun i => mkP (.int i) [[i]])) S := by
  refine def_rt rfl ?_ (low_pure _ _ ?_)
  · have i1 : iSeq (dVar 0) [some (.lst (ns.map D.int)), none] S = .ok ⟨ns.map D.int, none⟩ S := iSeq_lst rfl
    have z1 : (1 : Nat) ≤ sizeLine := small_line (by omega)
    have z2 : (2 : Nat) ≤ sizeLine := small_line (by omega)
    have e1 : dLc (iSeq (dVar 0)) [1] (.nm 1) (xYes) (dTup (aCons (dVar 1) (aCons (dLst (aCons (dTup (aCons (dVar 1) (aNil))) (aNil))) (aNil)))) [some (.lst (ns.map D.int)), none] S = .ok (.lst (((ns.map D.int).filter (fun _ => true)).map fun x => .tup [x, .lst [.tup [x]]])) S := by
      refine dLc_pure i1 (fun x hx acc => ⟨_, tset_nm, rfl, fun _ => ?_⟩) ?_
      · simp -implicitDefEqProofs only [Dn.rbind_ok, Dn.rbind_bad, Dn.rbind_exc, Dn.obind_ok, Dn.obind_bad, Dn.nox_ok, Dn.dVar_zero, Dn.dVar_succ, Dn.dC_eq, Dn.dUn_eq, Dn.dBin_eq, Dn.dBl_eq, Dn.xOf_eq, Dn.xAnd_eq, Dn.xOr_eq, Dn.xNot_eq, Dn.xYes_eq, Dn.dAnd_eq, Dn.dOr_eq, Dn.dNot_eq, Dn.dIf_eq, Dn.aNil_eq, Dn.aCons_eq, Dn.dApp_eq, Dn.dTup_eq, Dn.dLst_eq, Dn.nLst_eq, Dn.dCall_eq, Dn.dChain_eq, Dn.sSet_eq, Dn.sRet_eq, Dn.sRetN_eq, Dn.sDrop_eq, Dn.sIf_eq, Dn.sNext_eq, Dn.sBrk_eq, Dn.sCnt_eq, Dn.sPar_eq, Dn.sPar3_eq, Dn.sAsg_eq, Dn.tset_nm, Dn.tset_tp, Dn.tsets_nil, Dn.tsets_cons, Dn.grd_none, Dn.wipeE_nil, Dn.wipeE_cons, Dn.gEq_int, Dn.gIsN_non, Dn.gIsN_int, Dn.gIsN_str, Dn.gIsN_tup, Dn.gIsN_bl, Dn.gIsN_ib, Dn.gIsN_nb, Dn.gIsN_sb, Dn.gIsN_tb, Dn.gAdd_int, Dn.gAugAdd_int, Dn.gSubI_int, Dn.gLt_int, Dn.gLe_int, Dn.gGt_int, Dn.gGe_int, Dn.gNeg_int, Dn.gAbs_int, Dn.gInt_int, Dn.gMax2_int, Dn.gMin2_int, Dn.asQ_tup, Dn.asQ_lst, Dn.asL_lst, Dn.gIdx_tup0, Dn.gIdx_tup1, Dn.gIdx_tup2, Dn.gLen_tup, Dn.gLen_lst, Dn.gLen_rol, Dn.gTuple_tup, Dn.gTuple_lst, Dn.gList_tup, Dn.gList_lst, Dn.sSetI_eq, Dn.dMtL_eq, Dn.iSeq_lst, Dn.iSeq_tup, Dn.sSeq_eq, Dn.startE, List.set_cons_zero, List.set_cons_succ, List.map_cons, List.map_nil, List.length_cons, List.length_nil, List.cons_append, List.nil_append, List.append_nil, List.replicate_succ, List.replicate_zero, if_true, if_false, ite_true, ite_false, Bool.false_eq_true, decide_true, decide_false, Nat.reduceSub, Nat.reduceAdd, Nat.reduceLeDiff, Bool.not_true, Bool.not_false, reduceIte, reduceCtorEq, Nat.zero_add, Nat.add_zero, wipeC, z1, z2]
      · rw [flt_true]
        refine lows_pure _ _ (pures_iff.mpr fun y hy => ?_)
        obtain ⟨x, hx, rfl⟩ := List.mem_map.mp hy
        obtain ⟨i, _, rfl⟩ := List.mem_map.mp hx
        rfl
    rw [flt_true, List.map_map] at e1
    simp -implicitDefEqProofs only [Dn.rbind_ok, Dn.rbind_bad, Dn.rbind_exc, Dn.obind_ok, Dn.obind_bad, Dn.nox_ok, Dn.dVar_zero, Dn.dVar_succ, Dn.dC_eq, Dn.dUn_eq, Dn.dBin_eq, Dn.dBl_eq, Dn.xOf_eq, Dn.xAnd_eq, Dn.xOr_eq, Dn.xNot_eq, Dn.xYes_eq, Dn.dAnd_eq, Dn.dOr_eq, Dn.dNot_eq, Dn.dIf_eq, Dn.aNil_eq, Dn.aCons_eq, Dn.dApp_eq, Dn.dTup_eq, Dn.dLst_eq, Dn.nLst_eq, Dn.dCall_eq, Dn.dChain_eq, Dn.sSet_eq, Dn.sRet_eq, Dn.sRetN_eq, Dn.sDrop_eq, Dn.sIf_eq, Dn.sNext_eq, Dn.sBrk_eq, Dn.sCnt_eq, Dn.sPar_eq, Dn.sPar3_eq, Dn.sAsg_eq, Dn.tset_nm, Dn.tset_tp, Dn.tsets_nil, Dn.tsets_cons, Dn.grd_none, Dn.wipeE_nil, Dn.wipeE_cons, Dn.gEq_int, Dn.gIsN_non, Dn.gIsN_int, Dn.gIsN_str, Dn.gIsN_tup, Dn.gIsN_bl, Dn.gIsN_ib, Dn.gIsN_nb, Dn.gIsN_sb, Dn.gIsN_tb, Dn.gAdd_int, Dn.gAugAdd_int, Dn.gSubI_int, Dn.gLt_int, Dn.gLe_int, Dn.gGt_int, Dn.gGe_int, Dn.gNeg_int, Dn.gAbs_int, Dn.gInt_int, Dn.gMax2_int, Dn.gMin2_int, Dn.asQ_tup, Dn.asQ_lst, Dn.asL_lst, Dn.gIdx_tup0, Dn.gIdx_tup1, Dn.gIdx_tup2, Dn.gLen_tup, Dn.gLen_lst, Dn.gLen_rol, Dn.gTuple_tup, Dn.gTuple_lst, Dn.gList_tup, Dn.gList_lst, Dn.sSetI_eq, Dn.dMtL_eq, Dn.iSeq_lst, Dn.iSeq_tup, Dn.sSeq_eq, Dn.startE, List.set_cons_zero, List.set_cons_succ, List.map_cons, List.map_nil, List.length_cons, List.length_nil, List.cons_append, List.nil_append, List.append_nil, List.replicate_succ, List.replicate_zero, if_true, if_false, ite_true, ite_false, Bool.false_eq_true, decide_true, decide_false, Nat.reduceSub, Nat.reduceAdd, Nat.reduceLeDiff, Bool.not_true, Bool.not_false, reduceIte, reduceCtorEq, Nat.zero_add, Nat.add_zero, B__law_things, e1]
    rfl
  · show pureDs _ = true
    refine pures_iff.mpr fun y hy => ?_
    obtain ⟨i, _, rfl⟩ := List.mem_map.mp hy
    rfl
theorem ev_family {W : List (List Int)} {S : List O} (h : ∀ w ∈ W, w ≠ []) : F__law_family [.lst (W.map mkT)] S = .ok (.tup ((sortT W).map mkT)) S := by
  refine def_rt rfl ?_ (low_pure _ _ (pure_mkTs _))
  have e1 : gSortA [.lst (W.map mkT)] S = .ok (.lst ((sortT W).map mkT)) S := by
    exact gSortA_tups h
  simp -implicitDefEqProofs only [Dn.rbind_ok, Dn.rbind_bad, Dn.rbind_exc, Dn.obind_ok, Dn.obind_bad, Dn.nox_ok, Dn.dVar_zero, Dn.dVar_succ, Dn.dC_eq, Dn.dUn_eq, Dn.dBin_eq, Dn.dBl_eq, Dn.xOf_eq, Dn.xAnd_eq, Dn.xOr_eq, Dn.xNot_eq, Dn.xYes_eq, Dn.dAnd_eq, Dn.dOr_eq, Dn.dNot_eq, Dn.dIf_eq, Dn.aNil_eq, Dn.aCons_eq, Dn.dApp_eq, Dn.dTup_eq, Dn.dLst_eq, Dn.nLst_eq, Dn.dCall_eq, Dn.dChain_eq, Dn.sSet_eq, Dn.sRet_eq, Dn.sRetN_eq, Dn.sDrop_eq, Dn.sIf_eq, Dn.sNext_eq, Dn.sBrk_eq, Dn.sCnt_eq, Dn.sPar_eq, Dn.sPar3_eq, Dn.sAsg_eq, Dn.tset_nm, Dn.tset_tp, Dn.tsets_nil, Dn.tsets_cons, Dn.grd_none, Dn.wipeE_nil, Dn.wipeE_cons, Dn.gEq_int, Dn.gIsN_non, Dn.gIsN_int, Dn.gIsN_str, Dn.gIsN_tup, Dn.gIsN_bl, Dn.gIsN_ib, Dn.gIsN_nb, Dn.gIsN_sb, Dn.gIsN_tb, Dn.gAdd_int, Dn.gAugAdd_int, Dn.gSubI_int, Dn.gLt_int, Dn.gLe_int, Dn.gGt_int, Dn.gGe_int, Dn.gNeg_int, Dn.gAbs_int, Dn.gInt_int, Dn.gMax2_int, Dn.gMin2_int, Dn.asQ_tup, Dn.asQ_lst, Dn.asL_lst, Dn.gIdx_tup0, Dn.gIdx_tup1, Dn.gIdx_tup2, Dn.gLen_tup, Dn.gLen_lst, Dn.gLen_rol, Dn.gTuple_tup, Dn.gTuple_lst, Dn.gList_tup, Dn.gList_lst, Dn.sSetI_eq, Dn.dMtL_eq, Dn.iSeq_lst, Dn.iSeq_tup, Dn.sSeq_eq, Dn.startE, List.set_cons_zero, List.set_cons_succ, List.map_cons, List.map_nil, List.length_cons, List.length_nil, List.cons_append, List.nil_append, List.append_nil, List.replicate_succ, List.replicate_zero, if_true, if_false, ite_true, ite_false, Bool.false_eq_true, decide_true, decide_false, Nat.reduceSub, Nat.reduceAdd, Nat.reduceLeDiff, Bool.not_true, Bool.not_false, reduceIte, reduceCtorEq, Nat.zero_add, Nat.add_zero, B__law_family, e1]
theorem gMaxA_of {d : D} {is : List Int} {m : Int} {S : Store} (h : asQ S d = some (is.map D.int)) (hm : maxL is = some m) : gMaxA [d] S = .ok (.int m) S := by
  show (match asQ S d with
    | some xs => match unInts xs with
      | some is => match (maxL is).map D.int with
        | some r => Res.ok r S
        | none => .bad
      | none => .bad
    | none => .bad) = _
  rw [h]
  simp only
  rw [unInts_map]
  simp only
  rw [hm]
  rfl
theorem gMinA_of {d : D} {is : List Int} {m : Int} {S : Store} (h : asQ S d = some (is.map D.int)) (hm : minL is = some m) : gMinA [d] S = .ok (.int m) S := by
  show (match asQ S d with
    | some xs => match unInts xs with
      | some is => match (minL is).map D.int with
        | some r => Res.ok r S
        | none => .bad
      | none => .bad
    | none => .bad) = _
  rw [h]
  simp only
  rw [unInts_map]
  simp only
  rw [hm]
  rfl
theorem maxL_mem {xs : List Int} {m : Int} (h : maxL xs = some m) : m ∈ xs ∧ ∀ y ∈ xs, y ≤ m := by
  cases xs with
  | nil => cases h
  | cons x xs =>
    cases h
    have key : ∀ (l : List Int) (a : Int), (a ≤ l.foldl max a ∧ (∀ y ∈ l, y ≤ l.foldl max a)) ∧ (l.foldl max a = a ∨ l.foldl max a ∈ l) := by
      intro l
      induction l with
      | nil => intro a; simp
      | cons b l ih =>
        intro a
        obtain ⟨⟨i1, i2⟩, i3⟩ := ih (max a b)
        simp only [List.foldl_cons, List.mem_cons]
        refine ⟨⟨by omega, fun y hy => ?_⟩, ?_⟩
        · rcases hy with rfl | hy
          · omega
          · exact i2 y hy
        · rcases i3 with e | e
          · rw [e]; omega
          · exact .inr (.inr e)
    obtain ⟨⟨k1, k2⟩, k3⟩ := key xs x
    refine ⟨?_, fun y hy => ?_⟩
    · rcases k3 with e | e
      · rw [e]; exact List.mem_cons_self
      · exact List.mem_cons_of_mem _ e
    · rcases List.mem_cons.mp hy with rfl | hy
      · exact k1
      · exact k2 y hy
theorem maxL_some {xs : List Int} (h : xs ≠ []) : ∃ m, maxL xs = some m := by
  cases xs with
  | nil => exact absurd rfl h
  | cons x xs => exact ⟨_, rfl⟩
theorem ev_many {W : List (List Int)} {n : Int} {S : List O} (hw : ∀ w ∈ W, w ≠ []) (h1 : ∀ w ∈ W, ∀ i ∈ w, i < n) (h2 : ∃ w ∈ W, n - 1 ∈ w) : F__law_many [.tup (W.map mkT)] S = .ok (.int n) S := by
  refine def_rt rfl ?_ rfl
  have i1 : iSeq (dVar 0) [some (.tup (W.map mkT)), none] S = .ok ⟨W.map mkT, none⟩ S := iSeq_tup rfl
  have e1 : dLc (iSeq (dVar 0)) [1] (.nm 1) (xYes) (dApp gMaxA (aCons (dVar 1) (aNil))) [some (.tup (W.map mkT)), none] S = .ok (.lst (((W.map mkT).filter (fun _ => true)).map fun x => match unTup x with
      | some k => .int ((maxL k).getD 0)
      | none => .non)) S := by
    refine dLc_pure i1 (fun x hx acc => ⟨_, tset_nm, rfl, fun _ => ?_⟩) ?_
    · obtain ⟨w, hm, rfl⟩ := List.mem_map.mp hx
      obtain ⟨m, e⟩ := maxL_some (hw w hm)
      have g1 : ∀ S, gMaxA [mkT w] S = .ok (.int m) S := fun S => gMaxA_of rfl e
      have g2 : unTup (mkT w) = some w := unInts_map w
      simp -implicitDefEqProofs only [Dn.rbind_ok, Dn.rbind_bad, Dn.rbind_exc, Dn.obind_ok, Dn.obind_bad, Dn.nox_ok, Dn.dVar_zero, Dn.dVar_succ, Dn.dC_eq, Dn.dUn_eq, Dn.dBin_eq, Dn.dBl_eq, Dn.xOf_eq, Dn.xAnd_eq, Dn.xOr_eq, Dn.xNot_eq, Dn.xYes_eq, Dn.dAnd_eq, Dn.dOr_eq, Dn.dNot_eq, Dn.dIf_eq, Dn.aNil_eq, Dn.aCons_eq, Dn.dApp_eq, Dn.dTup_eq, Dn.dLst_eq, Dn.nLst_eq, Dn.dCall_eq, Dn.dChain_eq, Dn.sSet_eq, Dn.sRet_eq, Dn.sRetN_eq, Dn.sDrop_eq, Dn.sIf_eq, Dn.sNext_eq, Dn.sBrk_eq, Dn.sCnt_eq, Dn.sPar_eq, Dn.sPar3_eq, Dn.sAsg_eq, Dn.tset_nm, Dn.tset_tp, Dn.tsets_nil, Dn.tsets_cons, Dn.grd_none, Dn.wipeE_nil, Dn.wipeE_cons, Dn.gEq_int, Dn.gIsN_non, Dn.gIsN_int, Dn.gIsN_str, Dn.gIsN_tup, Dn.gIsN_bl, Dn.gIsN_ib, Dn.gIsN_nb, Dn.gIsN_sb, Dn.gIsN_tb, Dn.gAdd_int, Dn.gAugAdd_int, Dn.gSubI_int, Dn.gLt_int, Dn.gLe_int, Dn.gGt_int, Dn.gGe_int, Dn.gNeg_int, Dn.gAbs_int, Dn.gInt_int, Dn.gMax2_int, Dn.gMin2_int, Dn.asQ_tup, Dn.asQ_lst, Dn.asL_lst, Dn.gIdx_tup0, Dn.gIdx_tup1, Dn.gIdx_tup2, Dn.gLen_tup, Dn.gLen_lst, Dn.gLen_rol, Dn.gTuple_tup, Dn.gTuple_lst, Dn.gList_tup, Dn.gList_lst, Dn.sSetI_eq, Dn.dMtL_eq, Dn.iSeq_lst, Dn.iSeq_tup, Dn.sSeq_eq, Dn.startE, List.set_cons_zero, List.set_cons_succ, List.map_cons, List.map_nil, List.length_cons, List.length_nil, List.cons_append, List.nil_append, List.append_nil, List.replicate_succ, List.replicate_zero, if_true, if_false, ite_true, ite_false, Bool.false_eq_true, decide_true, decide_false, Nat.reduceSub, Nat.reduceAdd, Nat.reduceLeDiff, Bool.not_true, Bool.not_false, reduceIte, reduceCtorEq, Nat.zero_add, Nat.add_zero, wipeC, g1, g2, e, Option.getD_some]
    · rw [flt_true]
      refine lows_pure _ _ (pures_iff.mpr fun y hy => ?_)
      obtain ⟨x, hx, rfl⟩ := List.mem_map.mp hy
      obtain ⟨i, _, rfl⟩ := List.mem_map.mp hx
      have g2 : unTup (mkT i) = some i := unInts_map i
      rw [g2]
      rfl
  have e2 : ((W.map mkT).filter (fun _ => true)).map (fun x => match unTup x with
      | some k => D.int ((maxL k).getD 0)
      | none => .non) = (W.map fun w => (maxL w).getD 0).map D.int := by
    rw [flt_true, List.map_map, List.map_map]
    refine List.map_congr_left fun w _ => ?_
    have g2 : unTup (mkT w) = some w := unInts_map w
    show (match unTup (mkT w) with
      | some k => D.int ((maxL k).getD 0)
      | none => .non) = _
    rw [g2]
    rfl
  rw [e2] at e1
  have e3 : maxL (W.map fun w => (maxL w).getD 0) = some (n - 1) := by
    obtain ⟨w, hm, hn⟩ := h2
    refine maxL_eq (List.mem_map.mpr ⟨w, hm, ?_⟩) fun y hy => ?_
    · obtain ⟨m, e⟩ := maxL_some (hw w hm)
      rw [e]
      obtain ⟨q1, q2⟩ := maxL_mem e
      have := h1 w hm m q1
      have := q2 _ hn
      show m = n - 1
      omega
    · obtain ⟨w', hm', rfl⟩ := List.mem_map.mp hy
      obtain ⟨m, e⟩ := maxL_some (hw w' hm')
      rw [e]
      have := h1 w' hm' m (maxL_mem e).1
      show m ≤ n - 1
      omega
  have e4 : gMaxA [.lst ((W.map fun w => (maxL w).getD 0).map D.int)] S = .ok (.int (n - 1)) S := gMaxA_of rfl e3
  simp -implicitDefEqProofs only [Dn.rbind_ok, Dn.rbind_bad, Dn.rbind_exc, Dn.obind_ok, Dn.obind_bad, Dn.nox_ok, Dn.dVar_zero, Dn.dVar_succ, Dn.dC_eq, Dn.dUn_eq, Dn.dBin_eq, Dn.dBl_eq, Dn.xOf_eq, Dn.xAnd_eq, Dn.xOr_eq, Dn.xNot_eq, Dn.xYes_eq, Dn.dAnd_eq, Dn.dOr_eq, Dn.dNot_eq, Dn.dIf_eq, Dn.aNil_eq, Dn.aCons_eq, Dn.dApp_eq, Dn.dTup_eq, Dn.dLst_eq, Dn.nLst_eq, Dn.dCall_eq, Dn.dChain_eq, Dn.sSet_eq, Dn.sRet_eq, Dn.sRetN_eq, Dn.sDrop_eq, Dn.sIf_eq, Dn.sNext_eq, Dn.sBrk_eq, Dn.sCnt_eq, Dn.sPar_eq, Dn.sPar3_eq, Dn.sAsg_eq, Dn.tset_nm, Dn.tset_tp, Dn.tsets_nil, Dn.tsets_cons, Dn.grd_none, Dn.wipeE_nil, Dn.wipeE_cons, Dn.gEq_int, Dn.gIsN_non, Dn.gIsN_int, Dn.gIsN_str, Dn.gIsN_tup, Dn.gIsN_bl, Dn.gIsN_ib, Dn.gIsN_nb, Dn.gIsN_sb, Dn.gIsN_tb, Dn.gAdd_int, Dn.gAugAdd_int, Dn.gSubI_int, Dn.gLt_int, Dn.gLe_int, Dn.gGt_int, Dn.gGe_int, Dn.gNeg_int, Dn.gAbs_int, Dn.gInt_int, Dn.gMax2_int, Dn.gMin2_int, Dn.asQ_tup, Dn.asQ_lst, Dn.asL_lst, Dn.gIdx_tup0, Dn.gIdx_tup1, Dn.gIdx_tup2, Dn.gLen_tup, Dn.gLen_lst, Dn.gLen_rol, Dn.gTuple_tup, Dn.gTuple_lst, Dn.gList_tup, Dn.gList_lst, Dn.sSetI_eq, Dn.dMtL_eq, Dn.iSeq_lst, Dn.iSeq_tup, Dn.sSeq_eq, Dn.startE, List.set_cons_zero, List.set_cons_succ, List.map_cons, List.map_nil, List.length_cons, List.length_nil, List.cons_append, List.nil_append, List.append_nil, List.replicate_succ, List.replicate_zero, if_true, if_false, ite_true, ite_false, Bool.false_eq_true, decide_true, decide_false, Nat.reduceSub, Nat.reduceAdd, Nat.reduceLeDiff, Bool.not_true, Bool.not_false, reduceIte, reduceCtorEq, Nat.zero_add, Nat.add_zero, B__law_many, e1, e4]
  rw [show 1 + (n - 1) = n by omega]
end Cm

set_option maxHeartbeats 1000000
namespace Cm
open PySem PySem.Spec PyProof.Rows L2 Dn
/-! ### rows of parts -/
theorem row_in {n : Nat} {e0 e1 e2 e3 e4 : Option D} {w : List Int} {S : List O} (hn : n = S.length) : ∀ (W acc : List (List Int)), acc.length + W.length < 1000000 → (∀ u ∈ W, w.length + u.length ≤ 1000000) →
    forD (.nm 7) [7] (sDrop (dMtL gAppend (dVar 5) (aCons (dCall F__law_joined [] (aCons (dVar 6) (aCons (dVar 7) (aNil)))) (aNil)))) none (W.map mkT) [e0, e1, e2, e3, e4, some (.ref n), some (mkT w), none] (S ++ [.lst (acc.map mkT)])
      = .nx [e0, e1, e2, e3, e4, some (.ref n), some (mkT w), none] (S ++ [.lst ((acc ++ W.map (jn w)).map mkT)])
  | [], acc, hl, hw => by rw [List.map_nil, forD_nil, List.map_nil, List.append_nil]
  | u :: W, acc, hl, hw => by
    subst hn
    have ih := row_in (e0 := e0) (e1 := e1) (e2 := e2) (e3 := e3) (e4 := e4) (w := w) (S := S) rfl W (acc ++ [jn w u]) (by simp at hl ⊢; omega) (fun v hv => hw v (List.mem_cons_of_mem _ hv))
    have g0 : asL (S ++ [O.lst (acc.map mkT)]) (.ref S.length) = some (acc.map mkT) := asL_ref get_last
    have g1 : F__law_joined [mkT w, mkT u] (S ++ [.lst (acc.map mkT)]) = .ok (mkT (jn w u)) (S ++ [.lst (acc.map mkT)]) := ev_joined (hw u List.mem_cons_self)
    have g2 : gAppend (.ref S.length) [mkT (jn w u)] (S ++ [.lst (acc.map mkT)]) = .ok .non (S ++ [.lst ((acc ++ [jn w u]).map mkT)]) := by
      rw [gAppend_of get_last (small_lt (by simp at hl ⊢; omega)), set_last, List.map_append]
      rfl
    rw [List.map_cons, forD_cons]
    simp -implicitDefEqProofs only [Dn.rbind_ok, Dn.rbind_bad, Dn.rbind_exc, Dn.obind_ok, Dn.obind_bad, Dn.nox_ok, Dn.dVar_zero, Dn.dVar_succ, Dn.dC_eq, Dn.dUn_eq, Dn.dBin_eq, Dn.dBl_eq, Dn.xOf_eq, Dn.xAnd_eq, Dn.xOr_eq, Dn.xNot_eq, Dn.xYes_eq, Dn.dAnd_eq, Dn.dOr_eq, Dn.dNot_eq, Dn.dIf_eq, Dn.aNil_eq, Dn.aCons_eq, Dn.dApp_eq, Dn.dTup_eq, Dn.dLst_eq, Dn.nLst_eq, Dn.dCall_eq, Dn.dChain_eq, Dn.sSet_eq, Dn.sRet_eq, Dn.sRetN_eq, Dn.sDrop_eq, Dn.sIf_eq, Dn.sNext_eq, Dn.sBrk_eq, Dn.sCnt_eq, Dn.sPar_eq, Dn.sPar3_eq, Dn.sAsg_eq, Dn.tset_nm, Dn.tset_tp, Dn.tsets_nil, Dn.tsets_cons, Dn.grd_none, Dn.wipeE_nil, Dn.wipeE_cons, Dn.gEq_int, Dn.gIsN_non, Dn.gIsN_int, Dn.gIsN_str, Dn.gIsN_tup, Dn.gIsN_bl, Dn.gIsN_ib, Dn.gIsN_nb, Dn.gIsN_sb, Dn.gIsN_tb, Dn.gAdd_int, Dn.gAugAdd_int, Dn.gSubI_int, Dn.gLt_int, Dn.gLe_int, Dn.gGt_int, Dn.gGe_int, Dn.gNeg_int, Dn.gAbs_int, Dn.gInt_int, Dn.gMax2_int, Dn.gMin2_int, Dn.asQ_tup, Dn.asQ_lst, Dn.asL_lst, Dn.gIdx_tup0, Dn.gIdx_tup1, Dn.gIdx_tup2, Dn.gLen_tup, Dn.gLen_lst, Dn.gLen_rol, Dn.gTuple_tup, Dn.gTuple_lst, Dn.gList_tup, Dn.gList_lst, Dn.sSetI_eq, Dn.dMtL_eq, Dn.iSeq_lst, Dn.iSeq_tup, Dn.sSeq_eq, Dn.startE, List.set_cons_zero, List.set_cons_succ, List.map_cons, List.map_nil, List.length_cons, List.length_nil, List.cons_append, List.nil_append, List.append_nil, List.replicate_succ, List.replicate_zero, if_true, if_false, ite_true, ite_false, Bool.false_eq_true, decide_true, decide_false, Nat.reduceSub, Nat.reduceAdd, Nat.reduceLeDiff, Bool.not_true, Bool.not_false, reduceIte, reduceCtorEq, Nat.zero_add, Nat.add_zero, g0, g1, g2]
    rw [ih]
    simp
theorem row_mid {n : Nat} {e0 e1 e2 e3 : Option D} {W : List (List Int)} {S : List O} {grd : Option (Nat × O)} (hn : n = S.length) (hg : ∀ acc, grdOk grd (S ++ [.lst acc])) : ∀ (U acc : List (List Int)), acc.length + U.length * W.length < 1000000 → (∀ w ∈ U, ∀ u ∈ W, w.length + u.length ≤ 1000000) →
    forD (.nm 6) [6, 7] (sFor (iSeq (dVar 4)) (.nm 7) [7] (sDrop (dMtL gAppend (dVar 5) (aCons (dCall F__law_joined [] (aCons (dVar 6) (aCons (dVar 7) (aNil)))) (aNil))))) grd (U.map mkT) [e0, e1, e2, e3, some (.lst (W.map mkT)), some (.ref n), none, none] (S ++ [.lst (acc.map mkT)])
      = .nx [e0, e1, e2, e3, some (.lst (W.map mkT)), some (.ref n), none, none] (S ++ [.lst ((acc ++ U.flatMap fun w => W.map (jn w)).map mkT)])
  | [], acc, hl, hw => by
    rw [List.map_nil, forD]
    exact (if_pos (hg _)).trans (by simp)
  | w :: U, acc, hl, hw => by
    have hl' : acc.length + (U.length * W.length + W.length) < 1000000 := by rw [List.length_cons, Nat.succ_mul] at hl; exact hl
    have ih := row_mid (e0 := e0) (e1 := e1) (e2 := e2) (e3 := e3) (W := W) (S := S) hn hg U (acc ++ W.map (jn w)) (by simp; omega) (fun v hv => hw v (List.mem_cons_of_mem _ hv))
    have g1 := row_in (e0 := e0) (e1 := e1) (e2 := e2) (e3 := e3) (e4 := some (.lst (W.map mkT))) (w := w) (S := S) hn W acc (by omega) (hw w List.mem_cons_self)
    have i1 : iSeq (dVar 4) [e0, e1, e2, e3, some (.lst (W.map mkT)), some (.ref n), some (mkT w), none] (S ++ [.lst (acc.map mkT)]) = .ok ⟨W.map mkT, none⟩ (S ++ [.lst (acc.map mkT)]) := iSeq_lst rfl
    rw [List.map_cons, forD]
    refine (if_pos (hg _)).trans ?_
    simp -implicitDefEqProofs only [Dn.rbind_ok, Dn.rbind_bad, Dn.rbind_exc, Dn.obind_ok, Dn.obind_bad, Dn.nox_ok, Dn.dVar_zero, Dn.dVar_succ, Dn.dC_eq, Dn.dUn_eq, Dn.dBin_eq, Dn.dBl_eq, Dn.xOf_eq, Dn.xAnd_eq, Dn.xOr_eq, Dn.xNot_eq, Dn.xYes_eq, Dn.dAnd_eq, Dn.dOr_eq, Dn.dNot_eq, Dn.dIf_eq, Dn.aNil_eq, Dn.aCons_eq, Dn.dApp_eq, Dn.dTup_eq, Dn.dLst_eq, Dn.nLst_eq, Dn.dCall_eq, Dn.dChain_eq, Dn.sSet_eq, Dn.sRet_eq, Dn.sRetN_eq, Dn.sDrop_eq, Dn.sIf_eq, Dn.sNext_eq, Dn.sBrk_eq, Dn.sCnt_eq, Dn.sPar_eq, Dn.sPar3_eq, Dn.sAsg_eq, Dn.tset_nm, Dn.tset_tp, Dn.tsets_nil, Dn.tsets_cons, Dn.grd_none, Dn.wipeE_nil, Dn.wipeE_cons, Dn.gEq_int, Dn.gIsN_non, Dn.gIsN_int, Dn.gIsN_str, Dn.gIsN_tup, Dn.gIsN_bl, Dn.gIsN_ib, Dn.gIsN_nb, Dn.gIsN_sb, Dn.gIsN_tb, Dn.gAdd_int, Dn.gAugAdd_int, Dn.gSubI_int, Dn.gLt_int, Dn.gLe_int, Dn.gGt_int, Dn.gGe_int, Dn.gNeg_int, Dn.gAbs_int, Dn.gInt_int, Dn.gMax2_int, Dn.gMin2_int, Dn.asQ_tup, Dn.asQ_lst, Dn.asL_lst, Dn.gIdx_tup0, Dn.gIdx_tup1, Dn.gIdx_tup2, Dn.gLen_tup, Dn.gLen_lst, Dn.gLen_rol, Dn.gTuple_tup, Dn.gTuple_lst, Dn.gList_tup, Dn.gList_lst, Dn.sSetI_eq, Dn.dMtL_eq, Dn.iSeq_lst, Dn.iSeq_tup, Dn.sSeq_eq, Dn.startE, List.set_cons_zero, List.set_cons_succ, List.map_cons, List.map_nil, List.length_cons, List.length_nil, List.cons_append, List.nil_append, List.append_nil, List.replicate_succ, List.replicate_zero, if_true, if_false, ite_true, ite_false, Bool.false_eq_true, decide_true, decide_false, Nat.reduceSub, Nat.reduceAdd, Nat.reduceLeDiff, Bool.not_true, Bool.not_false, reduceIte, reduceCtorEq, Nat.zero_add, Nat.add_zero, sFor_eq, i1, g1]
    rw [ih]
    simp
/-- the ways of a row of parts -/
def rowW : List (List Int) → List (D × List (List Int)) → List (List Int)
  | U, [] => U
  | U, p :: ps => rowW (U.flatMap fun w => p.2.map (jn w)) ps
/-- a list of ways, told as a value or in a cell behind S -/
def Wy (S L : List O) (d : D) (U : List (List Int)) : Prop := d = .lst (U.map mkT) ∨ ∃ k, d = .ref k ∧ S.length ≤ k ∧ (S ++ L)[k]? = some (.lst (U.map mkT))
theorem Wy.frz {S L : List O} {d : D} {U : List (List Int)} (h : Wy S L d U) : Dn.frz (S ++ L) S.length d = some (.lst (U.map mkT)) := by
  rcases h with rfl | ⟨k, rfl, h1, h2⟩
  · exact frzD_low _ (lows_pure _ _ (pure_mkTs U))
  · exact frz_ref h2 (by omega) (lows_pure _ _ (pure_mkTs U))
theorem Wy.seq {S L : List O} {d : D} {U : List (List Int)} (h : Wy S L d U) {f : Den} {ρ : Dn.Env} {M : List O} (hf : f ρ (S ++ L ++ M) = .ok d (S ++ L ++ M)) : ∃ g, iSeq f ρ (S ++ L ++ M) = .ok ⟨U.map mkT, g⟩ (S ++ L ++ M) ∧ ∀ M, grdOk g (S ++ L ++ M) := by
  rcases h with rfl | ⟨k, rfl, h1, h2⟩
  · exact ⟨none, iSeq_lst hf, fun _ => trivial⟩
  · have hk : k < (S ++ L).length := (List.getElem?_eq_some_iff.mp h2).1
    have h3 : ∀ M, (S ++ L ++ M)[k]? = some (.lst (U.map mkT)) := fun M => by rw [List.getElem?_append_left hk]; exact h2
    refine ⟨some (k, .lst (U.map mkT)), ?_, h3⟩
    unfold iSeq
    rw [hf]
    simp only [rbind_ok]
    unfold asG
    simp only
    rw [h3 M]
theorem row_out {S : List O} {e0 e1 : Option D} : ∀ (ps : List (D × List (List Int))) (L : List O) (d : D) (U : List (List Int)), Wy S L d U →
    (∀ ps1 p ps2, ps = ps1 ++ p :: ps2 → (rowW U ps1).length * p.2.length < 1000000 ∧ ∀ w ∈ rowW U ps1, ∀ u ∈ p.2, w.length + u.length ≤ 1000000) →
    ∃ L' d', forD (.tp [.nm 3, .nm 4]) [3, 4, 5, 6, 7] (sSeq (sSet 5 (nLst (aNil))) (sSeq (sFor (iSeq (dVar 2)) (.nm 6) [6, 7] (sFor (iSeq (dVar 4)) (.nm 7) [7] (sDrop (dMtL gAppend (dVar 5) (aCons (dCall F__law_joined [] (aCons (dVar 6) (aCons (dVar 7) (aNil)))) (aNil)))))) (sSet 2 (dVar 5)))) none (ps.map fun p => mkP p.1 p.2) [e0, e1, some d, none, none, none, none, none] (S ++ L)
      = .nx [e0, e1, some d', none, none, none, none, none] (S ++ L') ∧ Wy S L' d' (rowW U ps)
  | [], L, d, U, hd, hs => ⟨L, d, forD_nil, hd⟩
  | p :: ps, L, d, U, hd, hs => by
    obtain ⟨h1, h2⟩ := hs [] p ps rfl
    have z0 : (0 : Nat) ≤ sizeLine := Nat.zero_le _
    obtain ⟨g, i1, hg⟩ := hd.seq (f := dVar 2) (ρ := [e0, e1, some d, some p.1, some (.lst (p.2.map mkT)), some (.ref (S ++ L).length), none, none]) (M := [.lst []]) rfl
    have m1 := row_mid (e0 := e0) (e1 := e1) (e2 := some d) (e3 := some p.1) (W := p.2) (S := S ++ L) (grd := g) rfl (fun acc => hg _) U [] (by simpa [rowW] using h1) (by simpa [rowW] using h2)
    simp only [List.map_nil, List.nil_append] at m1
    have hw : Wy S (L ++ [.lst ((U.flatMap fun w => p.2.map (jn w)).map mkT)]) (.ref (S ++ L).length) (U.flatMap fun w => p.2.map (jn w)) :=
      .inr ⟨_, rfl, by simp, by rw [← List.append_assoc]; exact get_last⟩
    obtain ⟨L', d', e, hd'⟩ := row_out (e0 := e0) (e1 := e1) ps _ _ _ hw (fun ps1 q ps2 he => hs (p :: ps1) q ps2 (by rw [he]; rfl))
    refine ⟨L', d', ?_, hd'⟩
    rw [List.map_cons, forD_cons]
    have t1 : tset (.tp [.nm 3, .nm 4]) (mkP p.1 p.2) [e0, e1, some d, none, none, none, none, none] = some [e0, e1, some d, some p.1, some (.lst (p.2.map mkT)), none, none, none] := by
      simp -implicitDefEqProofs only [Dn.rbind_ok, Dn.rbind_bad, Dn.rbind_exc, Dn.obind_ok, Dn.obind_bad, Dn.nox_ok, Dn.dVar_zero, Dn.dVar_succ, Dn.dC_eq, Dn.dUn_eq, Dn.dBin_eq, Dn.dBl_eq, Dn.xOf_eq, Dn.xAnd_eq, Dn.xOr_eq, Dn.xNot_eq, Dn.xYes_eq, Dn.dAnd_eq, Dn.dOr_eq, Dn.dNot_eq, Dn.dIf_eq, Dn.aNil_eq, Dn.aCons_eq, Dn.dApp_eq, Dn.dTup_eq, Dn.dLst_eq, Dn.nLst_eq, Dn.dCall_eq, Dn.dChain_eq, Dn.sSet_eq, Dn.sRet_eq, Dn.sRetN_eq, Dn.sDrop_eq, Dn.sIf_eq, Dn.sNext_eq, Dn.sBrk_eq, Dn.sCnt_eq, Dn.sPar_eq, Dn.sPar3_eq, Dn.sAsg_eq, Dn.tset_nm, Dn.tset_tp, Dn.tsets_nil, Dn.tsets_cons, Dn.grd_none, Dn.wipeE_nil, Dn.wipeE_cons, Dn.gEq_int, Dn.gIsN_non, Dn.gIsN_int, Dn.gIsN_str, Dn.gIsN_tup, Dn.gIsN_bl, Dn.gIsN_ib, Dn.gIsN_nb, Dn.gIsN_sb, Dn.gIsN_tb, Dn.gAdd_int, Dn.gAugAdd_int, Dn.gSubI_int, Dn.gLt_int, Dn.gLe_int, Dn.gGt_int, Dn.gGe_int, Dn.gNeg_int, Dn.gAbs_int, Dn.gInt_int, Dn.gMax2_int, Dn.gMin2_int, Dn.asQ_tup, Dn.asQ_lst, Dn.asL_lst, Dn.gIdx_tup0, Dn.gIdx_tup1, Dn.gIdx_tup2, Dn.gLen_tup, Dn.gLen_lst, Dn.gLen_rol, Dn.gTuple_tup, Dn.gTuple_lst, Dn.gList_tup, Dn.gList_lst, Dn.sSetI_eq, Dn.dMtL_eq, Dn.iSeq_lst, Dn.iSeq_tup, Dn.sSeq_eq, Dn.startE, List.set_cons_zero, List.set_cons_succ, List.map_cons, List.map_nil, List.length_cons, List.length_nil, List.cons_append, List.nil_append, List.append_nil, List.replicate_succ, List.replicate_zero, if_true, if_false, ite_true, ite_false, Bool.false_eq_true, decide_true, decide_false, Nat.reduceSub, Nat.reduceAdd, Nat.reduceLeDiff, Bool.not_true, Bool.not_false, reduceIte, reduceCtorEq, Nat.zero_add, Nat.add_zero, mkP]
    rw [t1]
    simp -implicitDefEqProofs only [Dn.rbind_ok, Dn.rbind_bad, Dn.rbind_exc, Dn.obind_ok, Dn.obind_bad, Dn.nox_ok, Dn.dVar_zero, Dn.dVar_succ, Dn.dC_eq, Dn.dUn_eq, Dn.dBin_eq, Dn.dBl_eq, Dn.xOf_eq, Dn.xAnd_eq, Dn.xOr_eq, Dn.xNot_eq, Dn.xYes_eq, Dn.dAnd_eq, Dn.dOr_eq, Dn.dNot_eq, Dn.dIf_eq, Dn.aNil_eq, Dn.aCons_eq, Dn.dApp_eq, Dn.dTup_eq, Dn.dLst_eq, Dn.nLst_eq, Dn.dCall_eq, Dn.dChain_eq, Dn.sSet_eq, Dn.sRet_eq, Dn.sRetN_eq, Dn.sDrop_eq, Dn.sIf_eq, Dn.sNext_eq, Dn.sBrk_eq, Dn.sCnt_eq, Dn.sPar_eq, Dn.sPar3_eq, Dn.sAsg_eq, Dn.tset_nm, Dn.tset_tp, Dn.tsets_nil, Dn.tsets_cons, Dn.grd_none, Dn.wipeE_nil, Dn.wipeE_cons, Dn.gEq_int, Dn.gIsN_non, Dn.gIsN_int, Dn.gIsN_str, Dn.gIsN_tup, Dn.gIsN_bl, Dn.gIsN_ib, Dn.gIsN_nb, Dn.gIsN_sb, Dn.gIsN_tb, Dn.gAdd_int, Dn.gAugAdd_int, Dn.gSubI_int, Dn.gLt_int, Dn.gLe_int, Dn.gGt_int, Dn.gGe_int, Dn.gNeg_int, Dn.gAbs_int, Dn.gInt_int, Dn.gMax2_int, Dn.gMin2_int, Dn.asQ_tup, Dn.asQ_lst, Dn.asL_lst, Dn.gIdx_tup0, Dn.gIdx_tup1, Dn.gIdx_tup2, Dn.gLen_tup, Dn.gLen_lst, Dn.gLen_rol, Dn.gTuple_tup, Dn.gTuple_lst, Dn.gList_tup, Dn.gList_lst, Dn.sSetI_eq, Dn.dMtL_eq, Dn.iSeq_lst, Dn.iSeq_tup, Dn.sSeq_eq, Dn.startE, List.set_cons_zero, List.set_cons_succ, List.map_cons, List.map_nil, List.length_cons, List.length_nil, List.cons_append, List.nil_append, List.append_nil, List.replicate_succ, List.replicate_zero, if_true, if_false, ite_true, ite_false, Bool.false_eq_true, decide_true, decide_false, Nat.reduceSub, Nat.reduceAdd, Nat.reduceLeDiff, Bool.not_true, Bool.not_false, reduceIte, reduceCtorEq, Nat.zero_add, Nat.add_zero, z0, sFor_eq, i1, m1]
    rw [← List.append_assoc] at e
    exact e
theorem terms_of {S : List O} {ps : List (D × List (List Int))} {e0 : Option D} {rest : Dn.Env} (hp : ∀ p ∈ ps, pureD p.1 = true) {e2 e3 e4 : Option D}
    (hw : wipeC (e0 :: some (.lst (ps.map fun p => mkP p.1 p.2)) :: e2 :: e3 :: e4 :: rest) [3, 4] = e0 :: some (.lst (ps.map fun p => mkP p.1 p.2)) :: e2 :: none :: none :: rest) :
    dLc (iSeq (dVar 1)) [3, 4] (.tp [.nm 3, .nm 4]) (xYes) (dVar 3) (e0 :: some (.lst (ps.map fun p => mkP p.1 p.2)) :: e2 :: e3 :: e4 :: rest) S = .ok (.lst (ps.map (·.1))) S := by
  have i1 : iSeq (dVar 1) (e0 :: some (.lst (ps.map fun p => mkP p.1 p.2)) :: e2 :: e3 :: e4 :: rest) S = .ok ⟨ps.map fun p => mkP p.1 p.2, none⟩ S := iSeq_lst rfl
  have e : ((ps.map fun p => mkP p.1 p.2).filter fun _ => true).map (fun x => match x with | .tup (t :: _) => t | _ => .non) = ps.map (·.1) := by
    rw [flt_true, List.map_map]
    rfl
  rw [← e]
  refine dLc_pure i1 (fun x hx acc => ?_) ?_
  · obtain ⟨p, _, rfl⟩ := List.mem_map.mp hx
    rw [hw]
    refine ⟨e0 :: some (.lst (ps.map fun p => mkP p.1 p.2)) :: e2 :: some p.1 :: some (.lst (p.2.map mkT)) :: rest, ?_, rfl, fun _ => rfl⟩
    simp -implicitDefEqProofs only [Dn.rbind_ok, Dn.rbind_bad, Dn.rbind_exc, Dn.obind_ok, Dn.obind_bad, Dn.nox_ok, Dn.dVar_zero, Dn.dVar_succ, Dn.dC_eq, Dn.dUn_eq, Dn.dBin_eq, Dn.dBl_eq, Dn.xOf_eq, Dn.xAnd_eq, Dn.xOr_eq, Dn.xNot_eq, Dn.xYes_eq, Dn.dAnd_eq, Dn.dOr_eq, Dn.dNot_eq, Dn.dIf_eq, Dn.aNil_eq, Dn.aCons_eq, Dn.dApp_eq, Dn.dTup_eq, Dn.dLst_eq, Dn.nLst_eq, Dn.dCall_eq, Dn.dChain_eq, Dn.sSet_eq, Dn.sRet_eq, Dn.sRetN_eq, Dn.sDrop_eq, Dn.sIf_eq, Dn.sNext_eq, Dn.sBrk_eq, Dn.sCnt_eq, Dn.sPar_eq, Dn.sPar3_eq, Dn.sAsg_eq, Dn.tset_nm, Dn.tset_tp, Dn.tsets_nil, Dn.tsets_cons, Dn.grd_none, Dn.wipeE_nil, Dn.wipeE_cons, Dn.gEq_int, Dn.gIsN_non, Dn.gIsN_int, Dn.gIsN_str, Dn.gIsN_tup, Dn.gIsN_bl, Dn.gIsN_ib, Dn.gIsN_nb, Dn.gIsN_sb, Dn.gIsN_tb, Dn.gAdd_int, Dn.gAugAdd_int, Dn.gSubI_int, Dn.gLt_int, Dn.gLe_int, Dn.gGt_int, Dn.gGe_int, Dn.gNeg_int, Dn.gAbs_int, Dn.gInt_int, Dn.gMax2_int, Dn.gMin2_int, Dn.asQ_tup, Dn.asQ_lst, Dn.asL_lst, Dn.gIdx_tup0, Dn.gIdx_tup1, Dn.gIdx_tup2, Dn.gLen_tup, Dn.gLen_lst, Dn.gLen_rol, Dn.gTuple_tup, Dn.gTuple_lst, Dn.gList_tup, Dn.gList_lst, Dn.sSetI_eq, Dn.dMtL_eq, Dn.iSeq_lst, Dn.iSeq_tup, Dn.sSeq_eq, Dn.startE, List.set_cons_zero, List.set_cons_succ, List.map_cons, List.map_nil, List.length_cons, List.length_nil, List.cons_append, List.nil_append, List.append_nil, List.replicate_succ, List.replicate_zero, if_true, if_false, ite_true, ite_false, Bool.false_eq_true, decide_true, decide_false, Nat.reduceSub, Nat.reduceAdd, Nat.reduceLeDiff, Bool.not_true, Bool.not_false, reduceIte, reduceCtorEq, Nat.zero_add, Nat.add_zero, mkP]
  · rw [e]
    refine lows_pure _ _ (pures_iff.mpr fun y hy => ?_)
    obtain ⟨p, hm, rfl⟩ := List.mem_map.mp hy
    exact hp p hm
theorem ev_row {S : List O} {n : Nat} {ps : List (D × List (List Int))} (hb : ∃ g c, BoxAt S n g c) (hp : ∀ p ∈ ps, pureD p.1 = true) (hl : ps.length < 1000000)
    (hs : ∀ ps1 p ps2, ps = ps1 ++ p :: ps2 → (rowW [[]] ps1).length * p.2.length < 1000000 ∧ ∀ w ∈ rowW [[]] ps1, ∀ u ∈ p.2, w.length + u.length ≤ 1000000) :
    ∃ ts S', F__law_row [.ref n, .lst (ps.map fun p => mkP p.1 p.2)] S = .ok (mkP (.tup [.str "row", .tup ts]) (rowW [[]] ps)) S' ∧ Bx n S S' ∧ ts.Perm (ps.map (·.1)) := by
  have hn : n < S.length := by
    obtain ⟨g, c, h⟩ := hb
    exact (List.getElem?_eq_some_iff.mp h.at_).1
  have z0 : (0 : Nat) ≤ sizeLine := Nat.zero_le _
  have z1 : (1 : Nat) ≤ sizeLine := small_line (by omega)
  have z2 : (2 : Nat) ≤ sizeLine := small_line (by omega)
  obtain ⟨L, d, e1, hd⟩ := row_out (S := S) (e0 := some (.ref n)) (e1 := some (.lst (ps.map fun p => mkP p.1 p.2))) ps [] (.lst [.tup []]) [[]] (.inl rfl) hs
  rw [List.append_nil] at e1
  have hpt : pureDs (ps.map (·.1)) = true := pures_iff.mpr fun y hy => by
    obtain ⟨p, hm, rfl⟩ := List.mem_map.mp hy
    exact hp p hm
  obtain ⟨ts, S2, e2, b2, p2⟩ := ev_order (xs := ps.map (·.1)) (box_app (L := L) hb) hpt (by simpa using hl)
  obtain ⟨S', rfl, b⟩ := b2.cut hn
  have e3 := terms_of (S := S ++ L) (ps := ps) (e0 := some (.ref n)) (e2 := some d) (e3 := none) (e4 := none) (rest := [none, none, none]) hp rfl
  have i1 : iSeq (dVar 1) [some (.ref n), some (.lst (ps.map fun p => mkP p.1 p.2)), some (.lst [.tup []]), none, none, none, none, none] S = .ok ⟨ps.map fun p => mkP p.1 p.2, none⟩ S := iSeq_lst rfl
  refine ⟨ts, S', def_end (S2 := S' ++ L) (d := .tup [.tup [.str "row", .tup ts], d]) rfl ?_ ?_ (keep_box b) (take_box b), b, p2⟩
  · simp -implicitDefEqProofs only [Dn.rbind_ok, Dn.rbind_bad, Dn.rbind_exc, Dn.obind_ok, Dn.obind_bad, Dn.nox_ok, Dn.dVar_zero, Dn.dVar_succ, Dn.dC_eq, Dn.dUn_eq, Dn.dBin_eq, Dn.dBl_eq, Dn.xOf_eq, Dn.xAnd_eq, Dn.xOr_eq, Dn.xNot_eq, Dn.xYes_eq, Dn.dAnd_eq, Dn.dOr_eq, Dn.dNot_eq, Dn.dIf_eq, Dn.aNil_eq, Dn.aCons_eq, Dn.dApp_eq, Dn.dTup_eq, Dn.dLst_eq, Dn.nLst_eq, Dn.dCall_eq, Dn.dChain_eq, Dn.sSet_eq, Dn.sRet_eq, Dn.sRetN_eq, Dn.sDrop_eq, Dn.sIf_eq, Dn.sNext_eq, Dn.sBrk_eq, Dn.sCnt_eq, Dn.sPar_eq, Dn.sPar3_eq, Dn.sAsg_eq, Dn.tset_nm, Dn.tset_tp, Dn.tsets_nil, Dn.tsets_cons, Dn.grd_none, Dn.wipeE_nil, Dn.wipeE_cons, Dn.gEq_int, Dn.gIsN_non, Dn.gIsN_int, Dn.gIsN_str, Dn.gIsN_tup, Dn.gIsN_bl, Dn.gIsN_ib, Dn.gIsN_nb, Dn.gIsN_sb, Dn.gIsN_tb, Dn.gAdd_int, Dn.gAugAdd_int, Dn.gSubI_int, Dn.gLt_int, Dn.gLe_int, Dn.gGt_int, Dn.gGe_int, Dn.gNeg_int, Dn.gAbs_int, Dn.gInt_int, Dn.gMax2_int, Dn.gMin2_int, Dn.asQ_tup, Dn.asQ_lst, Dn.asL_lst, Dn.gIdx_tup0, Dn.gIdx_tup1, Dn.gIdx_tup2, Dn.gLen_tup, Dn.gLen_lst, Dn.gLen_rol, Dn.gTuple_tup, Dn.gTuple_lst, Dn.gList_tup, Dn.gList_lst, Dn.sSetI_eq, Dn.dMtL_eq, Dn.iSeq_lst, Dn.iSeq_tup, Dn.sSeq_eq, Dn.startE, List.set_cons_zero, List.set_cons_succ, List.map_cons, List.map_nil, List.length_cons, List.length_nil, List.cons_append, List.nil_append, List.append_nil, List.replicate_succ, List.replicate_zero, if_true, if_false, ite_true, ite_false, Bool.false_eq_true, decide_true, decide_false, Nat.reduceSub, Nat.reduceAdd, Nat.reduceLeDiff, Bool.not_true, Bool.not_false, reduceIte, reduceCtorEq, Nat.zero_add, Nat.add_zero, B__law_row, z0, z1, z2, sFor_eq, i1, e1, e3, e2]
  · have hf : frz (S' ++ L) S.length d = some (.lst ((rowW [[]] ps).map mkT)) := by
      rcases hd with rfl | ⟨k, rfl, h1, h2⟩
      · exact frzD_low _ (lows_pure _ _ (pure_mkTs _))
      · refine frz_ref ?_ (by omega) (lows_pure _ _ (pure_mkTs _))
        rw [List.getElem?_append_right (by rw [b.len]; exact h1), b.len]
        rw [List.getElem?_append_right h1] at h2
        exact h2
    have hts : frzD S.length (frzN (S' ++ L) S.length 8) (.tup [.str "row", .tup ts]) = some (.tup [.str "row", .tup ts]) := frzD_low _ (low_pure _ _ (by
      have : pureDs ts = true := perm_pure p2 hpt
      simp [pureD, pureDs, this]))
    show frzD S.length (frzN (S' ++ L) S.length 8) (.tup [.tup [.str "row", .tup ts], d]) = _
    have hf2 : frzD S.length (frzN (S' ++ L) S.length 8) d = some (.lst ((rowW [[]] ps).map mkT)) := hf
    unfold frzD
    unfold frzDs
    rw [hts]
    unfold frzDs
    rw [hf2]
    rfl
/-! ### sides of parts -/
def sideW (U : List (List Int)) (ps : List (D × List (List Int))) : List (List Int) := U ++ ps.flatMap (·.2)
theorem side_out {S : List O} {e0 e1 : Option D} : ∀ (ps : List (D × List (List Int))) (U : List (List Int)), (sideW U ps).length ≤ 1000000 →
    forD (.tp [.nm 3, .nm 4]) [3, 4] (sSet 2 (dBin gAdd (dVar 2) (dVar 4))) none (ps.map fun p => mkP p.1 p.2) [e0, e1, some (.lst (U.map mkT)), none, none] S = .nx [e0, e1, some (.lst ((sideW U ps).map mkT)), none, none] S
  | [], U, h => by rw [List.map_nil, forD_nil]; simp [sideW]
  | p :: ps, U, h => by
    have hl : (sideW (U ++ p.2) ps).length ≤ 1000000 := by
      unfold sideW at h ⊢
      simpa using h
    have ih := side_out (S := S) (e0 := e0) (e1 := e1) ps (U ++ p.2) hl
    have hl2 : (U.map mkT).length + (p.2.map mkT).length ≤ sizeLine := by
      rw [List.length_map, List.length_map]
      refine small_line ?_
      unfold sideW at h
      simp at h
      omega
    rw [List.map_cons, forD_cons]
    have t1 : tset (.tp [.nm 3, .nm 4]) (mkP p.1 p.2) [e0, e1, some (.lst (U.map mkT)), none, none] = some [e0, e1, some (.lst (U.map mkT)), some p.1, some (.lst (p.2.map mkT))] := by
      simp -implicitDefEqProofs only [Dn.rbind_ok, Dn.rbind_bad, Dn.rbind_exc, Dn.obind_ok, Dn.obind_bad, Dn.nox_ok, Dn.dVar_zero, Dn.dVar_succ, Dn.dC_eq, Dn.dUn_eq, Dn.dBin_eq, Dn.dBl_eq, Dn.xOf_eq, Dn.xAnd_eq, Dn.xOr_eq, Dn.xNot_eq, Dn.xYes_eq, Dn.dAnd_eq, Dn.dOr_eq, Dn.dNot_eq, Dn.dIf_eq, Dn.aNil_eq, Dn.aCons_eq, Dn.dApp_eq, Dn.dTup_eq, Dn.dLst_eq, Dn.nLst_eq, Dn.dCall_eq, Dn.dChain_eq, Dn.sSet_eq, Dn.sRet_eq, Dn.sRetN_eq, Dn.sDrop_eq, Dn.sIf_eq, Dn.sNext_eq, Dn.sBrk_eq, Dn.sCnt_eq, Dn.sPar_eq, Dn.sPar3_eq, Dn.sAsg_eq, Dn.tset_nm, Dn.tset_tp, Dn.tsets_nil, Dn.tsets_cons, Dn.grd_none, Dn.wipeE_nil, Dn.wipeE_cons, Dn.gEq_int, Dn.gIsN_non, Dn.gIsN_int, Dn.gIsN_str, Dn.gIsN_tup, Dn.gIsN_bl, Dn.gIsN_ib, Dn.gIsN_nb, Dn.gIsN_sb, Dn.gIsN_tb, Dn.gAdd_int, Dn.gAugAdd_int, Dn.gSubI_int, Dn.gLt_int, Dn.gLe_int, Dn.gGt_int, Dn.gGe_int, Dn.gNeg_int, Dn.gAbs_int, Dn.gInt_int, Dn.gMax2_int, Dn.gMin2_int, Dn.asQ_tup, Dn.asQ_lst, Dn.asL_lst, Dn.gIdx_tup0, Dn.gIdx_tup1, Dn.gIdx_tup2, Dn.gLen_tup, Dn.gLen_lst, Dn.gLen_rol, Dn.gTuple_tup, Dn.gTuple_lst, Dn.gList_tup, Dn.gList_lst, Dn.sSetI_eq, Dn.dMtL_eq, Dn.iSeq_lst, Dn.iSeq_tup, Dn.sSeq_eq, Dn.startE, List.set_cons_zero, List.set_cons_succ, List.map_cons, List.map_nil, List.length_cons, List.length_nil, List.cons_append, List.nil_append, List.append_nil, List.replicate_succ, List.replicate_zero, if_true, if_false, ite_true, ite_false, Bool.false_eq_true, decide_true, decide_false, Nat.reduceSub, Nat.reduceAdd, Nat.reduceLeDiff, Bool.not_true, Bool.not_false, reduceIte, reduceCtorEq, Nat.zero_add, Nat.add_zero, mkP]
    rw [t1]
    simp -implicitDefEqProofs only [Dn.rbind_ok, Dn.rbind_bad, Dn.rbind_exc, Dn.obind_ok, Dn.obind_bad, Dn.nox_ok, Dn.dVar_zero, Dn.dVar_succ, Dn.dC_eq, Dn.dUn_eq, Dn.dBin_eq, Dn.dBl_eq, Dn.xOf_eq, Dn.xAnd_eq, Dn.xOr_eq, Dn.xNot_eq, Dn.xYes_eq, Dn.dAnd_eq, Dn.dOr_eq, Dn.dNot_eq, Dn.dIf_eq, Dn.aNil_eq, Dn.aCons_eq, Dn.dApp_eq, Dn.dTup_eq, Dn.dLst_eq, Dn.nLst_eq, Dn.dCall_eq, Dn.dChain_eq, Dn.sSet_eq, Dn.sRet_eq, Dn.sRetN_eq, Dn.sDrop_eq, Dn.sIf_eq, Dn.sNext_eq, Dn.sBrk_eq, Dn.sCnt_eq, Dn.sPar_eq, Dn.sPar3_eq, Dn.sAsg_eq, Dn.tset_nm, Dn.tset_tp, Dn.tsets_nil, Dn.tsets_cons, Dn.grd_none, Dn.wipeE_nil, Dn.wipeE_cons, Dn.gEq_int, Dn.gIsN_non, Dn.gIsN_int, Dn.gIsN_str, Dn.gIsN_tup, Dn.gIsN_bl, Dn.gIsN_ib, Dn.gIsN_nb, Dn.gIsN_sb, Dn.gIsN_tb, Dn.gAdd_int, Dn.gAugAdd_int, Dn.gSubI_int, Dn.gLt_int, Dn.gLe_int, Dn.gGt_int, Dn.gGe_int, Dn.gNeg_int, Dn.gAbs_int, Dn.gInt_int, Dn.gMax2_int, Dn.gMin2_int, Dn.asQ_tup, Dn.asQ_lst, Dn.asL_lst, Dn.gIdx_tup0, Dn.gIdx_tup1, Dn.gIdx_tup2, Dn.gLen_tup, Dn.gLen_lst, Dn.gLen_rol, Dn.gTuple_tup, Dn.gTuple_lst, Dn.gList_tup, Dn.gList_lst, Dn.sSetI_eq, Dn.dMtL_eq, Dn.iSeq_lst, Dn.iSeq_tup, Dn.sSeq_eq, Dn.startE, List.set_cons_zero, List.set_cons_succ, List.map_cons, List.map_nil, List.length_cons, List.length_nil, List.cons_append, List.nil_append, List.append_nil, List.replicate_succ, List.replicate_zero, if_true, if_false, ite_true, ite_false, Bool.false_eq_true, decide_true, decide_false, Nat.reduceSub, Nat.reduceAdd, Nat.reduceLeDiff, Bool.not_true, Bool.not_false, reduceIte, reduceCtorEq, Nat.zero_add, Nat.add_zero, gAdd_lst hl2]
    rw [← List.map_append, ih]
    unfold sideW
    simp
theorem ev_side {S : List O} {n : Nat} {ps : List (D × List (List Int))} (hb : ∃ g c, BoxAt S n g c) (hp : ∀ p ∈ ps, pureD p.1 = true) (hl : ps.length < 1000000) (hs : (sideW [] ps).length ≤ 1000000) :
    ∃ ts S', F__law_side [.ref n, .lst (ps.map fun p => mkP p.1 p.2)] S = .ok (mkP (.tup [.str "side", .tup ts]) (sideW [] ps)) S' ∧ Bx n S S' ∧ ts.Perm (ps.map (·.1)) := by
  have z0 : (0 : Nat) ≤ sizeLine := Nat.zero_le _
  have z2 : (2 : Nat) ≤ sizeLine := small_line (by omega)
  have e1 := side_out (S := S) (e0 := some (.ref n)) (e1 := some (.lst (ps.map fun p => mkP p.1 p.2))) ps [] hs
  rw [List.map_nil] at e1
  have hpt : pureDs (ps.map (·.1)) = true := pures_iff.mpr fun y hy => by
    obtain ⟨p, hm, rfl⟩ := List.mem_map.mp hy
    exact hp p hm
  obtain ⟨ts, S', e2, b, p2⟩ := ev_order (xs := ps.map (·.1)) hb hpt (by simpa using hl)
  have e3 := terms_of (S := S) (ps := ps) (e0 := some (.ref n)) (e2 := some (.lst ((sideW [] ps).map mkT))) (e3 := none) (e4 := none) (rest := []) hp rfl
  have i1 : iSeq (dVar 1) [some (.ref n), some (.lst (ps.map fun p => mkP p.1 p.2)), some (.lst []), none, none] S = .ok ⟨ps.map fun p => mkP p.1 p.2, none⟩ S := iSeq_lst rfl
  refine ⟨ts, S', def_box (n := n) rfl ?_ b ?_, b, p2⟩
  · simp -implicitDefEqProofs only [Dn.rbind_ok, Dn.rbind_bad, Dn.rbind_exc, Dn.obind_ok, Dn.obind_bad, Dn.nox_ok, Dn.dVar_zero, Dn.dVar_succ, Dn.dC_eq, Dn.dUn_eq, Dn.dBin_eq, Dn.dBl_eq, Dn.xOf_eq, Dn.xAnd_eq, Dn.xOr_eq, Dn.xNot_eq, Dn.xYes_eq, Dn.dAnd_eq, Dn.dOr_eq, Dn.dNot_eq, Dn.dIf_eq, Dn.aNil_eq, Dn.aCons_eq, Dn.dApp_eq, Dn.dTup_eq, Dn.dLst_eq, Dn.nLst_eq, Dn.dCall_eq, Dn.dChain_eq, Dn.sSet_eq, Dn.sRet_eq, Dn.sRetN_eq, Dn.sDrop_eq, Dn.sIf_eq, Dn.sNext_eq, Dn.sBrk_eq, Dn.sCnt_eq, Dn.sPar_eq, Dn.sPar3_eq, Dn.sAsg_eq, Dn.tset_nm, Dn.tset_tp, Dn.tsets_nil, Dn.tsets_cons, Dn.grd_none, Dn.wipeE_nil, Dn.wipeE_cons, Dn.gEq_int, Dn.gIsN_non, Dn.gIsN_int, Dn.gIsN_str, Dn.gIsN_tup, Dn.gIsN_bl, Dn.gIsN_ib, Dn.gIsN_nb, Dn.gIsN_sb, Dn.gIsN_tb, Dn.gAdd_int, Dn.gAugAdd_int, Dn.gSubI_int, Dn.gLt_int, Dn.gLe_int, Dn.gGt_int, Dn.gGe_int, Dn.gNeg_int, Dn.gAbs_int, Dn.gInt_int, Dn.gMax2_int, Dn.gMin2_int, Dn.asQ_tup, Dn.asQ_lst, Dn.asL_lst, Dn.gIdx_tup0, Dn.gIdx_tup1, Dn.gIdx_tup2, Dn.gLen_tup, Dn.gLen_lst, Dn.gLen_rol, Dn.gTuple_tup, Dn.gTuple_lst, Dn.gList_tup, Dn.gList_lst, Dn.sSetI_eq, Dn.dMtL_eq, Dn.iSeq_lst, Dn.iSeq_tup, Dn.sSeq_eq, Dn.startE, List.set_cons_zero, List.set_cons_succ, List.map_cons, List.map_nil, List.length_cons, List.length_nil, List.cons_append, List.nil_append, List.append_nil, List.replicate_succ, List.replicate_zero, if_true, if_false, ite_true, ite_false, Bool.false_eq_true, decide_true, decide_false, Nat.reduceSub, Nat.reduceAdd, Nat.reduceLeDiff, Bool.not_true, Bool.not_false, reduceIte, reduceCtorEq, Nat.zero_add, Nat.add_zero, B__law_side, z0, z2, sFor_eq, i1, e1, e3, e2]
    rfl
  · have : pureDs ts = true := perm_pure p2 hpt
    exact low_pure _ _ (by simp [mkP, pureD, pureDs, this, pure_mkTs])
end Cm

set_option maxHeartbeats 1000000
namespace Cm
open PySem PySem.Spec PyProof.Rows L2 Dn
/-! ### what _law_once makes -/
abbrev Pt := D × List (List Int)
/-- a term told as a value, its ways, its things in their order of making -/
inductive Good (most : Nat) : D → List (List Int) → List Int → Prop where
  | leaf (i : Int) : Good most (.int i) [[i]] [i]
  | row {ps : List (Pt × List Int)} {ts : List D} (h : ∀ p ∈ ps, Good most p.1.1 p.1.2 p.2) (hp : ts.Perm (ps.map fun p => p.1.1)) (h2 : 2 ≤ ps.length) (hm : (ps.map fun p => p.1.2.length).prod ≤ most) :
      Good most (.tup [.str "row", .tup ts]) (rowW [[]] (ps.map (·.1))) (ps.flatMap (·.2))
  | side {ps : List (Pt × List Int)} {ts : List D} (h : ∀ p ∈ ps, Good most p.1.1 p.1.2 p.2) (hp : ts.Perm (ps.map fun p => p.1.1)) (h2 : 2 ≤ ps.length) :
      Good most (.tup [.str "side", .tup ts]) (sideW [] (ps.map (·.1))) (ps.flatMap (·.2))
theorem jn_perm (a b : List Int) : (jn a b).Perm (a ++ b.filter fun i => decide (i ∉ a)) := List.mergeSort_perm _ _
theorem jn_mem {a b : List Int} {i : Int} : i ∈ jn a b ↔ i ∈ a ∨ i ∈ b := by
  rw [(jn_perm a b).mem_iff, List.mem_append, List.mem_filter]
  constructor
  · rintro (h | h)
    · exact .inl h
    · exact .inr h.1
  · rintro (h | h)
    · exact .inl h
    · by_cases ha : i ∈ a
      · exact .inl ha
      · exact .inr ⟨h, by simpa using ha⟩
theorem jn_len (a b : List Int) : (jn a b).length ≤ a.length + b.length := by
  rw [(jn_perm a b).length_eq, List.length_append]
  have := List.length_filter_le (fun i => decide (i ∉ a)) b
  omega
/-- a way of a row: one way of each part -/
theorem rowW_mem : ∀ (ps : List Pt) (U : List (List Int)) (w : List Int), w ∈ rowW U ps ↔ ∃ u ∈ U, ∃ vs : List (List Int), F2 (fun (p : Pt) v => v ∈ p.2) ps vs ∧ w = vs.foldl jn u
  | [], U, w => by
    constructor
    · intro h; exact ⟨w, h, [], .nil, rfl⟩
    · rintro ⟨u, hu, vs, f, rfl⟩; cases f; exact hu
  | p :: ps, U, w => by
    show w ∈ rowW (U.flatMap fun w => p.2.map (jn w)) ps ↔ _
    rw [rowW_mem ps]
    constructor
    · rintro ⟨u, hu, vs, f, rfl⟩
      obtain ⟨u0, h0, h1⟩ := List.mem_flatMap.mp hu
      obtain ⟨v, hv, rfl⟩ := List.mem_map.mp h1
      exact ⟨u0, h0, v :: vs, .cons hv f, rfl⟩
    · rintro ⟨u0, h0, vs, f, rfl⟩
      cases f with
      | @cons _ v _ vs hv f => exact ⟨jn u0 v, List.mem_flatMap.mpr ⟨u0, h0, List.mem_map.mpr ⟨v, hv, rfl⟩⟩, vs, f, rfl⟩
theorem rowW_len : ∀ (ps : List Pt) (U : List (List Int)), (rowW U ps).length = U.length * (ps.map fun p => p.2.length).prod
  | [], U => by simp [rowW]
  | p :: ps, U => by
    show (rowW (U.flatMap fun w => p.2.map (jn w)) ps).length = _
    rw [rowW_len ps, List.map_cons, List.prod_cons]
    have : (U.flatMap fun w => p.2.map (jn w)).length = U.length * p.2.length := by
      induction U with
      | nil => simp
      | cons u U ih => simp [ih, Nat.succ_mul]; omega
    rw [this, Nat.mul_assoc]
theorem foldl_jn_mem : ∀ (vs : List (List Int)) (u : List Int) (i : Int), i ∈ vs.foldl jn u ↔ i ∈ u ∨ ∃ v ∈ vs, i ∈ v
  | [], u, i => by simp
  | v :: vs, u, i => by
    rw [List.foldl_cons, foldl_jn_mem vs, jn_mem]
    simp only [List.mem_cons, exists_eq_or_imp]
    constructor
    · rintro ((h | h) | h)
      · exact .inl h
      · exact .inr (.inl h)
      · exact .inr (.inr h)
    · rintro (h | h | h)
      · exact .inl (.inl h)
      · exact .inl (.inr h)
      · exact .inr h
theorem foldl_jn_len : ∀ (vs : List (List Int)) (u : List Int), (vs.foldl jn u).length ≤ u.length + (vs.map List.length).sum
  | [], u => by simp
  | v :: vs, u => by
    rw [List.foldl_cons]
    have := foldl_jn_len vs (jn u v)
    have := jn_len u v
    simp
    omega
theorem f2_mem {α β : Type} {P : α → β → Prop} {xs : List α} {ys : List β} (h : F2 P xs ys) : ∀ y ∈ ys, ∃ x ∈ xs, P x y := by
  induction h with
  | nil => intro y hy; cases hy
  | cons a t ih =>
    intro y hy
    rcases List.mem_cons.mp hy with rfl | hy
    · exact ⟨_, List.mem_cons_self, a⟩
    · obtain ⟨x, hx, p⟩ := ih y hy
      exact ⟨x, List.mem_cons_of_mem _ hx, p⟩
structure Facts (most : Nat) (t : D) (W : List (List Int)) (ls : List Int) : Prop where
  pu : pureD t = true
  ne : W ≠ []
  wne : ∀ w ∈ W, w ≠ []
  sub : ∀ w ∈ W, ∀ i ∈ w, i ∈ ls
  all : ∀ i ∈ ls, ∃ w ∈ W, i ∈ w
  wlen : ∀ w ∈ W, w.length ≤ ls.length
  len : W.length ≤ most * ls.length
  lne : ls ≠ []
theorem f2_pick {ps : List Pt} (h : ∀ p ∈ ps, p.2 ≠ []) : ∃ vs : List (List Int), F2 (fun (p : Pt) v => v ∈ p.2) ps vs := by
  induction ps with
  | nil => exact ⟨[], .nil⟩
  | cons p ps ih =>
    obtain ⟨vs, f⟩ := ih fun q hq => h q (List.mem_cons_of_mem _ hq)
    cases e : p.2 with
    | nil => exact absurd e (h p List.mem_cons_self)
    | cons v r => exact ⟨v :: vs, .cons (by rw [e]; exact List.mem_cons_self) f⟩
theorem f2_with {ps : List Pt} (h : ∀ p ∈ ps, p.2 ≠ []) {p : Pt} (hp : p ∈ ps) {v : List Int} (hv : v ∈ p.2) : ∃ vs : List (List Int), F2 (fun (p : Pt) v => v ∈ p.2) ps vs ∧ v ∈ vs := by
  induction ps with
  | nil => cases hp
  | cons q ps ih =>
    rcases List.mem_cons.mp hp with rfl | hp
    · obtain ⟨vs, f⟩ := f2_pick fun q hq => h q (List.mem_cons_of_mem _ hq)
      exact ⟨v :: vs, .cons hv f, List.mem_cons_self⟩
    · obtain ⟨vs, f, hm⟩ := ih (fun q hq => h q (List.mem_cons_of_mem _ hq)) hp
      cases e : q.2 with
      | nil => exact absurd e (h q List.mem_cons_self)
      | cons u r => exact ⟨u :: vs, .cons (by rw [e]; exact List.mem_cons_self) f, List.mem_cons_of_mem _ hm⟩
theorem prod_pos {α : Type} (f : α → Nat) : ∀ l : List α, (∀ x ∈ l, 0 < f x) → 0 < (l.map f).prod
  | [], _ => by simp
  | x :: l, h => by
    rw [List.map_cons, List.prod_cons]
    exact Nat.mul_pos (h x List.mem_cons_self) (prod_pos f l fun y hy => h y (List.mem_cons_of_mem _ hy))
theorem flat_len {α : Type} (f g : α → Nat) (l : List α) (h : ∀ x ∈ l, f x ≤ g x) : (l.map f).sum ≤ (l.map g).sum := by
  induction l with
  | nil => simp
  | cons x l ih =>
    have := h x List.mem_cons_self
    have := ih fun y hy => h y (List.mem_cons_of_mem _ hy)
    simp
    omega
theorem flat_mem_len {α β : Type} {ps : List (α × List β)} {q : α × List β} (hq : q ∈ ps) : q.2.length ≤ (ps.flatMap (·.2)).length := by
  induction ps with
  | nil => cases hq
  | cons p ps ih =>
    rw [List.flatMap_cons, List.length_append]
    rcases List.mem_cons.mp hq with rfl | hq
    · omega
    · have := ih hq
      omega
theorem Good.facts {most : Nat} (h1 : 1 ≤ most) {t : D} {W : List (List Int)} {ls : List Int} (h : Good most t W ls) : Facts most t W ls := by
  induction h with
  | leaf i => exact ⟨rfl, by simp, by simp, by simp, fun j hj => ⟨[i], by simp, hj⟩, by simp, by simpa using h1, by simp⟩
  | @row ps ts h hp h2 hm ih =>
    have hW : ∀ p ∈ ps.map (·.1), p.2 ≠ [] := fun p hm => by
      obtain ⟨q, hq, rfl⟩ := List.mem_map.mp hm
      exact (ih q hq).ne
    have hlne : ps.flatMap (·.2) ≠ [] := by
      cases ps with
      | nil => simp at h2
      | cons p ps =>
        have := (ih p List.mem_cons_self).lne
        simp [this]
    have hpos : 0 < (ps.flatMap (·.2)).length := List.length_pos_iff.mpr hlne
    have hf : ∀ (qs : List (Pt × List Int)), (∀ q ∈ qs, q ∈ ps) → ∀ vs : List (List Int), F2 (fun (p : Pt) v => v ∈ p.2) (qs.map (·.1)) vs → (∀ v ∈ vs, ∃ q ∈ qs, v ∈ q.1.2) ∧ (vs.map List.length).sum ≤ (qs.flatMap (·.2)).length := by
      intro qs
      induction qs with
      | nil => intro _ vs f; cases f; simp
      | cons q qs ihq =>
        intro hq vs f
        cases f with
        | @cons _ v _ vs hv f =>
          obtain ⟨k1, k2⟩ := ihq (fun x hx => hq x (List.mem_cons_of_mem _ hx)) vs f
          refine ⟨fun u hu => ?_, ?_⟩
          · rcases List.mem_cons.mp hu with rfl | hu
            · exact ⟨q, List.mem_cons_self, hv⟩
            · obtain ⟨x, hx, hm⟩ := k1 u hu
              exact ⟨x, List.mem_cons_of_mem _ hx, hm⟩
          · have := (ih q (hq q List.mem_cons_self)).wlen v hv
            rw [List.flatMap_cons, List.length_append, List.map_cons, List.sum_cons]
            omega
    refine ⟨?_, ?_, fun w hw => ?_, fun w hw i hi => ?_, fun i hi => ?_, fun w hw => ?_, ?_, hlne⟩
    · have : pureDs ts = true := perm_pure hp (pures_iff.mpr fun x hx => by
        obtain ⟨q, hq, rfl⟩ := List.mem_map.mp hx
        exact (ih q hq).pu)
      simp [pureD, pureDs, this]
    · intro e
      have := rowW_len (ps.map (·.1)) [[]]
      rw [e, List.map_map] at this
      have hp := prod_pos (fun p : Pt × List Int => p.1.2.length) ps fun x hx => List.length_pos_iff.mpr (ih x hx).ne
      simp only [List.length_nil, List.length_cons, Nat.zero_add, Nat.one_mul] at this
      have e2 : ((fun p : Pt => p.2.length) ∘ fun x : Pt × List Int => x.1) = fun p : Pt × List Int => p.1.2.length := rfl
      rw [e2] at this
      omega
    · obtain ⟨u, hu, vs, f, rfl⟩ := (rowW_mem _ _ _).mp hw
      obtain ⟨k1, k2⟩ := hf ps (fun _ h => h) vs f
      have hlv : vs.length = ps.length := by have := f.length; simpa using this
      cases vs with
      | nil => simp at hlv; omega
      | cons v vs =>
        obtain ⟨q, hq, hvq⟩ := k1 v List.mem_cons_self
        have hvne := (ih q hq).wne v hvq
        intro e
        cases v with
        | nil => exact hvne rfl
        | cons i v =>
          have : i ∈ ((i :: v) :: vs).foldl jn u := (foldl_jn_mem _ _ _).mpr (.inr ⟨i :: v, List.mem_cons_self, List.mem_cons_self⟩)
          rw [e] at this
          cases this
    · obtain ⟨u, hu, vs, f, rfl⟩ := (rowW_mem _ _ _).mp hw
      obtain ⟨k1, k2⟩ := hf ps (fun _ h => h) vs f
      have hu : u = [] := by simpa using hu
      subst hu
      rcases (foldl_jn_mem _ _ _).mp hi with hi | ⟨v, hv, hi⟩
      · cases hi
      · obtain ⟨q, hq, hvq⟩ := k1 v hv
        exact List.mem_flatMap.mpr ⟨q, hq, (ih q hq).sub v hvq i hi⟩
    · obtain ⟨q, hq, hi⟩ := List.mem_flatMap.mp hi
      obtain ⟨v, hv, hiv⟩ := (ih q hq).all i hi
      obtain ⟨vs, f, hm⟩ := f2_with hW (List.mem_map.mpr ⟨q, hq, rfl⟩) hv
      exact ⟨vs.foldl jn [], (rowW_mem _ _ _).mpr ⟨[], by simp, vs, f, rfl⟩, (foldl_jn_mem _ _ _).mpr (.inr ⟨v, hm, hiv⟩)⟩
    · obtain ⟨u, hu, vs, f, rfl⟩ := (rowW_mem _ _ _).mp hw
      obtain ⟨k1, k2⟩ := hf ps (fun _ h => h) vs f
      have hu : u = [] := by simpa using hu
      subst hu
      have := foldl_jn_len vs []
      simp at this
      omega
    · rw [rowW_len, List.map_map]
      have e2 : ((fun p : Pt => p.2.length) ∘ fun x : Pt × List Int => x.1) = fun p : Pt × List Int => p.1.2.length := rfl
      rw [e2]
      simp only [List.length_cons, List.length_nil, Nat.zero_add, Nat.one_mul]
      exact Nat.le_trans hm (Nat.le_mul_of_pos_right _ hpos)
  | @side ps ts h hp h2 ih =>
    have hlne : ps.flatMap (·.2) ≠ [] := by
      cases ps with
      | nil => simp at h2
      | cons p ps =>
        have := (ih p List.mem_cons_self).lne
        simp [this]
    have hmem : ∀ w, w ∈ sideW [] (ps.map (·.1)) ↔ ∃ q ∈ ps, w ∈ q.1.2 := fun w => by
      unfold sideW
      simp
    refine ⟨?_, ?_, fun w hw => ?_, fun w hw i hi => ?_, fun i hi => ?_, fun w hw => ?_, ?_, hlne⟩
    · have : pureDs ts = true := perm_pure hp (pures_iff.mpr fun x hx => by
        obtain ⟨q, hq, rfl⟩ := List.mem_map.mp hx
        exact (ih q hq).pu)
      simp [pureD, pureDs, this]
    · cases ps with
      | nil => simp at h2
      | cons p ps =>
        have := (ih p List.mem_cons_self).ne
        simp [sideW, this]
    · obtain ⟨q, hq, hm⟩ := (hmem w).mp hw
      exact (ih q hq).wne w hm
    · obtain ⟨q, hq, hm⟩ := (hmem w).mp hw
      exact List.mem_flatMap.mpr ⟨q, hq, (ih q hq).sub w hm i hi⟩
    · obtain ⟨q, hq, hi⟩ := List.mem_flatMap.mp hi
      obtain ⟨v, hv, hiv⟩ := (ih q hq).all i hi
      exact ⟨v, (hmem v).mpr ⟨q, hq, hv⟩, hiv⟩
    · obtain ⟨q, hq, hm⟩ := (hmem w).mp hw
      have h1 := (ih q hq).wlen w hm
      have h2 := flat_mem_len hq
      omega
    · have h3 : ∀ qs : List (Pt × List Int), (∀ q ∈ qs, q ∈ ps) → (sideW [] (qs.map (·.1))).length ≤ most * (qs.flatMap (·.2)).length := by
        intro qs
        induction qs with
        | nil => intro _; simp [sideW]
        | cons q qs ihq =>
          intro hq
          have k1 := ihq fun x hx => hq x (List.mem_cons_of_mem _ hx)
          have k2 := (ih q (hq q List.mem_cons_self)).len
          unfold sideW at k1 ⊢
          rw [List.nil_append] at k1 ⊢
          rw [List.map_cons, List.flatMap_cons, List.flatMap_cons, List.length_append, List.length_append, Nat.mul_add]
          omega
      exact h3 ps fun _ h => h
end Cm

set_option maxHeartbeats 1000000
namespace Cm
open PySem PySem.Spec PyProof.Rows L2 Dn
theorem cutD_take {τ : Type} {xs : List τ} {k : Nat} : Dn.cutD xs none (some (k : Int)) = xs.take k := by
  unfold Dn.cutD
  rw [HT.sIx_none, HT.sIx_nat, List.drop_zero, Nat.sub_zero]
  rcases Nat.le_total k xs.length with h | h
  · rw [Nat.min_eq_left h]
  · rw [Nat.min_eq_right h, List.take_length, List.take_of_length_le h]
theorem cutD_drop {τ : Type} {xs : List τ} {k : Nat} : Dn.cutD xs (some (k : Int)) none = xs.drop k := by
  unfold Dn.cutD
  rw [HT.sIx_none, HT.sIx_nat]
  rcases Nat.le_total k xs.length with h | h
  · rw [Nat.min_eq_left h]
    refine List.take_of_length_le ?_
    rw [List.length_drop]
    omega
  · rw [Nat.min_eq_right h, List.drop_length, List.drop_of_length_le h]
    simp
theorem gSl_lst {xs : List D} {lo hi : Option Int} {S : Store} : gSl (.lst xs) lo hi S = .ok (.lst (Dn.cutD xs lo hi)) S := rfl
theorem gSl_tup {xs : List D} {lo hi : Option Int} {S : Store} : gSl (.tup xs) lo hi S = .ok (.tup (Dn.cutD xs lo hi)) S := rfl
theorem sl_take {a h : Den} {ρ : Dn.Env} {xs : List D} {k : Nat} {S S1 S2 : Store} (ha : a ρ S = .ok (.lst xs) S1) (hh : h ρ S1 = .ok (.int (k : Nat)) S2) : dSl a (oNone) (oSome h) ρ S = .ok (.lst (xs.take k)) S2 := by
  unfold dSl oNone oSome
  rw [ha]
  simp only [rbind_ok]
  rw [hh]
  simp only [rbind_ok]
  rw [gSl_lst, cutD_take]
theorem sl_drop {a h : Den} {ρ : Dn.Env} {xs : List D} {k : Nat} {S S1 S2 : Store} (ha : a ρ S = .ok (.lst xs) S1) (hh : h ρ S1 = .ok (.int (k : Nat)) S2) : dSl a (oSome h) (oNone) ρ S = .ok (.lst (xs.drop k)) S2 := by
  unfold dSl oNone oSome
  rw [ha]
  simp only [rbind_ok]
  rw [hh]
  simp only [rbind_ok]
  rw [gSl_lst, cutD_drop]
theorem tl_take {a h : Den} {ρ : Dn.Env} {xs : List D} {k : Nat} {S S1 S2 : Store} (ha : a ρ S = .ok (.tup xs) S1) (hh : h ρ S1 = .ok (.int (k : Nat)) S2) : dSl a (oNone) (oSome h) ρ S = .ok (.tup (xs.take k)) S2 := by
  unfold dSl oNone oSome
  rw [ha]
  simp only [rbind_ok]
  rw [hh]
  simp only [rbind_ok]
  rw [gSl_tup, cutD_take]
theorem tl_drop {a h : Den} {ρ : Dn.Env} {xs : List D} {k : Nat} {S S1 S2 : Store} (ha : a ρ S = .ok (.tup xs) S1) (hh : h ρ S1 = .ok (.int (k : Nat)) S2) : dSl a (oSome h) (oNone) ρ S = .ok (.tup (xs.drop k)) S2 := by
  unfold dSl oNone oSome
  rw [ha]
  simp only [rbind_ok]
  rw [hh]
  simp only [rbind_ok]
  rw [gSl_tup, cutD_drop]
theorem mul_loop {e0 e1 e2 e3 e4 e5 e9 : Option D} {S : List O} : ∀ (ps : List (Pt × List Int)) (m : Nat), (∀ p ∈ ps, 0 < p.1.2.length) → 0 < m → m * (ps.map fun p => p.1.2.length).prod ≤ 1000000000000000 →
    forD (.tp [.nm 7, .nm 8]) [7, 8] (sSet 6 (dBin gMul (dVar 6) (dApp gLen (aCons (dVar 8) (aNil))))) none (ps.map fun p => mkP p.1.1 p.1.2) [e0, e1, e2, e3, e4, e5, some (.int (m : Nat)), none, none, e9] S
      = .nx [e0, e1, e2, e3, e4, e5, some (.int ((m * (ps.map fun p => p.1.2.length).prod : Nat) : Int)), none, none, e9] S
  | [], m, _, _, _ => by rw [List.map_nil, forD_nil]; simp
  | p :: ps, m, h, hm, hb => by
    have hp := h p List.mem_cons_self
    have hq := prod_pos (fun p : Pt × List Int => p.1.2.length) ps fun x hx => h x (List.mem_cons_of_mem _ hx)
    rw [List.map_cons, List.prod_cons, ← Nat.mul_assoc] at hb
    have ih := mul_loop (e0 := e0) (e1 := e1) (e2 := e2) (e3 := e3) (e4 := e4) (e5 := e5) (e9 := e9) (S := S) ps (m * p.1.2.length) (fun x hx => h x (List.mem_cons_of_mem _ hx)) (Nat.mul_pos hm hp) hb
    have b1 : m * p.1.2.length ≤ 1000000000000000 := Nat.le_trans (Nat.le_mul_of_pos_right _ hq) hb
    have b2 : m ≤ 1000000000000000 := Nat.le_trans (Nat.le_mul_of_pos_right _ hp) b1
    have b3 : p.1.2.length ≤ 1000000000000000 := Nat.le_trans (Nat.le_mul_of_pos_left _ hm) b1
    have g1 : gMul (.int (m : Nat)) (.int (p.1.2.length : Nat)) S = .ok (.int ((m * p.1.2.length : Nat) : Int)) S := by
      rw [gMul_int (by omega) (by omega), Int.natCast_mul]
    rw [List.map_cons, forD_cons]
    have t1 : tset (.tp [.nm 7, .nm 8]) (mkP p.1.1 p.1.2) [e0, e1, e2, e3, e4, e5, some (.int (m : Nat)), none, none, e9] = some [e0, e1, e2, e3, e4, e5, some (.int (m : Nat)), some p.1.1, some (.lst (p.1.2.map mkT)), e9] := by
      simp -implicitDefEqProofs only [Dn.rbind_ok, Dn.rbind_bad, Dn.rbind_exc, Dn.obind_ok, Dn.obind_bad, Dn.nox_ok, Dn.dVar_zero, Dn.dVar_succ, Dn.dC_eq, Dn.dUn_eq, Dn.dBin_eq, Dn.dBl_eq, Dn.xOf_eq, Dn.xAnd_eq, Dn.xOr_eq, Dn.xNot_eq, Dn.xYes_eq, Dn.dAnd_eq, Dn.dOr_eq, Dn.dNot_eq, Dn.dIf_eq, Dn.aNil_eq, Dn.aCons_eq, Dn.dApp_eq, Dn.dTup_eq, Dn.dLst_eq, Dn.nLst_eq, Dn.dCall_eq, Dn.dChain_eq, Dn.sSet_eq, Dn.sRet_eq, Dn.sRetN_eq, Dn.sDrop_eq, Dn.sIf_eq, Dn.sNext_eq, Dn.sBrk_eq, Dn.sCnt_eq, Dn.sPar_eq, Dn.sPar3_eq, Dn.sAsg_eq, Dn.tset_nm, Dn.tset_tp, Dn.tsets_nil, Dn.tsets_cons, Dn.grd_none, Dn.wipeE_nil, Dn.wipeE_cons, Dn.gEq_int, Dn.gIsN_non, Dn.gIsN_int, Dn.gIsN_str, Dn.gIsN_tup, Dn.gIsN_bl, Dn.gIsN_ib, Dn.gIsN_nb, Dn.gIsN_sb, Dn.gIsN_tb, Dn.gAdd_int, Dn.gAugAdd_int, Dn.gSubI_int, Dn.gLt_int, Dn.gLe_int, Dn.gGt_int, Dn.gGe_int, Dn.gNeg_int, Dn.gAbs_int, Dn.gInt_int, Dn.gMax2_int, Dn.gMin2_int, Dn.asQ_tup, Dn.asQ_lst, Dn.asL_lst, Dn.gIdx_tup0, Dn.gIdx_tup1, Dn.gIdx_tup2, Dn.gLen_tup, Dn.gLen_lst, Dn.gLen_rol, Dn.gTuple_tup, Dn.gTuple_lst, Dn.gList_tup, Dn.gList_lst, Dn.sSetI_eq, Dn.dMtL_eq, Dn.iSeq_lst, Dn.iSeq_tup, Dn.sSeq_eq, Dn.startE, List.set_cons_zero, List.set_cons_succ, List.map_cons, List.map_nil, List.length_cons, List.length_nil, List.cons_append, List.nil_append, List.append_nil, List.replicate_succ, List.replicate_zero, if_true, if_false, ite_true, ite_false, Bool.false_eq_true, decide_true, decide_false, Nat.reduceSub, Nat.reduceAdd, Nat.reduceLeDiff, Bool.not_true, Bool.not_false, reduceIte, reduceCtorEq, Nat.zero_add, Nat.add_zero, mkP]
    rw [t1]
    simp -implicitDefEqProofs only [Dn.rbind_ok, Dn.rbind_bad, Dn.rbind_exc, Dn.obind_ok, Dn.obind_bad, Dn.nox_ok, Dn.dVar_zero, Dn.dVar_succ, Dn.dC_eq, Dn.dUn_eq, Dn.dBin_eq, Dn.dBl_eq, Dn.xOf_eq, Dn.xAnd_eq, Dn.xOr_eq, Dn.xNot_eq, Dn.xYes_eq, Dn.dAnd_eq, Dn.dOr_eq, Dn.dNot_eq, Dn.dIf_eq, Dn.aNil_eq, Dn.aCons_eq, Dn.dApp_eq, Dn.dTup_eq, Dn.dLst_eq, Dn.nLst_eq, Dn.dCall_eq, Dn.dChain_eq, Dn.sSet_eq, Dn.sRet_eq, Dn.sRetN_eq, Dn.sDrop_eq, Dn.sIf_eq, Dn.sNext_eq, Dn.sBrk_eq, Dn.sCnt_eq, Dn.sPar_eq, Dn.sPar3_eq, Dn.sAsg_eq, Dn.tset_nm, Dn.tset_tp, Dn.tsets_nil, Dn.tsets_cons, Dn.grd_none, Dn.wipeE_nil, Dn.wipeE_cons, Dn.gEq_int, Dn.gIsN_non, Dn.gIsN_int, Dn.gIsN_str, Dn.gIsN_tup, Dn.gIsN_bl, Dn.gIsN_ib, Dn.gIsN_nb, Dn.gIsN_sb, Dn.gIsN_tb, Dn.gAdd_int, Dn.gAugAdd_int, Dn.gSubI_int, Dn.gLt_int, Dn.gLe_int, Dn.gGt_int, Dn.gGe_int, Dn.gNeg_int, Dn.gAbs_int, Dn.gInt_int, Dn.gMax2_int, Dn.gMin2_int, Dn.asQ_tup, Dn.asQ_lst, Dn.asL_lst, Dn.gIdx_tup0, Dn.gIdx_tup1, Dn.gIdx_tup2, Dn.gLen_tup, Dn.gLen_lst, Dn.gLen_rol, Dn.gTuple_tup, Dn.gTuple_lst, Dn.gList_tup, Dn.gList_lst, Dn.sSetI_eq, Dn.dMtL_eq, Dn.iSeq_lst, Dn.iSeq_tup, Dn.sSeq_eq, Dn.startE, List.set_cons_zero, List.set_cons_succ, List.map_cons, List.map_nil, List.length_cons, List.length_nil, List.cons_append, List.nil_append, List.append_nil, List.replicate_succ, List.replicate_zero, if_true, if_false, ite_true, ite_false, Bool.false_eq_true, decide_true, decide_false, Nat.reduceSub, Nat.reduceAdd, Nat.reduceLeDiff, Bool.not_true, Bool.not_false, reduceIte, reduceCtorEq, Nat.zero_add, Nat.add_zero, List.length_map, g1]
    rw [ih, List.prod_cons, Nat.mul_assoc]
theorem rowW_wlen {ps : List Pt} {w : List Int} {B : Nat} (h : ∀ p ∈ ps, ∀ v ∈ p.2, v.length ≤ B) (hw : w ∈ rowW [[]] ps) : w.length ≤ B * ps.length := by
  obtain ⟨u, hu, vs, f, rfl⟩ := (rowW_mem _ _ _).mp hw
  have hu : u = [] := by simpa using hu
  subst hu
  have h1 := foldl_jn_len vs []
  have h2 : (vs.map List.length).sum ≤ B * ps.length := by
    clear h1 hw
    induction f with
    | nil => simp
    | cons a f ih =>
      have k1 := ih (fun p hp => h p (List.mem_cons_of_mem _ hp)) 
      have k2 := h _ List.mem_cons_self _ a
      rw [List.map_cons, List.sum_cons, List.length_cons, Nat.mul_succ]
      omega
  simp at h1
  omega
/-- the parts as a value -/
def mkPs (ps : List (Pt × List Int)) : List D := ps.map fun p => mkP p.1.1 p.1.2
theorem mkPs_fst (ps : List (Pt × List Int)) : mkPs ps = (ps.map (·.1)).map fun p => mkP p.1 p.2 := by
  unfold mkPs
  rw [List.map_map]
  rfl
structure Once (most : Nat) (ns : List Int) (ps : List (Pt × List Int)) : Prop where
  good : ∀ p ∈ ps, Good most p.1.1 p.1.2 p.2
  perm : (ps.flatMap (·.2)).Perm ns
noncomputable def madeD : Den := dIf (xAnd (xOf (dBin (gLe) (dVar 6) (dVar 2))) (xOf (dBin (gEq false) (dCall F__law_take [] (aCons (dVar 0) (aCons (dC (.int 2)) (aNil)))) (dC (.int 0))))) (dCall F__law_row [] (aCons (dVar 0) (aCons (dVar 5) (aNil)))) (dCall F__law_side [] (aCons (dVar 0) (aCons (dVar 5) (aNil))))
/-- one turn of the loop -/
theorem once_turn {n most : Nat} {ns : List Int} {S : List O} {ps : List (Pt × List Int)} {nm : D} {tn : Option D} (hm : 1 ≤ most) (hm2 : most ≤ 100) (hn : ns.length ≤ 60) (hb : ∃ g c, BoxAt S n g c) (o : Once most ns ps) (hl : 2 ≤ ps.length) (hl2 : ps.length ≤ 60) :
    ∃ ps' S' a5 a6 a9, (sSeq (sSet 3 (dCall F__law_order [] (aCons (dVar 0) (aCons (dVar 3) (aNil))))) (sSeq (sSet 5 (dSl (dVar 3) (oNone) (oSome (dApp gMin2 (aCons (dApp gLen (aCons (dVar 3) (aNil))) (aCons (dBin gAdd (dC (.int 2)) (dCall F__law_take [] (aCons (dVar 0) (aCons (dC (.int 2)) (aNil))))) (aNil))))))) (sSeq (sSet 6 (dC (.int 1))) (sSeq (sFor (iSeq (dVar 5)) (.tp [.nm 7, .nm 8]) [7, 8] (sSet 6 (dBin gMul (dVar 6) (dApp gLen (aCons (dVar 8) (aNil)))))) (sSeq (sSet 9 madeD) (sSet 3 (dBin gAdd (dSl (dVar 3) (oSome (dApp gLen (aCons (dVar 5) (aNil)))) (oNone)) (dLst (aCons (dVar 9) (aNil))))))))))
      [some (.ref n), some nm, some (.int most), some (.lst (mkPs ps)), tn, none, none, none, none, none] S = .nx [some (.ref n), some nm, some (.int most), some (.lst (mkPs ps')), tn, a5, a6, none, none, a9] S' ∧ Bx n S S' ∧ Once most ns ps' ∧ ps'.length < ps.length ∧ ps' ≠ [] := by
  have facts : ∀ (qs : List (Pt × List Int)), (∀ q ∈ qs, Good most q.1.1 q.1.2 q.2) → ∀ q ∈ qs, Facts most q.1.1 q.1.2 q.2 := fun qs h q hq => (h q hq).facts hm
  have pureP : ∀ (qs : List (Pt × List Int)), (∀ q ∈ qs, Good most q.1.1 q.1.2 q.2) → pureDs (mkPs qs) = true := fun qs h => pures_iff.mpr fun x hx => by
    obtain ⟨q, hq, rfl⟩ := List.mem_map.mp hx
    simp [mkP, pureD, pureDs, (facts qs h q hq).pu, pure_mkTs]
  -- parts = _law_order(box, parts)
  obtain ⟨ys, S1, e1, b1, p1⟩ := ev_order (xs := mkPs ps) hb (pureP ps o.good) (by unfold mkPs; rw [List.length_map]; omega)
  obtain ⟨qs, pq, rfl⟩ := perm_lift (fun p : Pt × List Int => mkP p.1.1 p.1.2) p1 ps rfl
  have hql : qs.length = ps.length := pq.length_eq
  have gq : ∀ q ∈ qs, Good most q.1.1 q.1.2 q.2 := fun q hq => o.good q (pq.mem_iff.mp hq)
  -- some = parts[:min(len(parts), 2 + _law_take(box, 2))]
  obtain ⟨v, S2, e2, b2, v0, v1⟩ := ev_take b1.box (m := 2) (by omega) (by omega)
  obtain ⟨k, hk1, hk2, hk3, hk4⟩ : ∃ k : Nat, (if (2 : Int) + v < (qs.length : Nat) then 2 + v else ((qs.length : Nat) : Int)) = (k : Nat) ∧ 2 ≤ k ∧ k ≤ 3 ∧ k ≤ qs.length := by
    by_cases h : (2 : Int) + v < (qs.length : Nat)
    · exact ⟨(2 + v).toNat, by rw [if_pos h]; omega, by omega, by omega, by omega⟩
    · exact ⟨qs.length, by rw [if_neg h], by omega, by omega, by omega⟩
  have gs : ∀ q ∈ qs.take k, Good most q.1.1 q.1.2 q.2 := fun q hq => gq q (List.mem_of_mem_take hq)
  have hsl : (qs.take k).length = k := by rw [List.length_take]; omega
  have hW : ∀ q ∈ qs, q.1.2.length ≤ 6000 := fun q hq => by
    have h1 := (facts qs gq q hq).len
    have h2 := flat_mem_len hq
    have h3 : (qs.flatMap (·.2)).length = ns.length := by
      rw [← o.perm.length_eq]
      exact (pq.flatMap_right _).length_eq
    have h4 : most * q.2.length ≤ 100 * 60 := Nat.mul_le_mul hm2 (by omega)
    omega
  have hpos : ∀ q ∈ qs.take k, 0 < q.1.2.length := fun q hq => List.length_pos_iff.mpr (facts _ gs q hq).ne
  have hprod : ((qs.take k).map fun p => p.1.2.length).prod ≤ 1000000000000000 := by
    have key : ∀ (l : List (Pt × List Int)), (∀ q ∈ l, q.1.2.length ≤ 6000) → (l.map fun p => p.1.2.length).prod ≤ 6000 ^ l.length := by
      intro l
      induction l with
      | nil => intro _; simp
      | cons x l ih =>
        intro h
        rw [List.map_cons, List.prod_cons, List.length_cons, Nat.pow_succ, Nat.mul_comm]
        exact Nat.mul_le_mul (ih fun y hy => h y (List.mem_cons_of_mem _ hy)) (h x List.mem_cons_self)
    have h1 := key (qs.take k) fun q hq => hW q (List.mem_of_mem_take hq)
    rw [hsl] at h1
    have h2 : 6000 ^ k ≤ 6000 ^ 3 := Nat.pow_le_pow_right (by omega) hk3
    omega
  have ml := fun S => mul_loop (e0 := some (.ref n)) (e1 := some nm) (e2 := some (.int most)) (e3 := some (.lst (mkPs qs))) (e4 := tn) (e5 := some (.lst (mkPs (qs.take k)))) (e9 := none) (S := S) (qs.take k) 1 hpos (by omega) (by omega)
  generalize hmany : ((qs.take k).map fun p => p.1.2.length).prod = many at ml hprod
  -- the part made
  have hmade : ∀ S, (∃ g c, BoxAt S n g c) → ∃ t W S', madeD
      [some (.ref n), some nm, some (.int most), some (.lst (mkPs qs)), tn, some (.lst (mkPs (qs.take k))), some (.int ((1 * many : Nat) : Int)), none, none, none] S = .ok (mkP t W) S' ∧ Bx n S S' ∧ Good most t W ((qs.take k).flatMap (·.2)) := by
    intro S hb
    have hfl : ∀ q ∈ (qs.take k).map (·.1), ∀ v ∈ q.2, v.length ≤ 60 := fun q hq v hv => by
      obtain ⟨x, hx, rfl⟩ := List.mem_map.mp hq
      have h1 := (facts _ gs x hx).wlen v hv
      have h2 := flat_mem_len (List.mem_of_mem_take hx)
      have h3 : (qs.flatMap (·.2)).length = ns.length := by
        rw [← o.perm.length_eq]
        exact (pq.flatMap_right _).length_eq
      omega
    have hpu : ∀ p ∈ (qs.take k).map (·.1), pureD p.1 = true := fun p hp => by
      obtain ⟨x, hx, rfl⟩ := List.mem_map.mp hp
      exact (facts _ gs x hx).pu
    have hperm : ∀ ts : List D, ts.Perm (((qs.take k).map (·.1)).map (·.1)) → ts.Perm ((qs.take k).map fun p => p.1.1) := fun ts h => by rwa [List.map_map] at h
    have hside : ∀ S, (∃ g c, BoxAt S n g c) → ∃ t W S', F__law_side [.ref n, .lst (mkPs (qs.take k))] S = .ok (mkP t W) S' ∧ Bx n S S' ∧ Good most t W ((qs.take k).flatMap (·.2)) := fun S hb => by
      obtain ⟨ts, S', e, b, p⟩ := ev_side (ps := (qs.take k).map (·.1)) hb hpu (by rw [List.length_map, hsl]; omega) (by
        have h3 : ∀ l : List (Pt × List Int), (∀ q ∈ l, q.1.2.length ≤ 6000) → (sideW [] (l.map (·.1))).length ≤ 6000 * l.length := by
          intro l
          induction l with
          | nil => intro _; simp [sideW]
          | cons x l ih =>
            intro h
            have k1 := ih fun y hy => h y (List.mem_cons_of_mem _ hy)
            have k2 := h x List.mem_cons_self
            unfold sideW at k1 ⊢
            rw [List.nil_append] at k1 ⊢
            rw [List.map_cons, List.flatMap_cons, List.length_append, List.length_cons, Nat.mul_succ]
            omega
        have h4 := h3 (qs.take k) fun q hq => hW q (List.mem_of_mem_take hq)
        rw [hsl] at h4
        have h5 : 6000 * k ≤ 6000 * 3 := Nat.mul_le_mul_left _ hk3
        omega)
      rw [← mkPs_fst] at e
      exact ⟨_, _, S', e, b, .side gs (hperm ts p) (by omega)⟩
    by_cases hle : many ≤ most
    · have d1 : decide (((1 * many : Nat) : Int) ≤ (most : Int)) = true := decide_eq_true (by omega)
      obtain ⟨v2, S3, e3, b3, w0, w1⟩ := ev_take hb (m := 2) (by omega) (by omega)
      by_cases hv : v2 = 0
      · obtain ⟨ts, S', e, b, p⟩ := ev_row (ps := (qs.take k).map (·.1)) b3.box hpu (by rw [List.length_map, hsl]; omega) (fun ps1 p ps2 he => by
          have hfl1 : ∀ q ∈ ps1, ∀ v ∈ q.2, v.length ≤ 60 := fun q hq => hfl q (by rw [he]; exact List.mem_append_left _ hq)
          have hl1 : ps1.length ≤ 3 := by
            have := congrArg List.length he
            rw [List.length_map, hsl, List.length_append] at this
            omega
          have hp1 : ((ps1.map fun p => p.2.length).prod * p.2.length) * (ps2.map fun p => p.2.length).prod = many := by
            rw [← hmany]
            have : (qs.take k).map (fun p => p.1.2.length) = ((qs.take k).map (·.1)).map fun p => p.2.length := by rw [List.map_map]; rfl
            rw [this, he, List.map_append, List.map_cons, List.prod_append, List.prod_cons, Nat.mul_assoc]
          have hp2 : 0 < (ps2.map fun p => p.2.length).prod := prod_pos (fun p : Pt => p.2.length) ps2 fun x hx => by
            have hx' : x ∈ (qs.take k).map (·.1) := by rw [he]; exact List.mem_append_right _ (List.mem_cons_of_mem _ hx)
            obtain ⟨y, hy, rfl⟩ := List.mem_map.mp hx'
            exact hpos y hy
          refine ⟨?_, fun w hw u hu => ?_⟩
          · rw [rowW_len]
            have : (ps1.map fun p => p.2.length).prod * p.2.length ≤ many := by rw [← hp1]; exact Nat.le_mul_of_pos_right _ hp2
            simp only [List.length_cons, List.length_nil, Nat.zero_add, Nat.one_mul]
            exact Nat.lt_of_le_of_lt this (by omega)
          · have k1 := rowW_wlen hfl1 hw
            have k2 := hfl p (by rw [he]; exact List.mem_append_right _ List.mem_cons_self) u hu
            have k3 : 60 * ps1.length ≤ 60 * 3 := Nat.mul_le_mul_left _ hl1
            omega)
        rw [← mkPs_fst] at e
        refine ⟨_, _, S', ?_, b3.trans b, .row gs (hperm ts p) (by omega) (by rw [hmany]; exact hle)⟩
        simp -implicitDefEqProofs only [madeD, Dn.rbind_ok, Dn.rbind_bad, Dn.rbind_exc, Dn.obind_ok, Dn.obind_bad, Dn.nox_ok, Dn.dVar_zero, Dn.dVar_succ, Dn.dC_eq, Dn.dUn_eq, Dn.dBin_eq, Dn.dBl_eq, Dn.xOf_eq, Dn.xAnd_eq, Dn.xOr_eq, Dn.xNot_eq, Dn.xYes_eq, Dn.dAnd_eq, Dn.dOr_eq, Dn.dNot_eq, Dn.dIf_eq, Dn.aNil_eq, Dn.aCons_eq, Dn.dApp_eq, Dn.dTup_eq, Dn.dLst_eq, Dn.nLst_eq, Dn.dCall_eq, Dn.dChain_eq, Dn.sSet_eq, Dn.sRet_eq, Dn.sRetN_eq, Dn.sDrop_eq, Dn.sIf_eq, Dn.sNext_eq, Dn.sBrk_eq, Dn.sCnt_eq, Dn.sPar_eq, Dn.sPar3_eq, Dn.sAsg_eq, Dn.tset_nm, Dn.tset_tp, Dn.tsets_nil, Dn.tsets_cons, Dn.grd_none, Dn.wipeE_nil, Dn.wipeE_cons, Dn.gEq_int, Dn.gIsN_non, Dn.gIsN_int, Dn.gIsN_str, Dn.gIsN_tup, Dn.gIsN_bl, Dn.gIsN_ib, Dn.gIsN_nb, Dn.gIsN_sb, Dn.gIsN_tb, Dn.gAdd_int, Dn.gAugAdd_int, Dn.gSubI_int, Dn.gLt_int, Dn.gLe_int, Dn.gGt_int, Dn.gGe_int, Dn.gNeg_int, Dn.gAbs_int, Dn.gInt_int, Dn.gMax2_int, Dn.gMin2_int, Dn.asQ_tup, Dn.asQ_lst, Dn.asL_lst, Dn.gIdx_tup0, Dn.gIdx_tup1, Dn.gIdx_tup2, Dn.gLen_tup, Dn.gLen_lst, Dn.gLen_rol, Dn.gTuple_tup, Dn.gTuple_lst, Dn.gList_tup, Dn.gList_lst, Dn.sSetI_eq, Dn.dMtL_eq, Dn.iSeq_lst, Dn.iSeq_tup, Dn.sSeq_eq, Dn.startE, List.set_cons_zero, List.set_cons_succ, List.map_cons, List.map_nil, List.length_cons, List.length_nil, List.cons_append, List.nil_append, List.append_nil, List.replicate_succ, List.replicate_zero, if_true, if_false, ite_true, ite_false, Bool.false_eq_true, decide_true, decide_false, Nat.reduceSub, Nat.reduceAdd, Nat.reduceLeDiff, Bool.not_true, Bool.not_false, reduceIte, reduceCtorEq, Nat.zero_add, Nat.add_zero, d1, e3, hv, e]
      · obtain ⟨t, W, S', e, b, g⟩ := hside S3 b3.box
        refine ⟨t, W, S', ?_, b3.trans b, g⟩
        simp -implicitDefEqProofs only [madeD, Dn.rbind_ok, Dn.rbind_bad, Dn.rbind_exc, Dn.obind_ok, Dn.obind_bad, Dn.nox_ok, Dn.dVar_zero, Dn.dVar_succ, Dn.dC_eq, Dn.dUn_eq, Dn.dBin_eq, Dn.dBl_eq, Dn.xOf_eq, Dn.xAnd_eq, Dn.xOr_eq, Dn.xNot_eq, Dn.xYes_eq, Dn.dAnd_eq, Dn.dOr_eq, Dn.dNot_eq, Dn.dIf_eq, Dn.aNil_eq, Dn.aCons_eq, Dn.dApp_eq, Dn.dTup_eq, Dn.dLst_eq, Dn.nLst_eq, Dn.dCall_eq, Dn.dChain_eq, Dn.sSet_eq, Dn.sRet_eq, Dn.sRetN_eq, Dn.sDrop_eq, Dn.sIf_eq, Dn.sNext_eq, Dn.sBrk_eq, Dn.sCnt_eq, Dn.sPar_eq, Dn.sPar3_eq, Dn.sAsg_eq, Dn.tset_nm, Dn.tset_tp, Dn.tsets_nil, Dn.tsets_cons, Dn.grd_none, Dn.wipeE_nil, Dn.wipeE_cons, Dn.gEq_int, Dn.gIsN_non, Dn.gIsN_int, Dn.gIsN_str, Dn.gIsN_tup, Dn.gIsN_bl, Dn.gIsN_ib, Dn.gIsN_nb, Dn.gIsN_sb, Dn.gIsN_tb, Dn.gAdd_int, Dn.gAugAdd_int, Dn.gSubI_int, Dn.gLt_int, Dn.gLe_int, Dn.gGt_int, Dn.gGe_int, Dn.gNeg_int, Dn.gAbs_int, Dn.gInt_int, Dn.gMax2_int, Dn.gMin2_int, Dn.asQ_tup, Dn.asQ_lst, Dn.asL_lst, Dn.gIdx_tup0, Dn.gIdx_tup1, Dn.gIdx_tup2, Dn.gLen_tup, Dn.gLen_lst, Dn.gLen_rol, Dn.gTuple_tup, Dn.gTuple_lst, Dn.gList_tup, Dn.gList_lst, Dn.sSetI_eq, Dn.dMtL_eq, Dn.iSeq_lst, Dn.iSeq_tup, Dn.sSeq_eq, Dn.startE, List.set_cons_zero, List.set_cons_succ, List.map_cons, List.map_nil, List.length_cons, List.length_nil, List.cons_append, List.nil_append, List.append_nil, List.replicate_succ, List.replicate_zero, if_true, if_false, ite_true, ite_false, Bool.false_eq_true, decide_true, decide_false, Nat.reduceSub, Nat.reduceAdd, Nat.reduceLeDiff, Bool.not_true, Bool.not_false, reduceIte, reduceCtorEq, Nat.zero_add, Nat.add_zero, d1, e3, decide_eq_false hv, e]
    · have d1 : decide (((1 * many : Nat) : Int) ≤ (most : Int)) = false := decide_eq_false (by omega)
      obtain ⟨t, W, S', e, b, g⟩ := hside S hb
      refine ⟨t, W, S', ?_, b, g⟩
      simp -implicitDefEqProofs only [madeD, Dn.rbind_ok, Dn.rbind_bad, Dn.rbind_exc, Dn.obind_ok, Dn.obind_bad, Dn.nox_ok, Dn.dVar_zero, Dn.dVar_succ, Dn.dC_eq, Dn.dUn_eq, Dn.dBin_eq, Dn.dBl_eq, Dn.xOf_eq, Dn.xAnd_eq, Dn.xOr_eq, Dn.xNot_eq, Dn.xYes_eq, Dn.dAnd_eq, Dn.dOr_eq, Dn.dNot_eq, Dn.dIf_eq, Dn.aNil_eq, Dn.aCons_eq, Dn.dApp_eq, Dn.dTup_eq, Dn.dLst_eq, Dn.nLst_eq, Dn.dCall_eq, Dn.dChain_eq, Dn.sSet_eq, Dn.sRet_eq, Dn.sRetN_eq, Dn.sDrop_eq, Dn.sIf_eq, Dn.sNext_eq, Dn.sBrk_eq, Dn.sCnt_eq, Dn.sPar_eq, Dn.sPar3_eq, Dn.sAsg_eq, Dn.tset_nm, Dn.tset_tp, Dn.tsets_nil, Dn.tsets_cons, Dn.grd_none, Dn.wipeE_nil, Dn.wipeE_cons, Dn.gEq_int, Dn.gIsN_non, Dn.gIsN_int, Dn.gIsN_str, Dn.gIsN_tup, Dn.gIsN_bl, Dn.gIsN_ib, Dn.gIsN_nb, Dn.gIsN_sb, Dn.gIsN_tb, Dn.gAdd_int, Dn.gAugAdd_int, Dn.gSubI_int, Dn.gLt_int, Dn.gLe_int, Dn.gGt_int, Dn.gGe_int, Dn.gNeg_int, Dn.gAbs_int, Dn.gInt_int, Dn.gMax2_int, Dn.gMin2_int, Dn.asQ_tup, Dn.asQ_lst, Dn.asL_lst, Dn.gIdx_tup0, Dn.gIdx_tup1, Dn.gIdx_tup2, Dn.gLen_tup, Dn.gLen_lst, Dn.gLen_rol, Dn.gTuple_tup, Dn.gTuple_lst, Dn.gList_tup, Dn.gList_lst, Dn.sSetI_eq, Dn.dMtL_eq, Dn.iSeq_lst, Dn.iSeq_tup, Dn.sSeq_eq, Dn.startE, List.set_cons_zero, List.set_cons_succ, List.map_cons, List.map_nil, List.length_cons, List.length_nil, List.cons_append, List.nil_append, List.append_nil, List.replicate_succ, List.replicate_zero, if_true, if_false, ite_true, ite_false, Bool.false_eq_true, decide_true, decide_false, Nat.reduceSub, Nat.reduceAdd, Nat.reduceLeDiff, Bool.not_true, Bool.not_false, reduceIte, reduceCtorEq, Nat.zero_add, Nat.add_zero, d1, e]
  obtain ⟨t, W, S3, e3, b3, g3⟩ := hmade S2 b2.box
  have i1 : ∀ (e9 : Option D) (S : Store), iSeq (dVar 5) [some (.ref n), some nm, some (.int most), some (.lst (mkPs qs)), tn, some (.lst (mkPs (qs.take k))), some (.int 1), none, none, e9] S = .ok ⟨mkPs (qs.take k), none⟩ S := fun e9 S => iSeq_lst rfl
  have s1 : dSl (dVar 3) (oNone) (oSome (dApp gMin2 (aCons (dApp gLen (aCons (dVar 3) (aNil))) (aCons (dBin gAdd (dC (.int 2)) (dCall F__law_take [] (aCons (dVar 0) (aCons (dC (.int 2)) (aNil))))) (aNil)))))
      [some (.ref n), some nm, some (.int most), some (.lst (mkPs qs)), tn, none, none, none, none, none] S1 = .ok (.lst (mkPs (qs.take k))) S2 := by
    have h1 : (mkPs qs).length = qs.length := List.length_map _
    refine (sl_take (xs := mkPs qs) (k := k) (S1 := S1) (S2 := S2) rfl ?_).trans ?_
    · simp -implicitDefEqProofs only [Dn.rbind_ok, Dn.rbind_bad, Dn.rbind_exc, Dn.obind_ok, Dn.obind_bad, Dn.nox_ok, Dn.dVar_zero, Dn.dVar_succ, Dn.dC_eq, Dn.dUn_eq, Dn.dBin_eq, Dn.dBl_eq, Dn.xOf_eq, Dn.xAnd_eq, Dn.xOr_eq, Dn.xNot_eq, Dn.xYes_eq, Dn.dAnd_eq, Dn.dOr_eq, Dn.dNot_eq, Dn.dIf_eq, Dn.aNil_eq, Dn.aCons_eq, Dn.dApp_eq, Dn.dTup_eq, Dn.dLst_eq, Dn.nLst_eq, Dn.dCall_eq, Dn.dChain_eq, Dn.sSet_eq, Dn.sRet_eq, Dn.sRetN_eq, Dn.sDrop_eq, Dn.sIf_eq, Dn.sNext_eq, Dn.sBrk_eq, Dn.sCnt_eq, Dn.sPar_eq, Dn.sPar3_eq, Dn.sAsg_eq, Dn.tset_nm, Dn.tset_tp, Dn.tsets_nil, Dn.tsets_cons, Dn.grd_none, Dn.wipeE_nil, Dn.wipeE_cons, Dn.gEq_int, Dn.gIsN_non, Dn.gIsN_int, Dn.gIsN_str, Dn.gIsN_tup, Dn.gIsN_bl, Dn.gIsN_ib, Dn.gIsN_nb, Dn.gIsN_sb, Dn.gIsN_tb, Dn.gAdd_int, Dn.gAugAdd_int, Dn.gSubI_int, Dn.gLt_int, Dn.gLe_int, Dn.gGt_int, Dn.gGe_int, Dn.gNeg_int, Dn.gAbs_int, Dn.gInt_int, Dn.gMax2_int, Dn.gMin2_int, Dn.asQ_tup, Dn.asQ_lst, Dn.asL_lst, Dn.gIdx_tup0, Dn.gIdx_tup1, Dn.gIdx_tup2, Dn.gLen_tup, Dn.gLen_lst, Dn.gLen_rol, Dn.gTuple_tup, Dn.gTuple_lst, Dn.gList_tup, Dn.gList_lst, Dn.sSetI_eq, Dn.dMtL_eq, Dn.iSeq_lst, Dn.iSeq_tup, Dn.sSeq_eq, Dn.startE, List.set_cons_zero, List.set_cons_succ, List.map_cons, List.map_nil, List.length_cons, List.length_nil, List.cons_append, List.nil_append, List.append_nil, List.replicate_succ, List.replicate_zero, if_true, if_false, ite_true, ite_false, Bool.false_eq_true, decide_true, decide_false, Nat.reduceSub, Nat.reduceAdd, Nat.reduceLeDiff, Bool.not_true, Bool.not_false, reduceIte, reduceCtorEq, Nat.zero_add, Nat.add_zero, e2, h1, hk1]
    · unfold mkPs
      rw [List.map_take]
  have s2 : ∀ (e6 e9 : Option D), dSl (dVar 3) (oSome (dApp gLen (aCons (dVar 5) (aNil)))) (oNone) [some (.ref n), some nm, some (.int most), some (.lst (mkPs qs)), tn, some (.lst (mkPs (qs.take k))), e6, none, none, e9] S3 = .ok (.lst (mkPs (qs.drop k))) S3 := by
    intro e6 e9
    refine (sl_drop (xs := mkPs qs) (k := k) (S1 := S3) (S2 := S3) rfl ?_).trans ?_
    · have h1 : (mkPs (qs.take k)).length = k := by unfold mkPs; rw [List.length_map, hsl]
      simp -implicitDefEqProofs only [Dn.rbind_ok, Dn.rbind_bad, Dn.rbind_exc, Dn.obind_ok, Dn.obind_bad, Dn.nox_ok, Dn.dVar_zero, Dn.dVar_succ, Dn.dC_eq, Dn.dUn_eq, Dn.dBin_eq, Dn.dBl_eq, Dn.xOf_eq, Dn.xAnd_eq, Dn.xOr_eq, Dn.xNot_eq, Dn.xYes_eq, Dn.dAnd_eq, Dn.dOr_eq, Dn.dNot_eq, Dn.dIf_eq, Dn.aNil_eq, Dn.aCons_eq, Dn.dApp_eq, Dn.dTup_eq, Dn.dLst_eq, Dn.nLst_eq, Dn.dCall_eq, Dn.dChain_eq, Dn.sSet_eq, Dn.sRet_eq, Dn.sRetN_eq, Dn.sDrop_eq, Dn.sIf_eq, Dn.sNext_eq, Dn.sBrk_eq, Dn.sCnt_eq, Dn.sPar_eq, Dn.sPar3_eq, Dn.sAsg_eq, Dn.tset_nm, Dn.tset_tp, Dn.tsets_nil, Dn.tsets_cons, Dn.grd_none, Dn.wipeE_nil, Dn.wipeE_cons, Dn.gEq_int, Dn.gIsN_non, Dn.gIsN_int, Dn.gIsN_str, Dn.gIsN_tup, Dn.gIsN_bl, Dn.gIsN_ib, Dn.gIsN_nb, Dn.gIsN_sb, Dn.gIsN_tb, Dn.gAdd_int, Dn.gAugAdd_int, Dn.gSubI_int, Dn.gLt_int, Dn.gLe_int, Dn.gGt_int, Dn.gGe_int, Dn.gNeg_int, Dn.gAbs_int, Dn.gInt_int, Dn.gMax2_int, Dn.gMin2_int, Dn.asQ_tup, Dn.asQ_lst, Dn.asL_lst, Dn.gIdx_tup0, Dn.gIdx_tup1, Dn.gIdx_tup2, Dn.gLen_tup, Dn.gLen_lst, Dn.gLen_rol, Dn.gTuple_tup, Dn.gTuple_lst, Dn.gList_tup, Dn.gList_lst, Dn.sSetI_eq, Dn.dMtL_eq, Dn.iSeq_lst, Dn.iSeq_tup, Dn.sSeq_eq, Dn.startE, List.set_cons_zero, List.set_cons_succ, List.map_cons, List.map_nil, List.length_cons, List.length_nil, List.cons_append, List.nil_append, List.append_nil, List.replicate_succ, List.replicate_zero, if_true, if_false, ite_true, ite_false, Bool.false_eq_true, decide_true, decide_false, Nat.reduceSub, Nat.reduceAdd, Nat.reduceLeDiff, Bool.not_true, Bool.not_false, reduceIte, reduceCtorEq, Nat.zero_add, Nat.add_zero, h1]
    · unfold mkPs
      rw [List.map_drop]
  have z1 : (1 : Nat) ≤ sizeLine := small_line (by omega)
  have hadd : (mkPs (qs.drop k)).length + [mkP t W].length ≤ sizeLine := by
    unfold mkPs
    rw [List.length_map, List.length_drop, List.length_singleton]
    exact small_line (by omega)
  have hfin : mkPs (qs.drop k) ++ [mkP t W] = mkPs (qs.drop k ++ [((t, W), (qs.take k).flatMap (·.2))]) := by
    unfold mkPs
    rw [List.map_append]
    rfl
  refine ⟨qs.drop k ++ [((t, W), (qs.take k).flatMap (·.2))], S3, some (.lst (mkPs (qs.take k))), some (.int ((1 * many : Nat) : Int)), some (mkP t W), ?_, b1.trans (b2.trans b3), ⟨fun q hq => ?_, ?_⟩, ?_, ?_⟩
  · rw [← hfin]
    have ml' := ml S2
    have hone : (((1 : Nat) : Nat) : Int) = 1 := rfl
    rw [hone] at ml'
    have e1' : F__law_order [.ref n, .lst (mkPs ps)] S = .ok (.lst (mkPs qs)) S1 := e1
    have ml2 : forD (.tp [.nm 7, .nm 8]) [7, 8] (sSet 6 (dBin gMul (dVar 6) (dApp gLen (aCons (dVar 8) (aNil))))) none (mkPs (qs.take k)) [some (.ref n), some nm, some (.int most), some (.lst (mkPs qs)), tn, some (.lst (mkPs (qs.take k))), some (.int 1), none, none, none] S2 = _ := ml'
    simp -implicitDefEqProofs only [Dn.rbind_ok, Dn.rbind_bad, Dn.rbind_exc, Dn.obind_ok, Dn.obind_bad, Dn.nox_ok, Dn.dVar_zero, Dn.dVar_succ, Dn.dC_eq, Dn.dUn_eq, Dn.dBin_eq, Dn.dBl_eq, Dn.xOf_eq, Dn.xAnd_eq, Dn.xOr_eq, Dn.xNot_eq, Dn.xYes_eq, Dn.dAnd_eq, Dn.dOr_eq, Dn.dNot_eq, Dn.dIf_eq, Dn.aNil_eq, Dn.aCons_eq, Dn.dApp_eq, Dn.dTup_eq, Dn.dLst_eq, Dn.nLst_eq, Dn.dCall_eq, Dn.dChain_eq, Dn.sSet_eq, Dn.sRet_eq, Dn.sRetN_eq, Dn.sDrop_eq, Dn.sIf_eq, Dn.sNext_eq, Dn.sBrk_eq, Dn.sCnt_eq, Dn.sPar_eq, Dn.sPar3_eq, Dn.sAsg_eq, Dn.tset_nm, Dn.tset_tp, Dn.tsets_nil, Dn.tsets_cons, Dn.grd_none, Dn.wipeE_nil, Dn.wipeE_cons, Dn.gEq_int, Dn.gIsN_non, Dn.gIsN_int, Dn.gIsN_str, Dn.gIsN_tup, Dn.gIsN_bl, Dn.gIsN_ib, Dn.gIsN_nb, Dn.gIsN_sb, Dn.gIsN_tb, Dn.gAdd_int, Dn.gAugAdd_int, Dn.gSubI_int, Dn.gLt_int, Dn.gLe_int, Dn.gGt_int, Dn.gGe_int, Dn.gNeg_int, Dn.gAbs_int, Dn.gInt_int, Dn.gMax2_int, Dn.gMin2_int, Dn.asQ_tup, Dn.asQ_lst, Dn.asL_lst, Dn.gIdx_tup0, Dn.gIdx_tup1, Dn.gIdx_tup2, Dn.gLen_tup, Dn.gLen_lst, Dn.gLen_rol, Dn.gTuple_tup, Dn.gTuple_lst, Dn.gList_tup, Dn.gList_lst, Dn.sSetI_eq, Dn.dMtL_eq, Dn.iSeq_lst, Dn.iSeq_tup, Dn.sSeq_eq, Dn.startE, List.set_cons_zero, List.set_cons_succ, List.map_cons, List.map_nil, List.length_cons, List.length_nil, List.cons_append, List.nil_append, List.append_nil, List.replicate_succ, List.replicate_zero, if_true, if_false, ite_true, ite_false, Bool.false_eq_true, decide_true, decide_false, Nat.reduceSub, Nat.reduceAdd, Nat.reduceLeDiff, Bool.not_true, Bool.not_false, reduceIte, reduceCtorEq, Nat.zero_add, Nat.add_zero, e1', s1, i1, sFor_eq, ml2, e3, s2, z1, gAdd_lst hadd]
  · rcases List.mem_append.mp hq with hq | hq
    · exact gq q (List.mem_of_mem_drop hq)
    · have : q = ((t, W), (qs.take k).flatMap (·.2)) := by simpa using hq
      rw [this]
      exact g3
  · rw [List.flatMap_append]
    refine List.Perm.trans ?_ ((pq.flatMap_right (·.2)).trans o.perm)
    have : qs.flatMap (·.2) = (qs.take k).flatMap (·.2) ++ (qs.drop k).flatMap (·.2) := by rw [← List.flatMap_append, List.take_append_drop]
    rw [this]
    have h2 : [(((t, W) : Pt), (qs.take k).flatMap (·.2))].flatMap (·.2) = (qs.take k).flatMap (·.2) := by simp
    rw [h2]
    exact List.perm_append_comm
  · rw [List.length_append, List.length_drop, List.length_singleton]
    omega
  · simp
end Cm

set_option maxHeartbeats 1000000
namespace Cm
open PySem PySem.Spec PyProof.Rows L2 Dn
theorem once_start (most : Nat) (ns : List Int) : Once most ns (ns.map fun i => (((.int i, [[i]]) : Pt), [i])) := by
  refine ⟨fun p hp => ?_, ?_⟩
  · obtain ⟨i, _, rfl⟩ := List.mem_map.mp hp
    exact .leaf i
  · rw [List.flatMap_map]
    have : (ns.flatMap fun a => [a]) = ns := by induction ns with
      | nil => rfl
      | cons i ns ih => rw [List.flatMap_cons, ih]; rfl
    exact .of_eq this
theorem ev_once {n most : Nat} {ns : List Int} {S : List O} (hm : 1 ≤ most) (hm2 : most ≤ 100) (hn : ns.length ≤ 60) (hn1 : ns ≠ []) (hb : ∃ g c, BoxAt S n g c) :
    ∃ t W ls S', F__law_once [.ref n, .lst (ns.map D.int), .int most] S = .ok (mkP t W) S' ∧ Bx n S S' ∧ Good most t W ls ∧ ls.Perm ns := by
  have i1 : ∀ (ρ : Dn.Env) (S : Store), iRange1 (dC (.int 60)) ρ S = .ok ⟨rangeL 0 60, none⟩ S := fun ρ S => iRange1_of (k := 60) rfl (by omega)
  have lenR : (rangeL 0 60).length = 60 := by unfold rangeL; rw [List.length_map, List.length_range]
  obtain ⟨ρ', S', e, p, hρ, hB, hO⟩ := forD_brk (t := .nm 4) (dead := [4, 5, 6, 7, 8, 9])
    (body := sSeq (sIf (xOf (dBin (gEq false) (dApp gLen (aCons (dVar 3) (aNil))) (dC (.int 1)))) (sBrk) (sNext)) (sSeq (sSet 3 (dCall F__law_order [] (aCons (dVar 0) (aCons (dVar 3) (aNil))))) (sSeq (sSet 5 (dSl (dVar 3) (oNone) (oSome (dApp gMin2 (aCons (dApp gLen (aCons (dVar 3) (aNil))) (aCons (dBin gAdd (dC (.int 2)) (dCall F__law_take [] (aCons (dVar 0) (aCons (dC (.int 2)) (aNil))))) (aNil))))))) (sSeq (sSet 6 (dC (.int 1))) (sSeq (sFor (iSeq (dVar 5)) (.tp [.nm 7, .nm 8]) [7, 8] (sSet 6 (dBin gMul (dVar 6) (dApp gLen (aCons (dVar 8) (aNil)))))) (sSeq (sSet 9 madeD) (sSet 3 (dBin gAdd (dSl (dVar 3) (oSome (dApp gLen (aCons (dVar 5) (aNil)))) (oNone)) (dLst (aCons (dVar 9) (aNil)))))))))))
    (fun done ρ S' => ∃ ps, ρ = [some (.ref n), some (.lst (ns.map D.int)), some (.int most), some (.lst (mkPs ps)), none, none, none, none, none, none] ∧ Bx n S S' ∧ Once most ns ps ∧ ps ≠ [] ∧ ps.length + done.length ≤ ns.length)
    (fun ρ S' => ∃ p, ρ = [some (.ref n), some (.lst (ns.map D.int)), some (.int most), some (.lst (mkPs [p])), none, none, none, none, none, none] ∧ Bx n S S' ∧ Once most ns [p])
    (rangeL 0 60) [] [some (.ref n), some (.lst (ns.map D.int)), some (.int most), some (.lst (mkPs (ns.map fun i => (((.int i, [[i]]) : Pt), [i])))), none, none, none, none, none, none] S
    ⟨_, rfl, .refl hb, once_start most ns, by simpa using hn1, by simp⟩ (by
      rintro d x r ρ S1 ⟨ps, rfl, hB, hO, hne, hlen⟩ he
      have hl : (mkPs ps).length = ps.length := List.length_map _
      by_cases h1 : ps.length = 1
      · obtain ⟨p, rfl⟩ : ∃ p, ps = [p] := by
          cases ps with
          | nil => simp at h1
          | cons p ps => cases ps with
            | nil => exact ⟨p, rfl⟩
            | cons _ _ => simp at h1
        refine ⟨_, [some (.ref n), some (.lst (ns.map D.int)), some (.int most), some (.lst (mkPs [p])), some x, none, none, none, none, none], S1, tset_nm, .inr ⟨?_, p, rfl, hB, hO⟩⟩
        have d1 : decide ((((mkPs [p]).length : Nat) : Int) = 1) = true := decide_eq_true (by rw [hl]; rfl)
        simp -implicitDefEqProofs only [Dn.rbind_ok, Dn.rbind_bad, Dn.rbind_exc, Dn.obind_ok, Dn.obind_bad, Dn.nox_ok, Dn.dVar_zero, Dn.dVar_succ, Dn.dC_eq, Dn.dUn_eq, Dn.dBin_eq, Dn.dBl_eq, Dn.xOf_eq, Dn.xAnd_eq, Dn.xOr_eq, Dn.xNot_eq, Dn.xYes_eq, Dn.dAnd_eq, Dn.dOr_eq, Dn.dNot_eq, Dn.dIf_eq, Dn.aNil_eq, Dn.aCons_eq, Dn.dApp_eq, Dn.dTup_eq, Dn.dLst_eq, Dn.nLst_eq, Dn.dCall_eq, Dn.dChain_eq, Dn.sSet_eq, Dn.sRet_eq, Dn.sRetN_eq, Dn.sDrop_eq, Dn.sIf_eq, Dn.sNext_eq, Dn.sBrk_eq, Dn.sCnt_eq, Dn.sPar_eq, Dn.sPar3_eq, Dn.sAsg_eq, Dn.tset_nm, Dn.tset_tp, Dn.tsets_nil, Dn.tsets_cons, Dn.grd_none, Dn.wipeE_nil, Dn.wipeE_cons, Dn.gEq_int, Dn.gIsN_non, Dn.gIsN_int, Dn.gIsN_str, Dn.gIsN_tup, Dn.gIsN_bl, Dn.gIsN_ib, Dn.gIsN_nb, Dn.gIsN_sb, Dn.gIsN_tb, Dn.gAdd_int, Dn.gAugAdd_int, Dn.gSubI_int, Dn.gLt_int, Dn.gLe_int, Dn.gGt_int, Dn.gGe_int, Dn.gNeg_int, Dn.gAbs_int, Dn.gInt_int, Dn.gMax2_int, Dn.gMin2_int, Dn.asQ_tup, Dn.asQ_lst, Dn.asL_lst, Dn.gIdx_tup0, Dn.gIdx_tup1, Dn.gIdx_tup2, Dn.gLen_tup, Dn.gLen_lst, Dn.gLen_rol, Dn.gTuple_tup, Dn.gTuple_lst, Dn.gList_tup, Dn.gList_lst, Dn.sSetI_eq, Dn.dMtL_eq, Dn.iSeq_lst, Dn.iSeq_tup, Dn.sSeq_eq, Dn.startE, List.set_cons_zero, List.set_cons_succ, List.map_cons, List.map_nil, List.length_cons, List.length_nil, List.cons_append, List.nil_append, List.append_nil, List.replicate_succ, List.replicate_zero, if_true, if_false, ite_true, ite_false, Bool.false_eq_true, decide_true, decide_false, Nat.reduceSub, Nat.reduceAdd, Nat.reduceLeDiff, Bool.not_true, Bool.not_false, reduceIte, reduceCtorEq, Nat.zero_add, Nat.add_zero, d1]
      · have h2 : 2 ≤ ps.length := by
          have := List.length_pos_iff.mpr hne
          omega
        obtain ⟨ps', S2, a5, a6, a9, e2, b2, o2, l2, n2⟩ := once_turn (nm := .lst (ns.map D.int)) (tn := some x) hm hm2 hn hB.box hO h2 (by omega)
        refine ⟨_, [some (.ref n), some (.lst (ns.map D.int)), some (.int most), some (.lst (mkPs ps')), some x, a5, a6, none, none, a9], S2, tset_nm, .inl ⟨?_, ps', rfl, hB.trans b2, o2, n2, by rw [List.length_append, List.length_singleton]; omega⟩⟩
        have d1 : decide ((((mkPs ps).length : Nat) : Int) = 1) = false := decide_eq_false (by rw [hl]; omega)
        rw [← e2]
        rw [sSeq_eq]
        have e3 : sIf (xOf (dBin (gEq false) (dApp gLen (aCons (dVar 3) (aNil))) (dC (.int 1)))) (sBrk) (sNext) [some (.ref n), some (.lst (ns.map D.int)), some (.int most), some (.lst (mkPs ps)), some x, none, none, none, none, none] S1 = .nx [some (.ref n), some (.lst (ns.map D.int)), some (.int most), some (.lst (mkPs ps)), some x, none, none, none, none, none] S1 := by
          simp -implicitDefEqProofs only [Dn.rbind_ok, Dn.rbind_bad, Dn.rbind_exc, Dn.obind_ok, Dn.obind_bad, Dn.nox_ok, Dn.dVar_zero, Dn.dVar_succ, Dn.dC_eq, Dn.dUn_eq, Dn.dBin_eq, Dn.dBl_eq, Dn.xOf_eq, Dn.xAnd_eq, Dn.xOr_eq, Dn.xNot_eq, Dn.xYes_eq, Dn.dAnd_eq, Dn.dOr_eq, Dn.dNot_eq, Dn.dIf_eq, Dn.aNil_eq, Dn.aCons_eq, Dn.dApp_eq, Dn.dTup_eq, Dn.dLst_eq, Dn.nLst_eq, Dn.dCall_eq, Dn.dChain_eq, Dn.sSet_eq, Dn.sRet_eq, Dn.sRetN_eq, Dn.sDrop_eq, Dn.sIf_eq, Dn.sNext_eq, Dn.sBrk_eq, Dn.sCnt_eq, Dn.sPar_eq, Dn.sPar3_eq, Dn.sAsg_eq, Dn.tset_nm, Dn.tset_tp, Dn.tsets_nil, Dn.tsets_cons, Dn.grd_none, Dn.wipeE_nil, Dn.wipeE_cons, Dn.gEq_int, Dn.gIsN_non, Dn.gIsN_int, Dn.gIsN_str, Dn.gIsN_tup, Dn.gIsN_bl, Dn.gIsN_ib, Dn.gIsN_nb, Dn.gIsN_sb, Dn.gIsN_tb, Dn.gAdd_int, Dn.gAugAdd_int, Dn.gSubI_int, Dn.gLt_int, Dn.gLe_int, Dn.gGt_int, Dn.gGe_int, Dn.gNeg_int, Dn.gAbs_int, Dn.gInt_int, Dn.gMax2_int, Dn.gMin2_int, Dn.asQ_tup, Dn.asQ_lst, Dn.asL_lst, Dn.gIdx_tup0, Dn.gIdx_tup1, Dn.gIdx_tup2, Dn.gLen_tup, Dn.gLen_lst, Dn.gLen_rol, Dn.gTuple_tup, Dn.gTuple_lst, Dn.gList_tup, Dn.gList_lst, Dn.sSetI_eq, Dn.dMtL_eq, Dn.iSeq_lst, Dn.iSeq_tup, Dn.sSeq_eq, Dn.startE, List.set_cons_zero, List.set_cons_succ, List.map_cons, List.map_nil, List.length_cons, List.length_nil, List.cons_append, List.nil_append, List.append_nil, List.replicate_succ, List.replicate_zero, if_true, if_false, ite_true, ite_false, Bool.false_eq_true, decide_true, decide_false, Nat.reduceSub, Nat.reduceAdd, Nat.reduceLeDiff, Bool.not_true, Bool.not_false, reduceIte, reduceCtorEq, Nat.zero_add, Nat.add_zero, d1]
        have e4 : ([some (.ref n), some (.lst (ns.map D.int)), some (.int most), some (.lst (mkPs ps)), none, none, none, none, none, none] : Dn.Env).set 4 (some x) = [some (.ref n), some (.lst (ns.map D.int)), some (.int most), some (.lst (mkPs ps)), some x, none, none, none, none, none] := rfl
        rw [e4, e3])
    (by
      rintro ρ S1 ⟨ps, rfl, hB, hO, hne, hlen⟩
      rw [List.nil_append, lenR] at hlen
      have := List.length_pos_iff.mpr hne
      omega)
  subst hρ
  have g := hO.good p (by simp)
  have hp : p.2.Perm ns := by have := hO.perm; simpa using this
  refine ⟨p.1.1, p.1.2, p.2, S', def_box (n := n) rfl ?_ hB ?_, hB, g, hp⟩
  · have e0 : F__law_things [.lst (ns.map D.int)] S = .ok (.lst (mkPs (ns.map fun i => (((.int i, [[i]]) : Pt), [i])))) S := by
      rw [ev_things]
      unfold mkPs
      rw [List.map_map]
      rfl
    have hbody : B__law_once = sSeq (sSet 3 (dCall F__law_things [] (aCons (dVar 1) (aNil)))) (sSeq (sFor (iRange1 (dC (.int 60))) (.nm 4) [4, 5, 6, 7, 8, 9] (sSeq (sIf (xOf (dBin (gEq false) (dApp gLen (aCons (dVar 3) (aNil))) (dC (.int 1)))) (sBrk) (sNext)) (sSeq (sSet 3 (dCall F__law_order [] (aCons (dVar 0) (aCons (dVar 3) (aNil))))) (sSeq (sSet 5 (dSl (dVar 3) (oNone) (oSome (dApp gMin2 (aCons (dApp gLen (aCons (dVar 3) (aNil))) (aCons (dBin gAdd (dC (.int 2)) (dCall F__law_take [] (aCons (dVar 0) (aCons (dC (.int 2)) (aNil))))) (aNil))))))) (sSeq (sSet 6 (dC (.int 1))) (sSeq (sFor (iSeq (dVar 5)) (.tp [.nm 7, .nm 8]) [7, 8] (sSet 6 (dBin gMul (dVar 6) (dApp gLen (aCons (dVar 8) (aNil)))))) (sSeq (sSet 9 madeD) (sSet 3 (dBin gAdd (dSl (dVar 3) (oSome (dApp gLen (aCons (dVar 5) (aNil)))) (oNone)) (dLst (aCons (dVar 9) (aNil))))))))))) ) (sRet (dBin gIdx (dVar 3) (dC (.int 0))))) := rfl
    have g0 : gIdx (.lst (mkPs [p])) (.int 0) S' = .ok (mkP p.1.1 p.1.2) S' := gIdx_of (k := 0) rfl rfl
    have st : startE 10 [.ref n, .lst (ns.map D.int), .int most] = [some (.ref n), some (.lst (ns.map D.int)), some (.int most), none, none, none, none, none, none, none] := rfl
    rw [hbody, st, sSeq_eq]
    have e5 : sSet 3 (dCall F__law_things [] (aCons (dVar 1) (aNil))) [some (.ref n), some (.lst (ns.map D.int)), some (.int most), none, none, none, none, none, none, none] S = .nx [some (.ref n), some (.lst (ns.map D.int)), some (.int most), some (.lst (mkPs (ns.map fun i => (((.int i, [[i]]) : Pt), [i])))), none, none, none, none, none, none] S := by
      simp -implicitDefEqProofs only [Dn.rbind_ok, Dn.rbind_bad, Dn.rbind_exc, Dn.obind_ok, Dn.obind_bad, Dn.nox_ok, Dn.dVar_zero, Dn.dVar_succ, Dn.dC_eq, Dn.dUn_eq, Dn.dBin_eq, Dn.dBl_eq, Dn.xOf_eq, Dn.xAnd_eq, Dn.xOr_eq, Dn.xNot_eq, Dn.xYes_eq, Dn.dAnd_eq, Dn.dOr_eq, Dn.dNot_eq, Dn.dIf_eq, Dn.aNil_eq, Dn.aCons_eq, Dn.dApp_eq, Dn.dTup_eq, Dn.dLst_eq, Dn.nLst_eq, Dn.dCall_eq, Dn.dChain_eq, Dn.sSet_eq, Dn.sRet_eq, Dn.sRetN_eq, Dn.sDrop_eq, Dn.sIf_eq, Dn.sNext_eq, Dn.sBrk_eq, Dn.sCnt_eq, Dn.sPar_eq, Dn.sPar3_eq, Dn.sAsg_eq, Dn.tset_nm, Dn.tset_tp, Dn.tsets_nil, Dn.tsets_cons, Dn.grd_none, Dn.wipeE_nil, Dn.wipeE_cons, Dn.gEq_int, Dn.gIsN_non, Dn.gIsN_int, Dn.gIsN_str, Dn.gIsN_tup, Dn.gIsN_bl, Dn.gIsN_ib, Dn.gIsN_nb, Dn.gIsN_sb, Dn.gIsN_tb, Dn.gAdd_int, Dn.gAugAdd_int, Dn.gSubI_int, Dn.gLt_int, Dn.gLe_int, Dn.gGt_int, Dn.gGe_int, Dn.gNeg_int, Dn.gAbs_int, Dn.gInt_int, Dn.gMax2_int, Dn.gMin2_int, Dn.asQ_tup, Dn.asQ_lst, Dn.asL_lst, Dn.gIdx_tup0, Dn.gIdx_tup1, Dn.gIdx_tup2, Dn.gLen_tup, Dn.gLen_lst, Dn.gLen_rol, Dn.gTuple_tup, Dn.gTuple_lst, Dn.gList_tup, Dn.gList_lst, Dn.sSetI_eq, Dn.dMtL_eq, Dn.iSeq_lst, Dn.iSeq_tup, Dn.sSeq_eq, Dn.startE, List.set_cons_zero, List.set_cons_succ, List.map_cons, List.map_nil, List.length_cons, List.length_nil, List.cons_append, List.nil_append, List.append_nil, List.replicate_succ, List.replicate_zero, if_true, if_false, ite_true, ite_false, Bool.false_eq_true, decide_true, decide_false, Nat.reduceSub, Nat.reduceAdd, Nat.reduceLeDiff, Bool.not_true, Bool.not_false, reduceIte, reduceCtorEq, Nat.zero_add, Nat.add_zero, e0]
    rw [e5]
    simp only
    rw [sSeq_eq, sFor_eq, i1, obind_ok, e]
    simp -implicitDefEqProofs only [Dn.rbind_ok, Dn.rbind_bad, Dn.rbind_exc, Dn.obind_ok, Dn.obind_bad, Dn.nox_ok, Dn.dVar_zero, Dn.dVar_succ, Dn.dC_eq, Dn.dUn_eq, Dn.dBin_eq, Dn.dBl_eq, Dn.xOf_eq, Dn.xAnd_eq, Dn.xOr_eq, Dn.xNot_eq, Dn.xYes_eq, Dn.dAnd_eq, Dn.dOr_eq, Dn.dNot_eq, Dn.dIf_eq, Dn.aNil_eq, Dn.aCons_eq, Dn.dApp_eq, Dn.dTup_eq, Dn.dLst_eq, Dn.nLst_eq, Dn.dCall_eq, Dn.dChain_eq, Dn.sSet_eq, Dn.sRet_eq, Dn.sRetN_eq, Dn.sDrop_eq, Dn.sIf_eq, Dn.sNext_eq, Dn.sBrk_eq, Dn.sCnt_eq, Dn.sPar_eq, Dn.sPar3_eq, Dn.sAsg_eq, Dn.tset_nm, Dn.tset_tp, Dn.tsets_nil, Dn.tsets_cons, Dn.grd_none, Dn.wipeE_nil, Dn.wipeE_cons, Dn.gEq_int, Dn.gIsN_non, Dn.gIsN_int, Dn.gIsN_str, Dn.gIsN_tup, Dn.gIsN_bl, Dn.gIsN_ib, Dn.gIsN_nb, Dn.gIsN_sb, Dn.gIsN_tb, Dn.gAdd_int, Dn.gAugAdd_int, Dn.gSubI_int, Dn.gLt_int, Dn.gLe_int, Dn.gGt_int, Dn.gGe_int, Dn.gNeg_int, Dn.gAbs_int, Dn.gInt_int, Dn.gMax2_int, Dn.gMin2_int, Dn.asQ_tup, Dn.asQ_lst, Dn.asL_lst, Dn.gIdx_tup0, Dn.gIdx_tup1, Dn.gIdx_tup2, Dn.gLen_tup, Dn.gLen_lst, Dn.gLen_rol, Dn.gTuple_tup, Dn.gTuple_lst, Dn.gList_tup, Dn.gList_lst, Dn.sSetI_eq, Dn.dMtL_eq, Dn.iSeq_lst, Dn.iSeq_tup, Dn.sSeq_eq, Dn.startE, List.set_cons_zero, List.set_cons_succ, List.map_cons, List.map_nil, List.length_cons, List.length_nil, List.cons_append, List.nil_append, List.append_nil, List.replicate_succ, List.replicate_zero, if_true, if_false, ite_true, ite_false, Bool.false_eq_true, decide_true, decide_false, Nat.reduceSub, Nat.reduceAdd, Nat.reduceLeDiff, Bool.not_true, Bool.not_false, reduceIte, reduceCtorEq, Nat.zero_add, Nat.add_zero, g0]
  · have f := g.facts hm
    exact low_pure _ _ (by simp [mkP, pureD, pureDs, f.pu, pure_mkTs])
end Cm

set_option maxHeartbeats 1000000
namespace Cm
open PySem PySem.Spec PyProof.Rows L2 Dn
theorem mul_lt400 {a b : Nat} (ha : a < 2 ^ 400) (hb : b < 2 ^ 400) : a * b < 2 ^ 800 := by
  rw [show (800 : Nat) = 400 + 400 from rfl, Nat.pow_add]
  exact Nat.mul_lt_mul_of_lt_of_lt ha hb
theorem gDiv_big {i j : Int} {S : Store} (h : 0 < j) (h2 : j.natAbs < 2 ^ 8000) : gDiv (.int i) (.int j) S = .ok (.int (i / j)) S := by
  show (if decide (0 < j ∧ j.natAbs.log2 < 9000) = true then _ else _) = _
  rw [if_pos (decide_eq_true ⟨h, log2_small h2⟩)]
theorem gMul_400 {i j : Int} {S : Store} (h1 : i.natAbs < 2 ^ 400) (h2 : j.natAbs < 2 ^ 400) : gMul (.int i) (.int j) S = .ok (.int (i * j)) S := gMul_bits (a := 400) (b := 400) h1 h2 (by omega)
theorem lt_400 {n : Nat} (h : n < 4294967296) : n < 2 ^ 400 := Nat.lt_of_lt_of_le h (show 2 ^ 32 ≤ 2 ^ 400 from Nat.pow_le_pow_right (by omega) (by omega))
theorem lt_8000 {n : Nat} (h : n < 2 ^ 900) : n < 2 ^ 8000 := Nat.lt_of_lt_of_le h (Nat.pow_le_pow_right (by omega) (by omega))
theorem lt_900 {n : Nat} (h : n < 2 ^ 800) : n < 2 ^ 900 := Nat.lt_of_lt_of_le h (Nat.pow_le_pow_right (by omega) (by omega))
/-! ### fractions -/
def fr (q : Rat) : D := .tup [.int q.num, .int (q.den : Nat)]
theorem gcd_loop : ∀ (n : Nat) (a b : Int) (S : Store), 0 ≤ b → b.toNat < n →
    ∃ g, whileN (xOf (dBin (gEq true) (dVar 1) (dC (.int 0)))) [] (sPar 0 1 (dVar 1) (dBin gMod (dVar 0) (dVar 1))) n [some (.int a), some (.int b)] S = .nx [some (.int g), some (.int 0)] S ∧ g.natAbs = Int.gcd a b
  | 0, a, b, S, hb, h => by omega
  | n + 1, a, b, S, hb, h => by
    rw [whileN_succ]
    by_cases h0 : b = 0
    · subst h0
      refine ⟨a, ?_, by simp⟩
      simp -implicitDefEqProofs only [Dn.rbind_ok, Dn.rbind_bad, Dn.rbind_exc, Dn.obind_ok, Dn.obind_bad, Dn.nox_ok, Dn.dVar_zero, Dn.dVar_succ, Dn.dC_eq, Dn.dUn_eq, Dn.dBin_eq, Dn.dBl_eq, Dn.xOf_eq, Dn.xAnd_eq, Dn.xOr_eq, Dn.xNot_eq, Dn.xYes_eq, Dn.dAnd_eq, Dn.dOr_eq, Dn.dNot_eq, Dn.dIf_eq, Dn.aNil_eq, Dn.aCons_eq, Dn.dApp_eq, Dn.dTup_eq, Dn.dLst_eq, Dn.nLst_eq, Dn.dCall_eq, Dn.dChain_eq, Dn.sSet_eq, Dn.sRet_eq, Dn.sRetN_eq, Dn.sDrop_eq, Dn.sIf_eq, Dn.sNext_eq, Dn.sBrk_eq, Dn.sCnt_eq, Dn.sPar_eq, Dn.sPar3_eq, Dn.sAsg_eq, Dn.tset_nm, Dn.tset_tp, Dn.tsets_nil, Dn.tsets_cons, Dn.grd_none, Dn.wipeE_nil, Dn.wipeE_cons, Dn.gEq_int, Dn.gIsN_non, Dn.gIsN_int, Dn.gIsN_str, Dn.gIsN_tup, Dn.gIsN_bl, Dn.gIsN_ib, Dn.gIsN_nb, Dn.gIsN_sb, Dn.gIsN_tb, Dn.gAdd_int, Dn.gAugAdd_int, Dn.gSubI_int, Dn.gLt_int, Dn.gLe_int, Dn.gGt_int, Dn.gGe_int, Dn.gNeg_int, Dn.gAbs_int, Dn.gInt_int, Dn.gMax2_int, Dn.gMin2_int, Dn.asQ_tup, Dn.asQ_lst, Dn.asL_lst, Dn.gIdx_tup0, Dn.gIdx_tup1, Dn.gIdx_tup2, Dn.gLen_tup, Dn.gLen_lst, Dn.gLen_rol, Dn.gTuple_tup, Dn.gTuple_lst, Dn.gList_tup, Dn.gList_lst, Dn.sSetI_eq, Dn.dMtL_eq, Dn.iSeq_lst, Dn.iSeq_tup, Dn.sSeq_eq, Dn.startE, List.set_cons_zero, List.set_cons_succ, List.map_cons, List.map_nil, List.length_cons, List.length_nil, List.cons_append, List.nil_append, List.append_nil, List.replicate_succ, List.replicate_zero, if_true, if_false, ite_true, ite_false, Bool.false_eq_true, decide_true, decide_false, Nat.reduceSub, Nat.reduceAdd, Nat.reduceLeDiff, Bool.not_true, Bool.not_false, reduceIte, reduceCtorEq, Nat.zero_add, Nat.add_zero]
    · have hp : 0 < b := by omega
      have m0 := Int.emod_nonneg a h0
      have m1 := Int.emod_lt_of_pos a hp
      obtain ⟨g, e, hg⟩ := gcd_loop n b (a % b) S m0 (by omega)
      refine ⟨g, ?_, ?_⟩
      · simp -implicitDefEqProofs only [Dn.rbind_ok, Dn.rbind_bad, Dn.rbind_exc, Dn.obind_ok, Dn.obind_bad, Dn.nox_ok, Dn.dVar_zero, Dn.dVar_succ, Dn.dC_eq, Dn.dUn_eq, Dn.dBin_eq, Dn.dBl_eq, Dn.xOf_eq, Dn.xAnd_eq, Dn.xOr_eq, Dn.xNot_eq, Dn.xYes_eq, Dn.dAnd_eq, Dn.dOr_eq, Dn.dNot_eq, Dn.dIf_eq, Dn.aNil_eq, Dn.aCons_eq, Dn.dApp_eq, Dn.dTup_eq, Dn.dLst_eq, Dn.nLst_eq, Dn.dCall_eq, Dn.dChain_eq, Dn.sSet_eq, Dn.sRet_eq, Dn.sRetN_eq, Dn.sDrop_eq, Dn.sIf_eq, Dn.sNext_eq, Dn.sBrk_eq, Dn.sCnt_eq, Dn.sPar_eq, Dn.sPar3_eq, Dn.sAsg_eq, Dn.tset_nm, Dn.tset_tp, Dn.tsets_nil, Dn.tsets_cons, Dn.grd_none, Dn.wipeE_nil, Dn.wipeE_cons, Dn.gEq_int, Dn.gIsN_non, Dn.gIsN_int, Dn.gIsN_str, Dn.gIsN_tup, Dn.gIsN_bl, Dn.gIsN_ib, Dn.gIsN_nb, Dn.gIsN_sb, Dn.gIsN_tb, Dn.gAdd_int, Dn.gAugAdd_int, Dn.gSubI_int, Dn.gLt_int, Dn.gLe_int, Dn.gGt_int, Dn.gGe_int, Dn.gNeg_int, Dn.gAbs_int, Dn.gInt_int, Dn.gMax2_int, Dn.gMin2_int, Dn.asQ_tup, Dn.asQ_lst, Dn.asL_lst, Dn.gIdx_tup0, Dn.gIdx_tup1, Dn.gIdx_tup2, Dn.gLen_tup, Dn.gLen_lst, Dn.gLen_rol, Dn.gTuple_tup, Dn.gTuple_lst, Dn.gList_tup, Dn.gList_lst, Dn.sSetI_eq, Dn.dMtL_eq, Dn.iSeq_lst, Dn.iSeq_tup, Dn.sSeq_eq, Dn.startE, List.set_cons_zero, List.set_cons_succ, List.map_cons, List.map_nil, List.length_cons, List.length_nil, List.cons_append, List.nil_append, List.append_nil, List.replicate_succ, List.replicate_zero, if_true, if_false, ite_true, ite_false, Bool.false_eq_true, decide_true, decide_false, Nat.reduceSub, Nat.reduceAdd, Nat.reduceLeDiff, Bool.not_true, Bool.not_false, reduceIte, reduceCtorEq, Nat.zero_add, Nat.add_zero, h0, gMod_int hp]
        exact e
      · rw [hg]
        have h1 := Int.gcd_add_mul_right_right b (a % b) (a / b)
        have h2 : a % b + a / b * b = a := by rw [Int.mul_comm]; exact Int.emod_add_mul_ediv a b
        rw [h2] at h1
        rw [← h1, Int.gcd_comm]
theorem ev_common {a b : Int} {S : Store} (hb : 0 ≤ b) : F_common_part [.int a, .int b] S = .ok (.int (Int.gcd a b : Nat)) S := by
  obtain ⟨g, e, hg⟩ := gcd_loop (b.toNat + 1) a b S hb (by omega)
  have e1 := sWhile_of e (by simp)
  refine def_rt rfl ?_ rfl
  simp -implicitDefEqProofs only [Dn.rbind_ok, Dn.rbind_bad, Dn.rbind_exc, Dn.obind_ok, Dn.obind_bad, Dn.nox_ok, Dn.dVar_zero, Dn.dVar_succ, Dn.dC_eq, Dn.dUn_eq, Dn.dBin_eq, Dn.dBl_eq, Dn.xOf_eq, Dn.xAnd_eq, Dn.xOr_eq, Dn.xNot_eq, Dn.xYes_eq, Dn.dAnd_eq, Dn.dOr_eq, Dn.dNot_eq, Dn.dIf_eq, Dn.aNil_eq, Dn.aCons_eq, Dn.dApp_eq, Dn.dTup_eq, Dn.dLst_eq, Dn.nLst_eq, Dn.dCall_eq, Dn.dChain_eq, Dn.sSet_eq, Dn.sRet_eq, Dn.sRetN_eq, Dn.sDrop_eq, Dn.sIf_eq, Dn.sNext_eq, Dn.sBrk_eq, Dn.sCnt_eq, Dn.sPar_eq, Dn.sPar3_eq, Dn.sAsg_eq, Dn.tset_nm, Dn.tset_tp, Dn.tsets_nil, Dn.tsets_cons, Dn.grd_none, Dn.wipeE_nil, Dn.wipeE_cons, Dn.gEq_int, Dn.gIsN_non, Dn.gIsN_int, Dn.gIsN_str, Dn.gIsN_tup, Dn.gIsN_bl, Dn.gIsN_ib, Dn.gIsN_nb, Dn.gIsN_sb, Dn.gIsN_tb, Dn.gAdd_int, Dn.gAugAdd_int, Dn.gSubI_int, Dn.gLt_int, Dn.gLe_int, Dn.gGt_int, Dn.gGe_int, Dn.gNeg_int, Dn.gAbs_int, Dn.gInt_int, Dn.gMax2_int, Dn.gMin2_int, Dn.asQ_tup, Dn.asQ_lst, Dn.asL_lst, Dn.gIdx_tup0, Dn.gIdx_tup1, Dn.gIdx_tup2, Dn.gLen_tup, Dn.gLen_lst, Dn.gLen_rol, Dn.gTuple_tup, Dn.gTuple_lst, Dn.gList_tup, Dn.gList_lst, Dn.sSetI_eq, Dn.dMtL_eq, Dn.iSeq_lst, Dn.iSeq_tup, Dn.sSeq_eq, Dn.startE, List.set_cons_zero, List.set_cons_succ, List.map_cons, List.map_nil, List.length_cons, List.length_nil, List.cons_append, List.nil_append, List.append_nil, List.replicate_succ, List.replicate_zero, if_true, if_false, ite_true, ite_false, Bool.false_eq_true, decide_true, decide_false, Nat.reduceSub, Nat.reduceAdd, Nat.reduceLeDiff, Bool.not_true, Bool.not_false, reduceIte, reduceCtorEq, Nat.zero_add, Nat.add_zero, B_common_part, e1]
  have : (if g < 0 then -g else g) = ((Int.gcd a b : Nat) : Int) := by rw [← hg]; split <;> omega
  rw [this]
theorem ev_fraction {a : Int} {b : Nat} {S : Store} (hb : b ≠ 0) (h2 : b < 2 ^ 900) : F_fraction_of [.int a, .int (b : Nat)] S = .ok (fr (mkRat a b)) S := by
  have e1 : ∀ S, F_common_part [.int a, .int (b : Nat)] S = .ok (.int (Int.gcd a b : Nat)) S := fun S => ev_common (by omega)
  have hg0 : 0 < Int.gcd a b := Int.gcd_pos_of_ne_zero_right a (by omega)
  have hg1 : Int.gcd a b ≤ b := Nat.le_of_dvd (by omega) (by have := Int.gcd_dvd_right a (b : Int); exact Int.natCast_dvd_natCast.mp this)
  generalize hG : Int.gcd a b = g at e1 hg0 hg1
  have hgB : g < 2 ^ 8000 := lt_8000 (Nat.lt_of_le_of_lt hg1 h2)
  have d1 : ∀ x S, gDiv (.int x) (.int (g : Nat)) S = .ok (.int (x / (g : Nat))) S := fun x S => gDiv_big (by omega) (by rw [Int.natAbs_natCast]; exact hgB)
  have z2 : (2 : Nat) ≤ sizeLine := small_line (by omega)
  refine def_rt (d := .tup [.int (a / (g : Nat)), .int ((b : Int) / (g : Nat))]) rfl ?_ rfl |>.trans ?_
  · simp -implicitDefEqProofs only [Dn.rbind_ok, Dn.rbind_bad, Dn.rbind_exc, Dn.obind_ok, Dn.obind_bad, Dn.nox_ok, Dn.dVar_zero, Dn.dVar_succ, Dn.dC_eq, Dn.dUn_eq, Dn.dBin_eq, Dn.dBl_eq, Dn.xOf_eq, Dn.xAnd_eq, Dn.xOr_eq, Dn.xNot_eq, Dn.xYes_eq, Dn.dAnd_eq, Dn.dOr_eq, Dn.dNot_eq, Dn.dIf_eq, Dn.aNil_eq, Dn.aCons_eq, Dn.dApp_eq, Dn.dTup_eq, Dn.dLst_eq, Dn.nLst_eq, Dn.dCall_eq, Dn.dChain_eq, Dn.sSet_eq, Dn.sRet_eq, Dn.sRetN_eq, Dn.sDrop_eq, Dn.sIf_eq, Dn.sNext_eq, Dn.sBrk_eq, Dn.sCnt_eq, Dn.sPar_eq, Dn.sPar3_eq, Dn.sAsg_eq, Dn.tset_nm, Dn.tset_tp, Dn.tsets_nil, Dn.tsets_cons, Dn.grd_none, Dn.wipeE_nil, Dn.wipeE_cons, Dn.gEq_int, Dn.gIsN_non, Dn.gIsN_int, Dn.gIsN_str, Dn.gIsN_tup, Dn.gIsN_bl, Dn.gIsN_ib, Dn.gIsN_nb, Dn.gIsN_sb, Dn.gIsN_tb, Dn.gAdd_int, Dn.gAugAdd_int, Dn.gSubI_int, Dn.gLt_int, Dn.gLe_int, Dn.gGt_int, Dn.gGe_int, Dn.gNeg_int, Dn.gAbs_int, Dn.gInt_int, Dn.gMax2_int, Dn.gMin2_int, Dn.asQ_tup, Dn.asQ_lst, Dn.asL_lst, Dn.gIdx_tup0, Dn.gIdx_tup1, Dn.gIdx_tup2, Dn.gLen_tup, Dn.gLen_lst, Dn.gLen_rol, Dn.gTuple_tup, Dn.gTuple_lst, Dn.gList_tup, Dn.gList_lst, Dn.sSetI_eq, Dn.dMtL_eq, Dn.iSeq_lst, Dn.iSeq_tup, Dn.sSeq_eq, Dn.startE, List.set_cons_zero, List.set_cons_succ, List.map_cons, List.map_nil, List.length_cons, List.length_nil, List.cons_append, List.nil_append, List.append_nil, List.replicate_succ, List.replicate_zero, if_true, if_false, ite_true, ite_false, Bool.false_eq_true, decide_true, decide_false, Nat.reduceSub, Nat.reduceAdd, Nat.reduceLeDiff, Bool.not_true, Bool.not_false, reduceIte, reduceCtorEq, Nat.zero_add, Nat.add_zero, B_fraction_of, e1, d1, z2]
  · unfold fr
    have n1 : (mkRat a b).num = a / (g : Nat) := by
      rw [Rat.num_mkRat, if_neg hb, Nat.gcd_comm, ← hG]
      rfl
    have n2 : (((mkRat a b).den : Nat) : Int) = (b : Int) / (g : Nat) := by
      rw [Rat.den_mkRat, if_neg hb, Nat.gcd_comm, ← hG]
      rfl
    rw [n1, n2]
theorem rat_add (p q : Rat) : p + q = mkRat (p.num * q.den + q.num * p.den) (p.den * q.den) := by
  rw [Rat.add_def, Rat.mkRat_def, dif_neg (Nat.mul_ne_zero p.den_nz q.den_nz)]
theorem rat_mul (p q : Rat) : p * q = mkRat (p.num * q.num) (p.den * q.den) := by
  rw [Rat.mul_def, Rat.mkRat_def, dif_neg (Nat.mul_ne_zero p.den_nz q.den_nz)]
/-- small enough to be reckoned with -/
def Sm (q : Rat) : Prop := q.num.natAbs < 2 ^ 400 ∧ q.den < 2 ^ 400
theorem ev_plus {p q : Rat} {S : Store} (hp : Sm p) (hq : Sm q) : F_plus_fractions [fr p, fr q] S = .ok (fr (p + q)) S := by
  obtain ⟨p1, p2⟩ := hp
  obtain ⟨q1, q2⟩ := hq
  have m1 : ∀ S, gMul (.int p.num) (.int (q.den : Nat)) S = .ok (.int (p.num * (q.den : Nat))) S := fun S => gMul_400 (by assumption) (by rw [Int.natAbs_natCast]; assumption)
  have m2 : ∀ S, gMul (.int q.num) (.int (p.den : Nat)) S = .ok (.int (q.num * (p.den : Nat))) S := fun S => gMul_400 (by assumption) (by rw [Int.natAbs_natCast]; assumption)
  have m3 : ∀ S, gMul (.int (p.den : Nat)) (.int (q.den : Nat)) S = .ok (.int ((p.den * q.den : Nat) : Int)) S := fun S => by rw [gMul_400 (by rw [Int.natAbs_natCast]; assumption) (by rw [Int.natAbs_natCast]; assumption), Int.natCast_mul]
  have hlt : p.den * q.den < 2 ^ 900 := lt_900 (mul_lt400 p2 q2)
  have e1 := ev_fraction (a := p.num * (q.den : Nat) + q.num * (p.den : Nat)) (S := S) (Nat.mul_ne_zero p.den_nz q.den_nz) hlt
  rw [rat_add]
  refine def_rt rfl ?_ rfl
  simp -implicitDefEqProofs only [fr, Dn.rbind_ok, Dn.rbind_bad, Dn.rbind_exc, Dn.obind_ok, Dn.obind_bad, Dn.nox_ok, Dn.dVar_zero, Dn.dVar_succ, Dn.dC_eq, Dn.dUn_eq, Dn.dBin_eq, Dn.dBl_eq, Dn.xOf_eq, Dn.xAnd_eq, Dn.xOr_eq, Dn.xNot_eq, Dn.xYes_eq, Dn.dAnd_eq, Dn.dOr_eq, Dn.dNot_eq, Dn.dIf_eq, Dn.aNil_eq, Dn.aCons_eq, Dn.dApp_eq, Dn.dTup_eq, Dn.dLst_eq, Dn.nLst_eq, Dn.dCall_eq, Dn.dChain_eq, Dn.sSet_eq, Dn.sRet_eq, Dn.sRetN_eq, Dn.sDrop_eq, Dn.sIf_eq, Dn.sNext_eq, Dn.sBrk_eq, Dn.sCnt_eq, Dn.sPar_eq, Dn.sPar3_eq, Dn.sAsg_eq, Dn.tset_nm, Dn.tset_tp, Dn.tsets_nil, Dn.tsets_cons, Dn.grd_none, Dn.wipeE_nil, Dn.wipeE_cons, Dn.gEq_int, Dn.gIsN_non, Dn.gIsN_int, Dn.gIsN_str, Dn.gIsN_tup, Dn.gIsN_bl, Dn.gIsN_ib, Dn.gIsN_nb, Dn.gIsN_sb, Dn.gIsN_tb, Dn.gAdd_int, Dn.gAugAdd_int, Dn.gSubI_int, Dn.gLt_int, Dn.gLe_int, Dn.gGt_int, Dn.gGe_int, Dn.gNeg_int, Dn.gAbs_int, Dn.gInt_int, Dn.gMax2_int, Dn.gMin2_int, Dn.asQ_tup, Dn.asQ_lst, Dn.asL_lst, Dn.gIdx_tup0, Dn.gIdx_tup1, Dn.gIdx_tup2, Dn.gLen_tup, Dn.gLen_lst, Dn.gLen_rol, Dn.gTuple_tup, Dn.gTuple_lst, Dn.gList_tup, Dn.gList_lst, Dn.sSetI_eq, Dn.dMtL_eq, Dn.iSeq_lst, Dn.iSeq_tup, Dn.sSeq_eq, Dn.startE, List.set_cons_zero, List.set_cons_succ, List.map_cons, List.map_nil, List.length_cons, List.length_nil, List.cons_append, List.nil_append, List.append_nil, List.replicate_succ, List.replicate_zero, if_true, if_false, ite_true, ite_false, Bool.false_eq_true, decide_true, decide_false, Nat.reduceSub, Nat.reduceAdd, Nat.reduceLeDiff, Bool.not_true, Bool.not_false, reduceIte, reduceCtorEq, Nat.zero_add, Nat.add_zero, B_plus_fractions, m1, m2, m3]
  unfold fr at e1
  rw [e1]
  rfl
theorem ev_times {p q : Rat} {S : Store} (hp : Sm p) (hq : Sm q) : F_times_fractions [fr p, fr q] S = .ok (fr (p * q)) S := by
  obtain ⟨p1, p2⟩ := hp
  obtain ⟨q1, q2⟩ := hq
  have m1 : ∀ S, gMul (.int p.num) (.int q.num) S = .ok (.int (p.num * q.num)) S := fun S => gMul_400 (by assumption) (by assumption)
  have m3 : ∀ S, gMul (.int (p.den : Nat)) (.int (q.den : Nat)) S = .ok (.int ((p.den * q.den : Nat) : Int)) S := fun S => by rw [gMul_400 (by rw [Int.natAbs_natCast]; assumption) (by rw [Int.natAbs_natCast]; assumption), Int.natCast_mul]
  have hlt : p.den * q.den < 2 ^ 900 := lt_900 (mul_lt400 p2 q2)
  have e1 := ev_fraction (a := p.num * q.num) (S := S) (Nat.mul_ne_zero p.den_nz q.den_nz) hlt
  rw [rat_mul]
  refine def_rt rfl ?_ rfl
  simp -implicitDefEqProofs only [fr, Dn.rbind_ok, Dn.rbind_bad, Dn.rbind_exc, Dn.obind_ok, Dn.obind_bad, Dn.nox_ok, Dn.dVar_zero, Dn.dVar_succ, Dn.dC_eq, Dn.dUn_eq, Dn.dBin_eq, Dn.dBl_eq, Dn.xOf_eq, Dn.xAnd_eq, Dn.xOr_eq, Dn.xNot_eq, Dn.xYes_eq, Dn.dAnd_eq, Dn.dOr_eq, Dn.dNot_eq, Dn.dIf_eq, Dn.aNil_eq, Dn.aCons_eq, Dn.dApp_eq, Dn.dTup_eq, Dn.dLst_eq, Dn.nLst_eq, Dn.dCall_eq, Dn.dChain_eq, Dn.sSet_eq, Dn.sRet_eq, Dn.sRetN_eq, Dn.sDrop_eq, Dn.sIf_eq, Dn.sNext_eq, Dn.sBrk_eq, Dn.sCnt_eq, Dn.sPar_eq, Dn.sPar3_eq, Dn.sAsg_eq, Dn.tset_nm, Dn.tset_tp, Dn.tsets_nil, Dn.tsets_cons, Dn.grd_none, Dn.wipeE_nil, Dn.wipeE_cons, Dn.gEq_int, Dn.gIsN_non, Dn.gIsN_int, Dn.gIsN_str, Dn.gIsN_tup, Dn.gIsN_bl, Dn.gIsN_ib, Dn.gIsN_nb, Dn.gIsN_sb, Dn.gIsN_tb, Dn.gAdd_int, Dn.gAugAdd_int, Dn.gSubI_int, Dn.gLt_int, Dn.gLe_int, Dn.gGt_int, Dn.gGe_int, Dn.gNeg_int, Dn.gAbs_int, Dn.gInt_int, Dn.gMax2_int, Dn.gMin2_int, Dn.asQ_tup, Dn.asQ_lst, Dn.asL_lst, Dn.gIdx_tup0, Dn.gIdx_tup1, Dn.gIdx_tup2, Dn.gLen_tup, Dn.gLen_lst, Dn.gLen_rol, Dn.gTuple_tup, Dn.gTuple_lst, Dn.gList_tup, Dn.gList_lst, Dn.sSetI_eq, Dn.dMtL_eq, Dn.iSeq_lst, Dn.iSeq_tup, Dn.sSeq_eq, Dn.startE, List.set_cons_zero, List.set_cons_succ, List.map_cons, List.map_nil, List.length_cons, List.length_nil, List.cons_append, List.nil_append, List.append_nil, List.replicate_succ, List.replicate_zero, if_true, if_false, ite_true, ite_false, Bool.false_eq_true, decide_true, decide_false, Nat.reduceSub, Nat.reduceAdd, Nat.reduceLeDiff, Bool.not_true, Bool.not_false, reduceIte, reduceCtorEq, Nat.zero_add, Nat.add_zero, B_times_fractions, m1, m3]
  unfold fr at e1
  rw [e1]
  rfl
/-! ### the law's own fractions -/
theorem low_loop {e0 e1 : Option D} {S : List O} : ∀ (k : Nat) (xs : List D) (a b : Int), 0 ≤ a → 0 ≤ b → b < 2 ^ k → 2 * k + 1 ≤ xs.length →
    forD (.nm 4) [4] (sSeq (sIf (xOf (dBin (gEq false) (dVar 3) (dC (.int 0)))) (sBrk) (sNext)) (sPar 2 3 (dVar 3) (dBin gMod (dApp gInt (aCons (dVar 2) (aNil))) (dVar 3)))) none xs [e0, e1, some (.int a), some (.int b), none] S
      = .nx [e0, e1, some (.int (Int.gcd a b : Nat)), some (.int 0), none] S := by
  have stop : ∀ (x : D) (xs : List D) (a : Int), 0 ≤ a → forD (.nm 4) [4] (sSeq (sIf (xOf (dBin (gEq false) (dVar 3) (dC (.int 0)))) (sBrk) (sNext)) (sPar 2 3 (dVar 3) (dBin gMod (dApp gInt (aCons (dVar 2) (aNil))) (dVar 3)))) none (x :: xs) [e0, e1, some (.int a), some (.int 0), none] S
      = .nx [e0, e1, some (.int (Int.gcd a 0 : Nat)), some (.int 0), none] S := fun x xs a ha => by
    rw [forD_cons]
    simp -implicitDefEqProofs only [Dn.rbind_ok, Dn.rbind_bad, Dn.rbind_exc, Dn.obind_ok, Dn.obind_bad, Dn.nox_ok, Dn.dVar_zero, Dn.dVar_succ, Dn.dC_eq, Dn.dUn_eq, Dn.dBin_eq, Dn.dBl_eq, Dn.xOf_eq, Dn.xAnd_eq, Dn.xOr_eq, Dn.xNot_eq, Dn.xYes_eq, Dn.dAnd_eq, Dn.dOr_eq, Dn.dNot_eq, Dn.dIf_eq, Dn.aNil_eq, Dn.aCons_eq, Dn.dApp_eq, Dn.dTup_eq, Dn.dLst_eq, Dn.nLst_eq, Dn.dCall_eq, Dn.dChain_eq, Dn.sSet_eq, Dn.sRet_eq, Dn.sRetN_eq, Dn.sDrop_eq, Dn.sIf_eq, Dn.sNext_eq, Dn.sBrk_eq, Dn.sCnt_eq, Dn.sPar_eq, Dn.sPar3_eq, Dn.sAsg_eq, Dn.tset_nm, Dn.tset_tp, Dn.tsets_nil, Dn.tsets_cons, Dn.grd_none, Dn.wipeE_nil, Dn.wipeE_cons, Dn.gEq_int, Dn.gIsN_non, Dn.gIsN_int, Dn.gIsN_str, Dn.gIsN_tup, Dn.gIsN_bl, Dn.gIsN_ib, Dn.gIsN_nb, Dn.gIsN_sb, Dn.gIsN_tb, Dn.gAdd_int, Dn.gAugAdd_int, Dn.gSubI_int, Dn.gLt_int, Dn.gLe_int, Dn.gGt_int, Dn.gGe_int, Dn.gNeg_int, Dn.gAbs_int, Dn.gInt_int, Dn.gMax2_int, Dn.gMin2_int, Dn.asQ_tup, Dn.asQ_lst, Dn.asL_lst, Dn.gIdx_tup0, Dn.gIdx_tup1, Dn.gIdx_tup2, Dn.gLen_tup, Dn.gLen_lst, Dn.gLen_rol, Dn.gTuple_tup, Dn.gTuple_lst, Dn.gList_tup, Dn.gList_lst, Dn.sSetI_eq, Dn.dMtL_eq, Dn.iSeq_lst, Dn.iSeq_tup, Dn.sSeq_eq, Dn.startE, List.set_cons_zero, List.set_cons_succ, List.map_cons, List.map_nil, List.length_cons, List.length_nil, List.cons_append, List.nil_append, List.append_nil, List.replicate_succ, List.replicate_zero, if_true, if_false, ite_true, ite_false, Bool.false_eq_true, decide_true, decide_false, Nat.reduceSub, Nat.reduceAdd, Nat.reduceLeDiff, Bool.not_true, Bool.not_false, reduceIte, reduceCtorEq, Nat.zero_add, Nat.add_zero]
    have : ((Int.gcd a 0 : Nat) : Int) = a := by rw [Int.gcd_zero_right]; omega
    rw [this]
  have step : ∀ (x : D) (xs : List D) (a b : Int), b ≠ 0 → 0 < b → forD (.nm 4) [4] (sSeq (sIf (xOf (dBin (gEq false) (dVar 3) (dC (.int 0)))) (sBrk) (sNext)) (sPar 2 3 (dVar 3) (dBin gMod (dApp gInt (aCons (dVar 2) (aNil))) (dVar 3)))) none (x :: xs) [e0, e1, some (.int a), some (.int b), none] S
      = forD (.nm 4) [4] (sSeq (sIf (xOf (dBin (gEq false) (dVar 3) (dC (.int 0)))) (sBrk) (sNext)) (sPar 2 3 (dVar 3) (dBin gMod (dApp gInt (aCons (dVar 2) (aNil))) (dVar 3)))) none xs [e0, e1, some (.int b), some (.int (a % b)), none] S := fun x xs a b h0 hp => by
    rw [forD_cons]
    simp -implicitDefEqProofs only [Dn.rbind_ok, Dn.rbind_bad, Dn.rbind_exc, Dn.obind_ok, Dn.obind_bad, Dn.nox_ok, Dn.dVar_zero, Dn.dVar_succ, Dn.dC_eq, Dn.dUn_eq, Dn.dBin_eq, Dn.dBl_eq, Dn.xOf_eq, Dn.xAnd_eq, Dn.xOr_eq, Dn.xNot_eq, Dn.xYes_eq, Dn.dAnd_eq, Dn.dOr_eq, Dn.dNot_eq, Dn.dIf_eq, Dn.aNil_eq, Dn.aCons_eq, Dn.dApp_eq, Dn.dTup_eq, Dn.dLst_eq, Dn.nLst_eq, Dn.dCall_eq, Dn.dChain_eq, Dn.sSet_eq, Dn.sRet_eq, Dn.sRetN_eq, Dn.sDrop_eq, Dn.sIf_eq, Dn.sNext_eq, Dn.sBrk_eq, Dn.sCnt_eq, Dn.sPar_eq, Dn.sPar3_eq, Dn.sAsg_eq, Dn.tset_nm, Dn.tset_tp, Dn.tsets_nil, Dn.tsets_cons, Dn.grd_none, Dn.wipeE_nil, Dn.wipeE_cons, Dn.gEq_int, Dn.gIsN_non, Dn.gIsN_int, Dn.gIsN_str, Dn.gIsN_tup, Dn.gIsN_bl, Dn.gIsN_ib, Dn.gIsN_nb, Dn.gIsN_sb, Dn.gIsN_tb, Dn.gAdd_int, Dn.gAugAdd_int, Dn.gSubI_int, Dn.gLt_int, Dn.gLe_int, Dn.gGt_int, Dn.gGe_int, Dn.gNeg_int, Dn.gAbs_int, Dn.gInt_int, Dn.gMax2_int, Dn.gMin2_int, Dn.asQ_tup, Dn.asQ_lst, Dn.asL_lst, Dn.gIdx_tup0, Dn.gIdx_tup1, Dn.gIdx_tup2, Dn.gLen_tup, Dn.gLen_lst, Dn.gLen_rol, Dn.gTuple_tup, Dn.gTuple_lst, Dn.gList_tup, Dn.gList_lst, Dn.sSetI_eq, Dn.dMtL_eq, Dn.iSeq_lst, Dn.iSeq_tup, Dn.sSeq_eq, Dn.startE, List.set_cons_zero, List.set_cons_succ, List.map_cons, List.map_nil, List.length_cons, List.length_nil, List.cons_append, List.nil_append, List.append_nil, List.replicate_succ, List.replicate_zero, if_true, if_false, ite_true, ite_false, Bool.false_eq_true, decide_true, decide_false, Nat.reduceSub, Nat.reduceAdd, Nat.reduceLeDiff, Bool.not_true, Bool.not_false, reduceIte, reduceCtorEq, Nat.zero_add, Nat.add_zero, h0, gMod_int hp]
  have gstep : ∀ a b : Int, Int.gcd b (a % b) = Int.gcd a b := fun a b => by
    have h1 := Int.gcd_add_mul_right_right b (a % b) (a / b)
    have h2 : a % b + a / b * b = a := by rw [Int.mul_comm]; exact Int.emod_add_mul_ediv a b
    rw [h2] at h1
    rw [← h1, Int.gcd_comm]
  intro k
  induction k with
  | zero =>
    intro xs a b ha hb h hl
    have : b = 0 := by omega
    subst this
    cases xs with
    | nil => simp at hl
    | cons x xs => exact stop x xs a ha
  | succ k ih =>
    intro xs a b ha hb h hl
    cases xs with
    | nil => simp at hl
    | cons x xs =>
      by_cases h0 : b = 0
      · subst h0; exact stop x xs a ha
      · have hp : 0 < b := by omega
        rw [step x xs a b h0 hp, ← gstep a b]
        have m0 := Int.emod_nonneg a h0
        have m1 := Int.emod_lt_of_pos a hp
        generalize a % b = r at m0 m1
        cases xs with
        | nil => simp at hl
        | cons y xs =>
          by_cases hr : r = 0
          · subst hr; exact stop y xs b hb
          · have hrp : 0 < r := by omega
            rw [step y xs b r hr hrp, ← gstep b r]
            have n0 := Int.emod_nonneg b hr
            have n1 := Int.emod_lt_of_pos b hrp
            have n2 : 2 * (b % r) < b := by
              have q1 := Int.emod_add_mul_ediv b r
              have q2 : 1 ≤ b / r := Int.le_ediv_of_mul_le hrp (by omega)
              have q3 : r * 1 ≤ r * (b / r) := Int.mul_le_mul_of_nonneg_left q2 (by omega)
              omega
            refine ih xs r (b % r) m0 n0 ?_ (by simp at hl; omega)
            rw [Int.pow_succ] at h
            omega
theorem ev_lowest {a : Int} {b : Nat} {S : Store} (hb : b ≠ 0) (h2 : b < 2 ^ 900) : F__law_lowest [.int a, .int (b : Nat)] S = .ok (fr (mkRat a b)) S := by
  have i1 : ∀ (ρ : Dn.Env) (S : Store), iRange1 (dC (.int 2000)) ρ S = .ok ⟨rangeL 0 2000, none⟩ S := fun ρ S => iRange1_of (k := 2000) rfl (by omega)
  have lenR : (rangeL 0 2000).length = 2000 := by unfold rangeL; rw [List.length_map, List.length_range]
  have ha : 0 ≤ (if a < 0 then -a else a) := by split <;> omega
  have e1 := low_loop (e0 := some (.int a)) (e1 := some (.int (b : Nat))) (S := S) 900 (rangeL 0 2000) (if a < 0 then -a else a) (b : Nat) ha (by omega) (by exact_mod_cast h2) (by rw [lenR]; omega)
  have hgg : Int.gcd (if a < 0 then -a else a) (b : Nat) = Int.gcd a b := by
    split
    · unfold Int.gcd; rw [Int.natAbs_neg]
    · rfl
  rw [hgg] at e1
  have hg0 : 0 < Int.gcd a b := Int.gcd_pos_of_ne_zero_right a (by omega)
  have hg1 : Int.gcd a b ≤ b := Nat.le_of_dvd (by omega) (by have := Int.gcd_dvd_right a (b : Int); exact Int.natCast_dvd_natCast.mp this)
  generalize hG : Int.gcd a b = g at e1 hg0 hg1
  have hgB : g < 2 ^ 8000 := lt_8000 (Nat.lt_of_le_of_lt hg1 h2)
  have d1 : ∀ x S, gDiv (.int x) (.int (g : Nat)) S = .ok (.int (x / (g : Nat))) S := fun x S => gDiv_big (by omega) (by rw [Int.natAbs_natCast]; exact hgB)
  have z2 : (2 : Nat) ≤ sizeLine := small_line (by omega)
  refine def_rt (d := .tup [.int (a / (g : Nat)), .int ((b : Int) / (g : Nat))]) rfl ?_ rfl |>.trans ?_
  · simp -implicitDefEqProofs only [Dn.rbind_ok, Dn.rbind_bad, Dn.rbind_exc, Dn.obind_ok, Dn.obind_bad, Dn.nox_ok, Dn.dVar_zero, Dn.dVar_succ, Dn.dC_eq, Dn.dUn_eq, Dn.dBin_eq, Dn.dBl_eq, Dn.xOf_eq, Dn.xAnd_eq, Dn.xOr_eq, Dn.xNot_eq, Dn.xYes_eq, Dn.dAnd_eq, Dn.dOr_eq, Dn.dNot_eq, Dn.dIf_eq, Dn.aNil_eq, Dn.aCons_eq, Dn.dApp_eq, Dn.dTup_eq, Dn.dLst_eq, Dn.nLst_eq, Dn.dCall_eq, Dn.dChain_eq, Dn.sSet_eq, Dn.sRet_eq, Dn.sRetN_eq, Dn.sDrop_eq, Dn.sIf_eq, Dn.sNext_eq, Dn.sBrk_eq, Dn.sCnt_eq, Dn.sPar_eq, Dn.sPar3_eq, Dn.sAsg_eq, Dn.tset_nm, Dn.tset_tp, Dn.tsets_nil, Dn.tsets_cons, Dn.grd_none, Dn.wipeE_nil, Dn.wipeE_cons, Dn.gEq_int, Dn.gIsN_non, Dn.gIsN_int, Dn.gIsN_str, Dn.gIsN_tup, Dn.gIsN_bl, Dn.gIsN_ib, Dn.gIsN_nb, Dn.gIsN_sb, Dn.gIsN_tb, Dn.gAdd_int, Dn.gAugAdd_int, Dn.gSubI_int, Dn.gLt_int, Dn.gLe_int, Dn.gGt_int, Dn.gGe_int, Dn.gNeg_int, Dn.gAbs_int, Dn.gInt_int, Dn.gMax2_int, Dn.gMin2_int, Dn.asQ_tup, Dn.asQ_lst, Dn.asL_lst, Dn.gIdx_tup0, Dn.gIdx_tup1, Dn.gIdx_tup2, Dn.gLen_tup, Dn.gLen_lst, Dn.gLen_rol, Dn.gTuple_tup, Dn.gTuple_lst, Dn.gList_tup, Dn.gList_lst, Dn.sSetI_eq, Dn.dMtL_eq, Dn.iSeq_lst, Dn.iSeq_tup, Dn.sSeq_eq, Dn.startE, List.set_cons_zero, List.set_cons_succ, List.map_cons, List.map_nil, List.length_cons, List.length_nil, List.cons_append, List.nil_append, List.append_nil, List.replicate_succ, List.replicate_zero, if_true, if_false, ite_true, ite_false, Bool.false_eq_true, decide_true, decide_false, Nat.reduceSub, Nat.reduceAdd, Nat.reduceLeDiff, Bool.not_true, Bool.not_false, reduceIte, reduceCtorEq, Nat.zero_add, Nat.add_zero, B__law_lowest, sFor_eq, i1, e1, d1, z2]
  · unfold fr
    have n1 : (mkRat a b).num = a / (g : Nat) := by
      rw [Rat.num_mkRat, if_neg hb, Nat.gcd_comm, ← hG]
      rfl
    have n2 : (((mkRat a b).den : Nat) : Int) = (b : Int) / (g : Nat) := by
      rw [Rat.den_mkRat, if_neg hb, Nat.gcd_comm, ← hG]
      rfl
    rw [n1, n2]
theorem ev_sum {p q : Rat} {S : Store} (hp : Sm p) (hq : Sm q) : F__law_sum [fr p, fr q] S = .ok (fr (p + q)) S := by
  obtain ⟨p1, p2⟩ := hp
  obtain ⟨q1, q2⟩ := hq
  have m1 : ∀ S, gMul (.int p.num) (.int (q.den : Nat)) S = .ok (.int (p.num * (q.den : Nat))) S := fun S => gMul_400 (by assumption) (by rw [Int.natAbs_natCast]; assumption)
  have m2 : ∀ S, gMul (.int q.num) (.int (p.den : Nat)) S = .ok (.int (q.num * (p.den : Nat))) S := fun S => gMul_400 (by assumption) (by rw [Int.natAbs_natCast]; assumption)
  have m3 : ∀ S, gMul (.int (p.den : Nat)) (.int (q.den : Nat)) S = .ok (.int ((p.den * q.den : Nat) : Int)) S := fun S => by rw [gMul_400 (by rw [Int.natAbs_natCast]; assumption) (by rw [Int.natAbs_natCast]; assumption), Int.natCast_mul]
  have hlt : p.den * q.den < 2 ^ 900 := lt_900 (mul_lt400 p2 q2)
  have e1 := ev_lowest (a := p.num * (q.den : Nat) + q.num * (p.den : Nat)) (S := S) (Nat.mul_ne_zero p.den_nz q.den_nz) hlt
  rw [rat_add]
  refine def_rt rfl ?_ rfl
  simp -implicitDefEqProofs only [fr, Dn.rbind_ok, Dn.rbind_bad, Dn.rbind_exc, Dn.obind_ok, Dn.obind_bad, Dn.nox_ok, Dn.dVar_zero, Dn.dVar_succ, Dn.dC_eq, Dn.dUn_eq, Dn.dBin_eq, Dn.dBl_eq, Dn.xOf_eq, Dn.xAnd_eq, Dn.xOr_eq, Dn.xNot_eq, Dn.xYes_eq, Dn.dAnd_eq, Dn.dOr_eq, Dn.dNot_eq, Dn.dIf_eq, Dn.aNil_eq, Dn.aCons_eq, Dn.dApp_eq, Dn.dTup_eq, Dn.dLst_eq, Dn.nLst_eq, Dn.dCall_eq, Dn.dChain_eq, Dn.sSet_eq, Dn.sRet_eq, Dn.sRetN_eq, Dn.sDrop_eq, Dn.sIf_eq, Dn.sNext_eq, Dn.sBrk_eq, Dn.sCnt_eq, Dn.sPar_eq, Dn.sPar3_eq, Dn.sAsg_eq, Dn.tset_nm, Dn.tset_tp, Dn.tsets_nil, Dn.tsets_cons, Dn.grd_none, Dn.wipeE_nil, Dn.wipeE_cons, Dn.gEq_int, Dn.gIsN_non, Dn.gIsN_int, Dn.gIsN_str, Dn.gIsN_tup, Dn.gIsN_bl, Dn.gIsN_ib, Dn.gIsN_nb, Dn.gIsN_sb, Dn.gIsN_tb, Dn.gAdd_int, Dn.gAugAdd_int, Dn.gSubI_int, Dn.gLt_int, Dn.gLe_int, Dn.gGt_int, Dn.gGe_int, Dn.gNeg_int, Dn.gAbs_int, Dn.gInt_int, Dn.gMax2_int, Dn.gMin2_int, Dn.asQ_tup, Dn.asQ_lst, Dn.asL_lst, Dn.gIdx_tup0, Dn.gIdx_tup1, Dn.gIdx_tup2, Dn.gLen_tup, Dn.gLen_lst, Dn.gLen_rol, Dn.gTuple_tup, Dn.gTuple_lst, Dn.gList_tup, Dn.gList_lst, Dn.sSetI_eq, Dn.dMtL_eq, Dn.iSeq_lst, Dn.iSeq_tup, Dn.sSeq_eq, Dn.startE, List.set_cons_zero, List.set_cons_succ, List.map_cons, List.map_nil, List.length_cons, List.length_nil, List.cons_append, List.nil_append, List.append_nil, List.replicate_succ, List.replicate_zero, if_true, if_false, ite_true, ite_false, Bool.false_eq_true, decide_true, decide_false, Nat.reduceSub, Nat.reduceAdd, Nat.reduceLeDiff, Bool.not_true, Bool.not_false, reduceIte, reduceCtorEq, Nat.zero_add, Nat.add_zero, B__law_sum, m1, m2, m3]
  unfold fr at e1
  rw [e1]
  rfl
theorem ev_ltimes {p q : Rat} {S : Store} (hp : Sm p) (hq : Sm q) : F__law_times [fr p, fr q] S = .ok (fr (p * q)) S := by
  obtain ⟨p1, p2⟩ := hp
  obtain ⟨q1, q2⟩ := hq
  have m1 : ∀ S, gMul (.int p.num) (.int q.num) S = .ok (.int (p.num * q.num)) S := fun S => gMul_400 (by assumption) (by assumption)
  have m3 : ∀ S, gMul (.int (p.den : Nat)) (.int (q.den : Nat)) S = .ok (.int ((p.den * q.den : Nat) : Int)) S := fun S => by rw [gMul_400 (by rw [Int.natAbs_natCast]; assumption) (by rw [Int.natAbs_natCast]; assumption), Int.natCast_mul]
  have hlt : p.den * q.den < 2 ^ 900 := lt_900 (mul_lt400 p2 q2)
  have e1 := ev_lowest (a := p.num * q.num) (S := S) (Nat.mul_ne_zero p.den_nz q.den_nz) hlt
  rw [rat_mul]
  refine def_rt rfl ?_ rfl
  simp -implicitDefEqProofs only [fr, Dn.rbind_ok, Dn.rbind_bad, Dn.rbind_exc, Dn.obind_ok, Dn.obind_bad, Dn.nox_ok, Dn.dVar_zero, Dn.dVar_succ, Dn.dC_eq, Dn.dUn_eq, Dn.dBin_eq, Dn.dBl_eq, Dn.xOf_eq, Dn.xAnd_eq, Dn.xOr_eq, Dn.xNot_eq, Dn.xYes_eq, Dn.dAnd_eq, Dn.dOr_eq, Dn.dNot_eq, Dn.dIf_eq, Dn.aNil_eq, Dn.aCons_eq, Dn.dApp_eq, Dn.dTup_eq, Dn.dLst_eq, Dn.nLst_eq, Dn.dCall_eq, Dn.dChain_eq, Dn.sSet_eq, Dn.sRet_eq, Dn.sRetN_eq, Dn.sDrop_eq, Dn.sIf_eq, Dn.sNext_eq, Dn.sBrk_eq, Dn.sCnt_eq, Dn.sPar_eq, Dn.sPar3_eq, Dn.sAsg_eq, Dn.tset_nm, Dn.tset_tp, Dn.tsets_nil, Dn.tsets_cons, Dn.grd_none, Dn.wipeE_nil, Dn.wipeE_cons, Dn.gEq_int, Dn.gIsN_non, Dn.gIsN_int, Dn.gIsN_str, Dn.gIsN_tup, Dn.gIsN_bl, Dn.gIsN_ib, Dn.gIsN_nb, Dn.gIsN_sb, Dn.gIsN_tb, Dn.gAdd_int, Dn.gAugAdd_int, Dn.gSubI_int, Dn.gLt_int, Dn.gLe_int, Dn.gGt_int, Dn.gGe_int, Dn.gNeg_int, Dn.gAbs_int, Dn.gInt_int, Dn.gMax2_int, Dn.gMin2_int, Dn.asQ_tup, Dn.asQ_lst, Dn.asL_lst, Dn.gIdx_tup0, Dn.gIdx_tup1, Dn.gIdx_tup2, Dn.gLen_tup, Dn.gLen_lst, Dn.gLen_rol, Dn.gTuple_tup, Dn.gTuple_lst, Dn.gList_tup, Dn.gList_lst, Dn.sSetI_eq, Dn.dMtL_eq, Dn.iSeq_lst, Dn.iSeq_tup, Dn.sSeq_eq, Dn.startE, List.set_cons_zero, List.set_cons_succ, List.map_cons, List.map_nil, List.length_cons, List.length_nil, List.cons_append, List.nil_append, List.append_nil, List.replicate_succ, List.replicate_zero, if_true, if_false, ite_true, ite_false, Bool.false_eq_true, decide_true, decide_false, Nat.reduceSub, Nat.reduceAdd, Nat.reduceLeDiff, Bool.not_true, Bool.not_false, reduceIte, reduceCtorEq, Nat.zero_add, Nat.add_zero, B__law_times, m1, m3]
  unfold fr at e1
  rw [e1]
  rfl
theorem rat_sub (p q : Rat) : p - q = mkRat (p.num * q.den - q.num * p.den) (p.den * q.den) := by
  rw [Rat.sub_def, Rat.mkRat_def, dif_neg (Nat.mul_ne_zero p.den_nz q.den_nz)]
theorem ev_less {p q : Rat} {S : Store} (hp : Sm p) (hq : Sm q) : F_less_fractions [fr p, fr q] S = .ok (fr (p - q)) S := by
  obtain ⟨p1, p2⟩ := hp
  obtain ⟨q1, q2⟩ := hq
  have m1 : ∀ S, gMul (.int p.num) (.int (q.den : Nat)) S = .ok (.int (p.num * (q.den : Nat))) S := fun S => gMul_400 (by assumption) (by rw [Int.natAbs_natCast]; assumption)
  have m2 : ∀ S, gMul (.int q.num) (.int (p.den : Nat)) S = .ok (.int (q.num * (p.den : Nat))) S := fun S => gMul_400 (by assumption) (by rw [Int.natAbs_natCast]; assumption)
  have m3 : ∀ S, gMul (.int (p.den : Nat)) (.int (q.den : Nat)) S = .ok (.int ((p.den * q.den : Nat) : Int)) S := fun S => by rw [gMul_400 (by rw [Int.natAbs_natCast]; assumption) (by rw [Int.natAbs_natCast]; assumption), Int.natCast_mul]
  have hlt : p.den * q.den < 2 ^ 900 := lt_900 (mul_lt400 p2 q2)
  have e1 := ev_fraction (a := p.num * (q.den : Nat) - q.num * (p.den : Nat)) (S := S) (Nat.mul_ne_zero p.den_nz q.den_nz) hlt
  rw [rat_sub]
  refine def_rt rfl ?_ rfl
  simp -implicitDefEqProofs only [fr, Dn.rbind_ok, Dn.rbind_bad, Dn.rbind_exc, Dn.obind_ok, Dn.obind_bad, Dn.nox_ok, Dn.dVar_zero, Dn.dVar_succ, Dn.dC_eq, Dn.dUn_eq, Dn.dBin_eq, Dn.dBl_eq, Dn.xOf_eq, Dn.xAnd_eq, Dn.xOr_eq, Dn.xNot_eq, Dn.xYes_eq, Dn.dAnd_eq, Dn.dOr_eq, Dn.dNot_eq, Dn.dIf_eq, Dn.aNil_eq, Dn.aCons_eq, Dn.dApp_eq, Dn.dTup_eq, Dn.dLst_eq, Dn.nLst_eq, Dn.dCall_eq, Dn.dChain_eq, Dn.sSet_eq, Dn.sRet_eq, Dn.sRetN_eq, Dn.sDrop_eq, Dn.sIf_eq, Dn.sNext_eq, Dn.sBrk_eq, Dn.sCnt_eq, Dn.sPar_eq, Dn.sPar3_eq, Dn.sAsg_eq, Dn.tset_nm, Dn.tset_tp, Dn.tsets_nil, Dn.tsets_cons, Dn.grd_none, Dn.wipeE_nil, Dn.wipeE_cons, Dn.gEq_int, Dn.gIsN_non, Dn.gIsN_int, Dn.gIsN_str, Dn.gIsN_tup, Dn.gIsN_bl, Dn.gIsN_ib, Dn.gIsN_nb, Dn.gIsN_sb, Dn.gIsN_tb, Dn.gAdd_int, Dn.gAugAdd_int, Dn.gSubI_int, Dn.gLt_int, Dn.gLe_int, Dn.gGt_int, Dn.gGe_int, Dn.gNeg_int, Dn.gAbs_int, Dn.gInt_int, Dn.gMax2_int, Dn.gMin2_int, Dn.asQ_tup, Dn.asQ_lst, Dn.asL_lst, Dn.gIdx_tup0, Dn.gIdx_tup1, Dn.gIdx_tup2, Dn.gLen_tup, Dn.gLen_lst, Dn.gLen_rol, Dn.gTuple_tup, Dn.gTuple_lst, Dn.gList_tup, Dn.gList_lst, Dn.sSetI_eq, Dn.dMtL_eq, Dn.iSeq_lst, Dn.iSeq_tup, Dn.sSeq_eq, Dn.startE, List.set_cons_zero, List.set_cons_succ, List.map_cons, List.map_nil, List.length_cons, List.length_nil, List.cons_append, List.nil_append, List.append_nil, List.replicate_succ, List.replicate_zero, if_true, if_false, ite_true, ite_false, Bool.false_eq_true, decide_true, decide_false, Nat.reduceSub, Nat.reduceAdd, Nat.reduceLeDiff, Bool.not_true, Bool.not_false, reduceIte, reduceCtorEq, Nat.zero_add, Nat.add_zero, B_less_fractions, m1, m2, m3]
  unfold fr at e1
  rw [e1]
  rfl
theorem ev_lminus {p q : Rat} {S : Store} (hp : Sm p) (hq : Sm q) : F__law_minus [fr p, fr q] S = .ok (fr (p - q)) S := by
  obtain ⟨p1, p2⟩ := hp
  obtain ⟨q1, q2⟩ := hq
  have m1 : ∀ S, gMul (.int p.num) (.int (q.den : Nat)) S = .ok (.int (p.num * (q.den : Nat))) S := fun S => gMul_400 (by assumption) (by rw [Int.natAbs_natCast]; assumption)
  have m2 : ∀ S, gMul (.int q.num) (.int (p.den : Nat)) S = .ok (.int (q.num * (p.den : Nat))) S := fun S => gMul_400 (by assumption) (by rw [Int.natAbs_natCast]; assumption)
  have m3 : ∀ S, gMul (.int (p.den : Nat)) (.int (q.den : Nat)) S = .ok (.int ((p.den * q.den : Nat) : Int)) S := fun S => by rw [gMul_400 (by rw [Int.natAbs_natCast]; assumption) (by rw [Int.natAbs_natCast]; assumption), Int.natCast_mul]
  have hlt : p.den * q.den < 2 ^ 900 := lt_900 (mul_lt400 p2 q2)
  have e1 := ev_lowest (a := p.num * (q.den : Nat) - q.num * (p.den : Nat)) (S := S) (Nat.mul_ne_zero p.den_nz q.den_nz) hlt
  rw [rat_sub]
  refine def_rt rfl ?_ rfl
  simp -implicitDefEqProofs only [fr, Dn.rbind_ok, Dn.rbind_bad, Dn.rbind_exc, Dn.obind_ok, Dn.obind_bad, Dn.nox_ok, Dn.dVar_zero, Dn.dVar_succ, Dn.dC_eq, Dn.dUn_eq, Dn.dBin_eq, Dn.dBl_eq, Dn.xOf_eq, Dn.xAnd_eq, Dn.xOr_eq, Dn.xNot_eq, Dn.xYes_eq, Dn.dAnd_eq, Dn.dOr_eq, Dn.dNot_eq, Dn.dIf_eq, Dn.aNil_eq, Dn.aCons_eq, Dn.dApp_eq, Dn.dTup_eq, Dn.dLst_eq, Dn.nLst_eq, Dn.dCall_eq, Dn.dChain_eq, Dn.sSet_eq, Dn.sRet_eq, Dn.sRetN_eq, Dn.sDrop_eq, Dn.sIf_eq, Dn.sNext_eq, Dn.sBrk_eq, Dn.sCnt_eq, Dn.sPar_eq, Dn.sPar3_eq, Dn.sAsg_eq, Dn.tset_nm, Dn.tset_tp, Dn.tsets_nil, Dn.tsets_cons, Dn.grd_none, Dn.wipeE_nil, Dn.wipeE_cons, Dn.gEq_int, Dn.gIsN_non, Dn.gIsN_int, Dn.gIsN_str, Dn.gIsN_tup, Dn.gIsN_bl, Dn.gIsN_ib, Dn.gIsN_nb, Dn.gIsN_sb, Dn.gIsN_tb, Dn.gAdd_int, Dn.gAugAdd_int, Dn.gSubI_int, Dn.gLt_int, Dn.gLe_int, Dn.gGt_int, Dn.gGe_int, Dn.gNeg_int, Dn.gAbs_int, Dn.gInt_int, Dn.gMax2_int, Dn.gMin2_int, Dn.asQ_tup, Dn.asQ_lst, Dn.asL_lst, Dn.gIdx_tup0, Dn.gIdx_tup1, Dn.gIdx_tup2, Dn.gLen_tup, Dn.gLen_lst, Dn.gLen_rol, Dn.gTuple_tup, Dn.gTuple_lst, Dn.gList_tup, Dn.gList_lst, Dn.sSetI_eq, Dn.dMtL_eq, Dn.iSeq_lst, Dn.iSeq_tup, Dn.sSeq_eq, Dn.startE, List.set_cons_zero, List.set_cons_succ, List.map_cons, List.map_nil, List.length_cons, List.length_nil, List.cons_append, List.nil_append, List.append_nil, List.replicate_succ, List.replicate_zero, if_true, if_false, ite_true, ite_false, Bool.false_eq_true, decide_true, decide_false, Nat.reduceSub, Nat.reduceAdd, Nat.reduceLeDiff, Bool.not_true, Bool.not_false, reduceIte, reduceCtorEq, Nat.zero_add, Nat.add_zero, B__law_minus, m1, m2, m3]
  unfold fr at e1
  rw [e1]
  rfl
end Cm

set_option maxHeartbeats 1000000
namespace Cm
open PySem PySem.Spec PyProof.Rows L2 Dn
/-! ### rows of chances -/
theorem top_fr {q : Rat} {S : Store} : pyTop S (fr q) = some (.tuple [.int q.num, .int (q.den : Nat)]) := by
  show (pyAll [D.int q.num, D.int (q.den : Nat)]).map PyData.tuple = _
  have := pyAll_ints [q.num, ((q.den : Nat) : Int)]
  simp only [List.map_cons, List.map_nil] at this
  rw [this]
  rfl
theorem eqv_pair {a b c d : Int} : PyData.eqv (.tuple [.int a, .int b]) (.tuple [.int c, .int d]) = (decide (a = c) && decide (b = d)) := by
  simp only [PyData.eqv, PyData.eqvAll, eqv_int, Bool.and_true]
  exact Bool.eq_iff_iff.mpr (by simp)
theorem depth_pair {a b : Int} : (PyData.tuple [.int a, .int b]).depth ≤ 64 := by
  simp [PyData.depth, PyData.depthAll]
theorem gEq_fr {neg : Bool} {p q : Rat} {S : Store} : gEq neg (fr p) (fr q) S = .ok (.bl (if neg then !decide (p = q) else decide (p = q))) S := by
  rw [gEq_of top_fr top_fr depth_pair depth_pair, eqv_pair]
  have : (decide (p.num = q.num) && decide (((p.den : Nat) : Int) = (q.den : Nat))) = decide (p = q) := by
    rw [Bool.eq_iff_iff, Bool.and_eq_true, decide_eq_true_eq, decide_eq_true_eq, decide_eq_true_eq]
    constructor
    · rintro ⟨h1, h2⟩; exact Rat.ext h1 (by omega)
    · rintro rfl; exact ⟨rfl, rfl⟩
  rw [this]
theorem nought : c_NOUGHT = fr 0 := rfl
theorem mk0 (M : Nat) : mkRat 0 M = 0 := by simp
theorem mk_eq0 {c M : Nat} (hM : M ≠ 0) : mkRat c M = 0 ↔ c = 0 := by
  rw [Rat.mkRat_eq_zero hM]
  omega
theorem mk_add {a b M : Nat} (hM : M ≠ 0) : mkRat a M + mkRat b M = mkRat ((a + b : Nat) : Int) M := by
  rw [Rat.mkRat_add_mkRat _ _ hM hM, ← Int.add_mul, Rat.mkRat_mul_right hM, Int.natCast_add]
theorem mk_mul {a b M N : Nat} : mkRat a M * mkRat b N = mkRat ((a * b : Nat) : Int) (M * N) := by
  rw [Rat.mkRat_mul_mkRat, Int.natCast_mul]
theorem sm_mkB {c : Int} {M : Nat} (h : c.natAbs ≤ M) (hM : M < 2 ^ 400) (h0 : M ≠ 0) : Sm (mkRat c M) := by
  constructor
  · rw [Rat.num_mkRat, if_neg h0]
    refine Nat.lt_of_le_of_lt ?_ hM
    exact Nat.le_trans (Int.natAbs_ediv_le_natAbs _ _) h
  · rw [Rat.den_mkRat, if_neg h0]
    exact Nat.lt_of_le_of_lt (Nat.div_le_self _ _) hM
theorem sm_mk {c M : Nat} (h : c ≤ M) (hM : M < 4294967296) (h0 : M ≠ 0) : Sm (mkRat c M) := sm_mkB (by rw [Int.natAbs_natCast]; exact h) (lt_400 hM) h0
/-- a row told: cs over M -/
def mks (M : Nat) (cs : List Nat) : List D := cs.map fun (c : Nat) => fr (mkRat (c : Int) M)
theorem mks_len (M : Nat) (cs : List Nat) : (mks M cs).length = cs.length := List.length_map _
theorem mks_get {M : Nat} {cs : List Nat} {k : Nat} (h : k < cs.length) : (mks M cs)[k]? = some (fr (mkRat cs[k] M)) := by
  unfold mks
  rw [List.getElem?_map, List.getElem?_eq_getElem h]
  rfl
theorem pure_fr (q : Rat) : pureD (fr q) = true := rfl
theorem pure_mks (M : Nat) (cs : List Nat) : pureDs (mks M cs) = true := pures_iff.mpr fun x hx => by
  obtain ⟨c, _, rfl⟩ := List.mem_map.mp hx
  rfl
def innerV (ix : Nat → Nat) (a : Nat) : Nat → List Nat → List Nat → List Nat
  | _, [], T => T
  | j, b :: B, T => innerV ix a (j + 1) B (T.set (ix j) (T.getD (ix j) 0 + a * b))
def outerV (ix : Nat → Nat → Nat) (B : List Nat) : Nat → List Nat → List Nat → List Nat
  | _, [], T => T
  | i, a :: A, T => outerV ix B (i + 1) A (innerV (ix i) a 0 B T)
theorem innerV_len {ix : Nat → Nat} {a : Nat} : ∀ (B : List Nat) (j : Nat) (T : List Nat), (innerV ix a j B T).length = T.length
  | [], j, T => rfl
  | b :: B, j, T => by rw [innerV, innerV_len B]; simp
theorem sum_set {T : List Nat} {k x : Nat} (h : k < T.length) : (T.set k (T.getD k 0 + x)).sum = T.sum + x := by
  induction T generalizing k with
  | nil => simp at h
  | cons t T ih =>
    cases k with
    | zero => simp; omega
    | succ k =>
      have := ih (k := k) (by simpa using h)
      simp at this ⊢
      omega
theorem innerV_sum {ix : Nat → Nat} {a : Nat} : ∀ (B : List Nat) (j : Nat) (T : List Nat), (∀ j', j ≤ j' → j' < j + B.length → ix j' < T.length) → (innerV ix a j B T).sum = T.sum + a * B.sum
  | [], j, T, h => by simp [innerV]
  | b :: B, j, T, h => by
    rw [innerV, innerV_sum B (j + 1) _ (fun j' h1 h2 => by rw [List.length_set]; exact h j' (by omega) (by simp; omega)), sum_set (h j (Nat.le_refl _) (by simp)), List.sum_cons, Nat.mul_add]
    omega
def enumAt (j : Nat) (xs : List D) : List D := (xs.zipIdx j).map fun p => D.tup [.int (p.2 : Nat), p.1]
theorem enumAt_cons {j : Nat} {x : D} {xs : List D} : enumAt j (x :: xs) = .tup [.int (j : Nat), x] :: enumAt (j + 1) xs := by
  unfold enumAt
  rw [List.zipIdx_cons, List.map_cons]
theorem le_sum {T : List Nat} {k : Nat} (h : k < T.length) : T.getD k 0 ≤ T.sum := by
  induction T generalizing k with
  | nil => simp at h
  | cons t T ih =>
    cases k with
    | zero => simp
    | succ k =>
      have := ih (k := k) (by simpa using h)
      simp at this ⊢
      omega
theorem inner_loop {n i a M N : Nat} {e0 e1 : Option D} {S : List O} {dx : Den} {ix : Nat → Nat} (hM : M ≠ 0) (hN : N ≠ 0) (hMN : M * N < 4294967296) (ha : a ≤ M) (hn : n = S.length)
    (hdx : ∀ (j : Nat) (o4 o6 : D) (S : Store), dx [e0, e1, some (.ref n), some (.int (i : Nat)), some o4, some (.int (j : Nat)), some o6] S = .ok (.int (ix j : Nat)) S) : ∀ (B : List Nat) (j : Nat) (T : List Nat),
    (∀ j', j ≤ j' → j' < j + B.length → ix j' < T.length) → (∀ b ∈ B, b ≤ N) → T.sum + a * B.sum ≤ M * N →
    forD (.tp [.nm 5, .nm 6]) [5, 6] (sSetI (dVar 2) dx (dCall F_plus_fractions [] (aCons (dBin gIdx (dVar 2) dx) (aCons (dCall F_times_fractions [] (aCons (dVar 4) (aCons (dVar 6) (aNil)))) (aNil))))) none (enumAt j (mks N B))
      [e0, e1, some (.ref n), some (.int (i : Nat)), some (fr (mkRat a M)), none, none] (S ++ [.lst (mks (M * N) T)])
    = .nx [e0, e1, some (.ref n), some (.int (i : Nat)), some (fr (mkRat a M)), none, none] (S ++ [.lst (mks (M * N) (innerV ix a j B T))])
  | [], j, T, h, hb, hs => by
    show forD _ _ _ none (enumAt j []) _ _ = _
    unfold enumAt
    rw [List.zipIdx_nil, List.map_nil, forD_nil]
    rfl
  | b :: B, j, T, h, hb, hs => by
    have hk : ix j < T.length := h j (Nat.le_refl _) (by simp)
    have hMN0 : M * N ≠ 0 := Nat.mul_ne_zero hM hN
    have hbN := hb b List.mem_cons_self
    have hab : a * b ≤ M * N := Nat.mul_le_mul ha hbN
    rw [List.sum_cons, Nat.mul_add] at hs
    have hlt := le_sum hk
    have gD : T.getD (ix j) 0 = T[ix j] := by rw [List.getD_eq_getElem?_getD, List.getElem?_eq_getElem hk]; rfl
    have hset : (T.set (ix j) (T.getD (ix j) 0 + a * b)).sum = T.sum + a * b := sum_set hk
    have ih := inner_loop (S := S) (e0 := e0) (e1 := e1) hM hN hMN ha hn hdx B (j + 1) (T.set (ix j) (T.getD (ix j) 0 + a * b)) (fun j' h1 h2 => by rw [List.length_set]; exact h j' (by omega) (by simp; omega)) (fun x hx => hb x (List.mem_cons_of_mem _ hx)) (by rw [hset]; omega)
    have e1' : mks N (b :: B) = fr (mkRat b N) :: mks N B := rfl
    rw [e1', enumAt_cons, forD_cons]
    have t1 : tset (.tp [.nm 5, .nm 6]) (.tup [.int (j : Nat), fr (mkRat b N)]) [e0, e1, some (.ref n), some (.int (i : Nat)), some (fr (mkRat a M)), none, none] = some [e0, e1, some (.ref n), some (.int (i : Nat)), some (fr (mkRat a M)), some (.int (j : Nat)), some (fr (mkRat b N))] := by
      simp -implicitDefEqProofs only [Dn.rbind_ok, Dn.rbind_bad, Dn.rbind_exc, Dn.obind_ok, Dn.obind_bad, Dn.nox_ok, Dn.dVar_zero, Dn.dVar_succ, Dn.dC_eq, Dn.dUn_eq, Dn.dBin_eq, Dn.dBl_eq, Dn.xOf_eq, Dn.xAnd_eq, Dn.xOr_eq, Dn.xNot_eq, Dn.xYes_eq, Dn.dAnd_eq, Dn.dOr_eq, Dn.dNot_eq, Dn.dIf_eq, Dn.aNil_eq, Dn.aCons_eq, Dn.dApp_eq, Dn.dTup_eq, Dn.dLst_eq, Dn.nLst_eq, Dn.dCall_eq, Dn.dChain_eq, Dn.sSet_eq, Dn.sRet_eq, Dn.sRetN_eq, Dn.sDrop_eq, Dn.sIf_eq, Dn.sNext_eq, Dn.sBrk_eq, Dn.sCnt_eq, Dn.sPar_eq, Dn.sPar3_eq, Dn.sAsg_eq, Dn.tset_nm, Dn.tset_tp, Dn.tsets_nil, Dn.tsets_cons, Dn.grd_none, Dn.wipeE_nil, Dn.wipeE_cons, Dn.gEq_int, Dn.gIsN_non, Dn.gIsN_int, Dn.gIsN_str, Dn.gIsN_tup, Dn.gIsN_bl, Dn.gIsN_ib, Dn.gIsN_nb, Dn.gIsN_sb, Dn.gIsN_tb, Dn.gAdd_int, Dn.gAugAdd_int, Dn.gSubI_int, Dn.gLt_int, Dn.gLe_int, Dn.gGt_int, Dn.gGe_int, Dn.gNeg_int, Dn.gAbs_int, Dn.gInt_int, Dn.gMax2_int, Dn.gMin2_int, Dn.asQ_tup, Dn.asQ_lst, Dn.asL_lst, Dn.gIdx_tup0, Dn.gIdx_tup1, Dn.gIdx_tup2, Dn.gLen_tup, Dn.gLen_lst, Dn.gLen_rol, Dn.gTuple_tup, Dn.gTuple_lst, Dn.gList_tup, Dn.gList_lst, Dn.sSetI_eq, Dn.dMtL_eq, Dn.iSeq_lst, Dn.iSeq_tup, Dn.sSeq_eq, Dn.startE, List.set_cons_zero, List.set_cons_succ, List.map_cons, List.map_nil, List.length_cons, List.length_nil, List.cons_append, List.nil_append, List.append_nil, List.replicate_succ, List.replicate_zero, if_true, if_false, ite_true, ite_false, Bool.false_eq_true, decide_true, decide_false, Nat.reduceSub, Nat.reduceAdd, Nat.reduceLeDiff, Bool.not_true, Bool.not_false, reduceIte, reduceCtorEq, Nat.zero_add, Nat.add_zero]
    rw [t1]
    have c1 : (S ++ [O.lst (mks (M * N) T)])[n]? = some (.lst (mks (M * N) T)) := by rw [hn]; exact get_last
    have g1 : gIdx (.ref n) (.int (ix j : Nat)) (S ++ [.lst (mks (M * N) T)]) = .ok (fr (mkRat T[ix j] (M * N))) (S ++ [.lst (mks (M * N) T)]) := gIdx_of (asQ_ref c1) (mks_get hk)
    have hMlt : M < 4294967296 := Nat.lt_of_le_of_lt (Nat.le_mul_of_pos_right _ (Nat.pos_of_ne_zero hN)) hMN
    have hNlt : N < 4294967296 := Nat.lt_of_le_of_lt (Nat.le_mul_of_pos_left _ (Nat.pos_of_ne_zero hM)) hMN
    have g2 : ∀ S, F_times_fractions [fr (mkRat a M), fr (mkRat b N)] S = .ok (fr (mkRat ((a * b : Nat) : Int) (M * N))) S := fun S => by
      rw [ev_times (sm_mk ha hMlt hM) (sm_mk hbN hNlt hN), mk_mul]
    have g3 : ∀ S, F_plus_fractions [fr (mkRat T[ix j] (M * N)), fr (mkRat ((a * b : Nat) : Int) (M * N))] S = .ok (fr (mkRat ((T.getD (ix j) 0 + a * b : Nat) : Int) (M * N))) S := fun S => by
      rw [ev_plus (sm_mk (by rw [← gD]; omega) hMN hMN0) (sm_mk hab hMN hMN0), mk_add hMN0, gD]
    have g4 : ∀ (z : D) (ρ : Dn.Env), setL (.ref n) (.int (ix j : Nat)) z ρ (S ++ [.lst (mks (M * N) T)]) = .nx ρ (S ++ [.lst ((mks (M * N) T).set (ix j) z)]) := fun z ρ => by
      rw [setL_of c1 (by rw [mks_len]; exact hk), hn, set_last]
    simp -implicitDefEqProofs only [Dn.rbind_ok, Dn.rbind_bad, Dn.rbind_exc, Dn.obind_ok, Dn.obind_bad, Dn.nox_ok, Dn.dVar_zero, Dn.dVar_succ, Dn.dC_eq, Dn.dUn_eq, Dn.dBin_eq, Dn.dBl_eq, Dn.xOf_eq, Dn.xAnd_eq, Dn.xOr_eq, Dn.xNot_eq, Dn.xYes_eq, Dn.dAnd_eq, Dn.dOr_eq, Dn.dNot_eq, Dn.dIf_eq, Dn.aNil_eq, Dn.aCons_eq, Dn.dApp_eq, Dn.dTup_eq, Dn.dLst_eq, Dn.nLst_eq, Dn.dCall_eq, Dn.dChain_eq, Dn.sSet_eq, Dn.sRet_eq, Dn.sRetN_eq, Dn.sDrop_eq, Dn.sIf_eq, Dn.sNext_eq, Dn.sBrk_eq, Dn.sCnt_eq, Dn.sPar_eq, Dn.sPar3_eq, Dn.sAsg_eq, Dn.tset_nm, Dn.tset_tp, Dn.tsets_nil, Dn.tsets_cons, Dn.grd_none, Dn.wipeE_nil, Dn.wipeE_cons, Dn.gEq_int, Dn.gIsN_non, Dn.gIsN_int, Dn.gIsN_str, Dn.gIsN_tup, Dn.gIsN_bl, Dn.gIsN_ib, Dn.gIsN_nb, Dn.gIsN_sb, Dn.gIsN_tb, Dn.gAdd_int, Dn.gAugAdd_int, Dn.gSubI_int, Dn.gLt_int, Dn.gLe_int, Dn.gGt_int, Dn.gGe_int, Dn.gNeg_int, Dn.gAbs_int, Dn.gInt_int, Dn.gMax2_int, Dn.gMin2_int, Dn.asQ_tup, Dn.asQ_lst, Dn.asL_lst, Dn.gIdx_tup0, Dn.gIdx_tup1, Dn.gIdx_tup2, Dn.gLen_tup, Dn.gLen_lst, Dn.gLen_rol, Dn.gTuple_tup, Dn.gTuple_lst, Dn.gList_tup, Dn.gList_lst, Dn.sSetI_eq, Dn.dMtL_eq, Dn.iSeq_lst, Dn.iSeq_tup, Dn.sSeq_eq, Dn.startE, List.set_cons_zero, List.set_cons_succ, List.map_cons, List.map_nil, List.length_cons, List.length_nil, List.cons_append, List.nil_append, List.append_nil, List.replicate_succ, List.replicate_zero, if_true, if_false, ite_true, ite_false, Bool.false_eq_true, decide_true, decide_false, Nat.reduceSub, Nat.reduceAdd, Nat.reduceLeDiff, Bool.not_true, Bool.not_false, reduceIte, reduceCtorEq, Nat.zero_add, Nat.add_zero, hdx, g1, g2, g3, g4]
    have e2 : (mks (M * N) T).set (ix j) (fr (mkRat ((T.getD (ix j) 0 + a * b : Nat) : Int) (M * N))) = mks (M * N) (T.set (ix j) (T.getD (ix j) 0 + a * b)) := by
      unfold mks
      rw [List.map_set]
    rw [e2, ih]
    rfl
end Cm

set_option maxHeartbeats 1000000
namespace Cm
open PySem PySem.Spec PyProof.Rows L2 Dn
theorem iEnum_tup {f : Den} {ρ : Dn.Env} {xs : List D} {S S1 : Store} (h : f ρ S = .ok (.tup xs) S1) : Dn.iEnum f ρ S = .ok ⟨enumAt 0 xs, none⟩ S1 := by
  unfold Dn.iEnum
  rw [h]
  rfl
theorem outerV_len {ix : Nat → Nat → Nat} {B : List Nat} : ∀ (A : List Nat) (i : Nat) (T : List Nat), (outerV ix B i A T).length = T.length
  | [], i, T => rfl
  | a :: A, i, T => by rw [outerV, outerV_len A, innerV_len]
theorem outer_loop {n M N : Nat} {d0 : D} {S : List O} {dx : Den} {ix : Nat → Nat → Nat} {B : List Nat} (hM : M ≠ 0) (hN : N ≠ 0) (hMN : M * N < 4294967296) (hn : n = S.length) (hB : ∀ b ∈ B, b ≤ N) (hBs : B.sum ≤ N)
    (hdx : ∀ (i j : Nat) (o4 o6 : D) (S : Store), dx [some d0, some (.tup (mks N B)), some (.ref n), some (.int (i : Nat)), some o4, some (.int (j : Nat)), some o6] S = .ok (.int (ix i j : Nat)) S) : ∀ (A : List Nat) (i : Nat) (T : List Nat),
    (∀ i' j', i ≤ i' → i' < i + A.length → j' < B.length → ix i' j' < T.length) → (∀ a ∈ A, a ≤ M) → T.sum + A.sum * B.sum ≤ M * N →
    forD (.tp [.nm 3, .nm 4]) [3, 4, 5, 6] (sFor (iEnum (dVar 1)) (.tp [.nm 5, .nm 6]) [5, 6] (sSetI (dVar 2) dx (dCall F_plus_fractions [] (aCons (dBin gIdx (dVar 2) dx) (aCons (dCall F_times_fractions [] (aCons (dVar 4) (aCons (dVar 6) (aNil)))) (aNil)))))) none (enumAt i (mks M A))
      [some d0, some (.tup (mks N B)), some (.ref n), none, none, none, none] (S ++ [.lst (mks (M * N) T)])
    = .nx [some d0, some (.tup (mks N B)), some (.ref n), none, none, none, none] (S ++ [.lst (mks (M * N) (outerV ix B i A T))])
  | [], i, T, h, ha, hs => by
    show forD _ _ _ none (enumAt i []) _ _ = _
    unfold enumAt
    rw [List.zipIdx_nil, List.map_nil, forD_nil]
    rfl
  | a :: A, i, T, h, ha, hs => by
    have haM := ha a List.mem_cons_self
    rw [List.sum_cons, Nat.add_mul] at hs
    have hi : (innerV (ix i) a 0 B T).sum = T.sum + a * B.sum := innerV_sum B 0 T fun j' h1 h2 => h i j' (Nat.le_refl _) (by simp) (by omega)
    have il := inner_loop (S := S) (e0 := some d0) (e1 := some (.tup (mks N B))) hM hN hMN haM hn (hdx i) B 0 T (fun j' h1 h2 => h i j' (Nat.le_refl _) (by simp) (by omega)) hB (by omega)
    have ih := outer_loop (S := S) (d0 := d0) hM hN hMN hn hB hBs hdx A (i + 1) (innerV (ix i) a 0 B T) (fun i' j' h1 h2 h3 => by rw [innerV_len]; exact h i' j' (by omega) (by simp; omega) h3) (fun x hx => ha x (List.mem_cons_of_mem _ hx)) (by rw [hi]; omega)
    have e1' : mks M (a :: A) = fr (mkRat a M) :: mks M A := rfl
    rw [e1', enumAt_cons, forD_cons]
    have t1 : tset (.tp [.nm 3, .nm 4]) (.tup [.int (i : Nat), fr (mkRat a M)]) [some d0, some (.tup (mks N B)), some (.ref n), none, none, none, none] = some [some d0, some (.tup (mks N B)), some (.ref n), some (.int (i : Nat)), some (fr (mkRat a M)), none, none] := by
      simp -implicitDefEqProofs only [Dn.rbind_ok, Dn.rbind_bad, Dn.rbind_exc, Dn.obind_ok, Dn.obind_bad, Dn.nox_ok, Dn.dVar_zero, Dn.dVar_succ, Dn.dC_eq, Dn.dUn_eq, Dn.dBin_eq, Dn.dBl_eq, Dn.xOf_eq, Dn.xAnd_eq, Dn.xOr_eq, Dn.xNot_eq, Dn.xYes_eq, Dn.dAnd_eq, Dn.dOr_eq, Dn.dNot_eq, Dn.dIf_eq, Dn.aNil_eq, Dn.aCons_eq, Dn.dApp_eq, Dn.dTup_eq, Dn.dLst_eq, Dn.nLst_eq, Dn.dCall_eq, Dn.dChain_eq, Dn.sSet_eq, Dn.sRet_eq, Dn.sRetN_eq, Dn.sDrop_eq, Dn.sIf_eq, Dn.sNext_eq, Dn.sBrk_eq, Dn.sCnt_eq, Dn.sPar_eq, Dn.sPar3_eq, Dn.sAsg_eq, Dn.tset_nm, Dn.tset_tp, Dn.tsets_nil, Dn.tsets_cons, Dn.grd_none, Dn.wipeE_nil, Dn.wipeE_cons, Dn.gEq_int, Dn.gIsN_non, Dn.gIsN_int, Dn.gIsN_str, Dn.gIsN_tup, Dn.gIsN_bl, Dn.gIsN_ib, Dn.gIsN_nb, Dn.gIsN_sb, Dn.gIsN_tb, Dn.gAdd_int, Dn.gAugAdd_int, Dn.gSubI_int, Dn.gLt_int, Dn.gLe_int, Dn.gGt_int, Dn.gGe_int, Dn.gNeg_int, Dn.gAbs_int, Dn.gInt_int, Dn.gMax2_int, Dn.gMin2_int, Dn.asQ_tup, Dn.asQ_lst, Dn.asL_lst, Dn.gIdx_tup0, Dn.gIdx_tup1, Dn.gIdx_tup2, Dn.gLen_tup, Dn.gLen_lst, Dn.gLen_rol, Dn.gTuple_tup, Dn.gTuple_lst, Dn.gList_tup, Dn.gList_lst, Dn.sSetI_eq, Dn.dMtL_eq, Dn.iSeq_lst, Dn.iSeq_tup, Dn.sSeq_eq, Dn.startE, List.set_cons_zero, List.set_cons_succ, List.map_cons, List.map_nil, List.length_cons, List.length_nil, List.cons_append, List.nil_append, List.append_nil, List.replicate_succ, List.replicate_zero, if_true, if_false, ite_true, ite_false, Bool.false_eq_true, decide_true, decide_false, Nat.reduceSub, Nat.reduceAdd, Nat.reduceLeDiff, Bool.not_true, Bool.not_false, reduceIte, reduceCtorEq, Nat.zero_add, Nat.add_zero]
    have i1 : Dn.iEnum (dVar 1) [some d0, some (.tup (mks N B)), some (.ref n), some (.int (i : Nat)), some (fr (mkRat a M)), none, none] (S ++ [.lst (mks (M * N) T)]) = .ok ⟨enumAt 0 (mks N B), none⟩ (S ++ [.lst (mks (M * N) T)]) := iEnum_tup rfl
    rw [t1]
    simp -implicitDefEqProofs only [Dn.rbind_ok, Dn.rbind_bad, Dn.rbind_exc, Dn.obind_ok, Dn.obind_bad, Dn.nox_ok, Dn.dVar_zero, Dn.dVar_succ, Dn.dC_eq, Dn.dUn_eq, Dn.dBin_eq, Dn.dBl_eq, Dn.xOf_eq, Dn.xAnd_eq, Dn.xOr_eq, Dn.xNot_eq, Dn.xYes_eq, Dn.dAnd_eq, Dn.dOr_eq, Dn.dNot_eq, Dn.dIf_eq, Dn.aNil_eq, Dn.aCons_eq, Dn.dApp_eq, Dn.dTup_eq, Dn.dLst_eq, Dn.nLst_eq, Dn.dCall_eq, Dn.dChain_eq, Dn.sSet_eq, Dn.sRet_eq, Dn.sRetN_eq, Dn.sDrop_eq, Dn.sIf_eq, Dn.sNext_eq, Dn.sBrk_eq, Dn.sCnt_eq, Dn.sPar_eq, Dn.sPar3_eq, Dn.sAsg_eq, Dn.tset_nm, Dn.tset_tp, Dn.tsets_nil, Dn.tsets_cons, Dn.grd_none, Dn.wipeE_nil, Dn.wipeE_cons, Dn.gEq_int, Dn.gIsN_non, Dn.gIsN_int, Dn.gIsN_str, Dn.gIsN_tup, Dn.gIsN_bl, Dn.gIsN_ib, Dn.gIsN_nb, Dn.gIsN_sb, Dn.gIsN_tb, Dn.gAdd_int, Dn.gAugAdd_int, Dn.gSubI_int, Dn.gLt_int, Dn.gLe_int, Dn.gGt_int, Dn.gGe_int, Dn.gNeg_int, Dn.gAbs_int, Dn.gInt_int, Dn.gMax2_int, Dn.gMin2_int, Dn.asQ_tup, Dn.asQ_lst, Dn.asL_lst, Dn.gIdx_tup0, Dn.gIdx_tup1, Dn.gIdx_tup2, Dn.gLen_tup, Dn.gLen_lst, Dn.gLen_rol, Dn.gTuple_tup, Dn.gTuple_lst, Dn.gList_tup, Dn.gList_lst, Dn.sSetI_eq, Dn.dMtL_eq, Dn.iSeq_lst, Dn.iSeq_tup, Dn.sSeq_eq, Dn.startE, List.set_cons_zero, List.set_cons_succ, List.map_cons, List.map_nil, List.length_cons, List.length_nil, List.cons_append, List.nil_append, List.append_nil, List.replicate_succ, List.replicate_zero, if_true, if_false, ite_true, ite_false, Bool.false_eq_true, decide_true, decide_false, Nat.reduceSub, Nat.reduceAdd, Nat.reduceLeDiff, Bool.not_true, Bool.not_false, reduceIte, reduceCtorEq, Nat.zero_add, Nat.add_zero, sFor_eq, i1, il]
    exact ih
theorem gMulN_of {x : D} {k : Nat} {S : List O} (h : k ≤ 1000000) : gMulN (.lst [x]) (.int (k : Nat)) S = .ok (.ref S.length) (S ++ [.lst (List.replicate k x)]) := by
  unfold gMulN
  simp only [asL_lst]
  rw [if_pos ⟨by omega, by omega, small_line (by simp; omega)⟩]
  simp
theorem rep_mks {k M : Nat} : List.replicate k (fr 0) = mks M (List.replicate k 0) := by
  unfold mks
  rw [List.map_replicate]
  have : mkRat ((0 : Nat) : Int) M = 0 := by simp
  rw [this]
theorem rep_sum {k : Nat} : (List.replicate k 0).sum = 0 := by simp
/-- the row of a side of two, of a row of two -/
def convV (A B : List Nat) : List Nat := outerV (fun i j => i + j) B 0 A (List.replicate (A.length + B.length - 1) 0)
def minV (A B : List Nat) : List Nat := outerV (fun i j => min i j) B 0 A (List.replicate (min A.length B.length) 0)
theorem ev_summed {M N : Nat} {A B : List Nat} {S : List O} (hM : M ≠ 0) (hN : N ≠ 0) (hMN : M * N < 4294967296) (hA : A.sum ≤ M) (hB : B.sum ≤ N) (hA0 : A ≠ []) (hB0 : B ≠ []) (hl : A.length + B.length ≤ 1000) :
    F_summed_row [.tup (mks M A), .tup (mks N B)] S = .ok (.tup (mks (M * N) (convV A B))) S := by
  have le_of : ∀ {l : List Nat} {b : Nat}, b ∈ l → b ≤ l.sum := fun {l b} h => by
    induction l with
    | nil => cases h
    | cons x l ih =>
      rcases List.mem_cons.mp h with rfl | h
      · simp
      · have := ih h; simp; omega
  have hAl := List.length_pos_iff.mpr hA0
  have hBl := List.length_pos_iff.mpr hB0
  have hs : A.sum * B.sum ≤ M * N := Nat.mul_le_mul hA hB
  have ol := outer_loop (n := S.length) (S := S) (d0 := .tup (mks M A)) (dx := dBin gAdd (dVar 3) (dVar 5)) (ix := fun i j => i + j) (B := B) hM hN hMN rfl (fun b hb => Nat.le_trans (le_of hb) hB) hB (fun i j o4 o6 S => by
    simp -implicitDefEqProofs only [Dn.rbind_ok, Dn.rbind_bad, Dn.rbind_exc, Dn.obind_ok, Dn.obind_bad, Dn.nox_ok, Dn.dVar_zero, Dn.dVar_succ, Dn.dC_eq, Dn.dUn_eq, Dn.dBin_eq, Dn.dBl_eq, Dn.xOf_eq, Dn.xAnd_eq, Dn.xOr_eq, Dn.xNot_eq, Dn.xYes_eq, Dn.dAnd_eq, Dn.dOr_eq, Dn.dNot_eq, Dn.dIf_eq, Dn.aNil_eq, Dn.aCons_eq, Dn.dApp_eq, Dn.dTup_eq, Dn.dLst_eq, Dn.nLst_eq, Dn.dCall_eq, Dn.dChain_eq, Dn.sSet_eq, Dn.sRet_eq, Dn.sRetN_eq, Dn.sDrop_eq, Dn.sIf_eq, Dn.sNext_eq, Dn.sBrk_eq, Dn.sCnt_eq, Dn.sPar_eq, Dn.sPar3_eq, Dn.sAsg_eq, Dn.tset_nm, Dn.tset_tp, Dn.tsets_nil, Dn.tsets_cons, Dn.grd_none, Dn.wipeE_nil, Dn.wipeE_cons, Dn.gEq_int, Dn.gIsN_non, Dn.gIsN_int, Dn.gIsN_str, Dn.gIsN_tup, Dn.gIsN_bl, Dn.gIsN_ib, Dn.gIsN_nb, Dn.gIsN_sb, Dn.gIsN_tb, Dn.gAdd_int, Dn.gAugAdd_int, Dn.gSubI_int, Dn.gLt_int, Dn.gLe_int, Dn.gGt_int, Dn.gGe_int, Dn.gNeg_int, Dn.gAbs_int, Dn.gInt_int, Dn.gMax2_int, Dn.gMin2_int, Dn.asQ_tup, Dn.asQ_lst, Dn.asL_lst, Dn.gIdx_tup0, Dn.gIdx_tup1, Dn.gIdx_tup2, Dn.gLen_tup, Dn.gLen_lst, Dn.gLen_rol, Dn.gTuple_tup, Dn.gTuple_lst, Dn.gList_tup, Dn.gList_lst, Dn.sSetI_eq, Dn.dMtL_eq, Dn.iSeq_lst, Dn.iSeq_tup, Dn.sSeq_eq, Dn.startE, List.set_cons_zero, List.set_cons_succ, List.map_cons, List.map_nil, List.length_cons, List.length_nil, List.cons_append, List.nil_append, List.append_nil, List.replicate_succ, List.replicate_zero, if_true, if_false, ite_true, ite_false, Bool.false_eq_true, decide_true, decide_false, Nat.reduceSub, Nat.reduceAdd, Nat.reduceLeDiff, Bool.not_true, Bool.not_false, reduceIte, reduceCtorEq, Nat.zero_add, Nat.add_zero]
    rw [Int.natCast_add]) A 0 (List.replicate (A.length + B.length - 1) 0) (fun i' j' _ h1 h2 => by rw [List.length_replicate]; omega) (fun a ha => Nat.le_trans (le_of ha) hA) (by rw [rep_sum]; omega)
  have i1 : Dn.iEnum (dVar 0) [some (.tup (mks M A)), some (.tup (mks N B)), some (.ref S.length), none, none, none, none] (S ++ [.lst (mks (M * N) (List.replicate (A.length + B.length - 1) 0))]) = .ok ⟨enumAt 0 (mks M A), none⟩ (S ++ [.lst (mks (M * N) (List.replicate (A.length + B.length - 1) 0))]) := iEnum_tup rfl
  have z1 : (1 : Nat) ≤ sizeLine := small_line (by omega)
  have g1 : gMulN (.lst [c_NOUGHT]) (.int ((A.length : Int) + (B.length : Int) - 1)) S = .ok (.ref S.length) (S ++ [.lst (mks (M * N) (List.replicate (A.length + B.length - 1) 0))]) := by
    have : ((A.length : Int) + (B.length : Int) - 1) = ((A.length + B.length - 1 : Nat) : Int) := by omega
    rw [this, gMulN_of (by omega), nought, rep_mks]
  refine def_end (S2 := S ++ [.lst (mks (M * N) (convV A B))]) (d := .tup (mks (M * N) (convV A B))) rfl ?_ (frzD_low _ (low_pure _ _ (pure_mks _ _))) (fun i o hi ho => .inl (by rwa [List.getElem?_append_left hi] at ho)) (by simp)
  have g2 : gTuple [.ref S.length] (S ++ [.lst (mks (M * N) (convV A B))]) = .ok (.tup (mks (M * N) (convV A B))) (S ++ [.lst (mks (M * N) (convV A B))]) := gTuple_ref get_last
  unfold convV at g2 ⊢
  simp -implicitDefEqProofs only [Dn.rbind_ok, Dn.rbind_bad, Dn.rbind_exc, Dn.obind_ok, Dn.obind_bad, Dn.nox_ok, Dn.dVar_zero, Dn.dVar_succ, Dn.dC_eq, Dn.dUn_eq, Dn.dBin_eq, Dn.dBl_eq, Dn.xOf_eq, Dn.xAnd_eq, Dn.xOr_eq, Dn.xNot_eq, Dn.xYes_eq, Dn.dAnd_eq, Dn.dOr_eq, Dn.dNot_eq, Dn.dIf_eq, Dn.aNil_eq, Dn.aCons_eq, Dn.dApp_eq, Dn.dTup_eq, Dn.dLst_eq, Dn.nLst_eq, Dn.dCall_eq, Dn.dChain_eq, Dn.sSet_eq, Dn.sRet_eq, Dn.sRetN_eq, Dn.sDrop_eq, Dn.sIf_eq, Dn.sNext_eq, Dn.sBrk_eq, Dn.sCnt_eq, Dn.sPar_eq, Dn.sPar3_eq, Dn.sAsg_eq, Dn.tset_nm, Dn.tset_tp, Dn.tsets_nil, Dn.tsets_cons, Dn.grd_none, Dn.wipeE_nil, Dn.wipeE_cons, Dn.gEq_int, Dn.gIsN_non, Dn.gIsN_int, Dn.gIsN_str, Dn.gIsN_tup, Dn.gIsN_bl, Dn.gIsN_ib, Dn.gIsN_nb, Dn.gIsN_sb, Dn.gIsN_tb, Dn.gAdd_int, Dn.gAugAdd_int, Dn.gSubI_int, Dn.gLt_int, Dn.gLe_int, Dn.gGt_int, Dn.gGe_int, Dn.gNeg_int, Dn.gAbs_int, Dn.gInt_int, Dn.gMax2_int, Dn.gMin2_int, Dn.asQ_tup, Dn.asQ_lst, Dn.asL_lst, Dn.gIdx_tup0, Dn.gIdx_tup1, Dn.gIdx_tup2, Dn.gLen_tup, Dn.gLen_lst, Dn.gLen_rol, Dn.gTuple_tup, Dn.gTuple_lst, Dn.gList_tup, Dn.gList_lst, Dn.sSetI_eq, Dn.dMtL_eq, Dn.iSeq_lst, Dn.iSeq_tup, Dn.sSeq_eq, Dn.startE, List.set_cons_zero, List.set_cons_succ, List.map_cons, List.map_nil, List.length_cons, List.length_nil, List.cons_append, List.nil_append, List.append_nil, List.replicate_succ, List.replicate_zero, if_true, if_false, ite_true, ite_false, Bool.false_eq_true, decide_true, decide_false, Nat.reduceSub, Nat.reduceAdd, Nat.reduceLeDiff, Bool.not_true, Bool.not_false, reduceIte, reduceCtorEq, Nat.zero_add, Nat.add_zero, B_summed_row, z1, mks_len, g1, sFor_eq, i1, ol, g2]
theorem le_of_mem {l : List Nat} {b : Nat} (h : b ∈ l) : b ≤ l.sum := by
  induction l with
  | nil => cases h
  | cons x l ih =>
    rcases List.mem_cons.mp h with rfl | h
    · simp
    · have := ih h; simp; omega
theorem ev_least {M N : Nat} {A B : List Nat} {S : List O} (hM : M ≠ 0) (hN : N ≠ 0) (hMN : M * N < 4294967296) (hA : A.sum ≤ M) (hB : B.sum ≤ N) (hA0 : A ≠ []) (hB0 : B ≠ []) (hl : A.length + B.length ≤ 1000) :
    F_least_row [.tup (mks M A), .tup (mks N B)] S = .ok (.tup (mks (M * N) (minV A B))) S := by
  have hAl := List.length_pos_iff.mpr hA0
  have hBl := List.length_pos_iff.mpr hB0
  have hs : A.sum * B.sum ≤ M * N := Nat.mul_le_mul hA hB
  have mn : ∀ i j : Nat, (if (j : Int) < (i : Int) then (j : Int) else (i : Int)) = ((min i j : Nat) : Int) := fun i j => by
    by_cases h : (j : Int) < (i : Int)
    · rw [if_pos h]; omega
    · rw [if_neg h]; omega
  have ol := outer_loop (n := S.length) (S := S) (d0 := .tup (mks M A)) (dx := dApp gMin2 (aCons (dVar 3) (aCons (dVar 5) (aNil)))) (ix := fun i j => min i j) (B := B) hM hN hMN rfl (fun b hb => Nat.le_trans (le_of_mem hb) hB) hB (fun i j o4 o6 S => by
    simp -implicitDefEqProofs only [Dn.rbind_ok, Dn.rbind_bad, Dn.rbind_exc, Dn.obind_ok, Dn.obind_bad, Dn.nox_ok, Dn.dVar_zero, Dn.dVar_succ, Dn.dC_eq, Dn.dUn_eq, Dn.dBin_eq, Dn.dBl_eq, Dn.xOf_eq, Dn.xAnd_eq, Dn.xOr_eq, Dn.xNot_eq, Dn.xYes_eq, Dn.dAnd_eq, Dn.dOr_eq, Dn.dNot_eq, Dn.dIf_eq, Dn.aNil_eq, Dn.aCons_eq, Dn.dApp_eq, Dn.dTup_eq, Dn.dLst_eq, Dn.nLst_eq, Dn.dCall_eq, Dn.dChain_eq, Dn.sSet_eq, Dn.sRet_eq, Dn.sRetN_eq, Dn.sDrop_eq, Dn.sIf_eq, Dn.sNext_eq, Dn.sBrk_eq, Dn.sCnt_eq, Dn.sPar_eq, Dn.sPar3_eq, Dn.sAsg_eq, Dn.tset_nm, Dn.tset_tp, Dn.tsets_nil, Dn.tsets_cons, Dn.grd_none, Dn.wipeE_nil, Dn.wipeE_cons, Dn.gEq_int, Dn.gIsN_non, Dn.gIsN_int, Dn.gIsN_str, Dn.gIsN_tup, Dn.gIsN_bl, Dn.gIsN_ib, Dn.gIsN_nb, Dn.gIsN_sb, Dn.gIsN_tb, Dn.gAdd_int, Dn.gAugAdd_int, Dn.gSubI_int, Dn.gLt_int, Dn.gLe_int, Dn.gGt_int, Dn.gGe_int, Dn.gNeg_int, Dn.gAbs_int, Dn.gInt_int, Dn.gMax2_int, Dn.gMin2_int, Dn.asQ_tup, Dn.asQ_lst, Dn.asL_lst, Dn.gIdx_tup0, Dn.gIdx_tup1, Dn.gIdx_tup2, Dn.gLen_tup, Dn.gLen_lst, Dn.gLen_rol, Dn.gTuple_tup, Dn.gTuple_lst, Dn.gList_tup, Dn.gList_lst, Dn.sSetI_eq, Dn.dMtL_eq, Dn.iSeq_lst, Dn.iSeq_tup, Dn.sSeq_eq, Dn.startE, List.set_cons_zero, List.set_cons_succ, List.map_cons, List.map_nil, List.length_cons, List.length_nil, List.cons_append, List.nil_append, List.append_nil, List.replicate_succ, List.replicate_zero, if_true, if_false, ite_true, ite_false, Bool.false_eq_true, decide_true, decide_false, Nat.reduceSub, Nat.reduceAdd, Nat.reduceLeDiff, Bool.not_true, Bool.not_false, reduceIte, reduceCtorEq, Nat.zero_add, Nat.add_zero]
    rw [mn]) A 0 (List.replicate (min A.length B.length) 0) (fun i' j' _ h1 h2 => by rw [List.length_replicate]; omega) (fun a ha => Nat.le_trans (le_of_mem ha) hA) (by rw [rep_sum]; omega)
  have i1 : Dn.iEnum (dVar 0) [some (.tup (mks M A)), some (.tup (mks N B)), some (.ref S.length), none, none, none, none] (S ++ [.lst (mks (M * N) (List.replicate (min A.length B.length) 0))]) = .ok ⟨enumAt 0 (mks M A), none⟩ (S ++ [.lst (mks (M * N) (List.replicate (min A.length B.length) 0))]) := iEnum_tup rfl
  have z1 : (1 : Nat) ≤ sizeLine := small_line (by omega)
  have g1 : gMulN (.lst [c_NOUGHT]) (.int ((min A.length B.length : Nat) : Int)) S = .ok (.ref S.length) (S ++ [.lst (mks (M * N) (List.replicate (min A.length B.length) 0))]) := by
    rw [gMulN_of (by omega), nought, rep_mks]
  refine def_end (S2 := S ++ [.lst (mks (M * N) (minV A B))]) (d := .tup (mks (M * N) (minV A B))) rfl ?_ (frzD_low _ (low_pure _ _ (pure_mks _ _))) (fun i o hi ho => .inl (by rwa [List.getElem?_append_left hi] at ho)) (by simp)
  have g2 : gTuple [.ref S.length] (S ++ [.lst (mks (M * N) (minV A B))]) = .ok (.tup (mks (M * N) (minV A B))) (S ++ [.lst (mks (M * N) (minV A B))]) := gTuple_ref get_last
  unfold minV at g2 ⊢
  simp -implicitDefEqProofs only [Dn.rbind_ok, Dn.rbind_bad, Dn.rbind_exc, Dn.obind_ok, Dn.obind_bad, Dn.nox_ok, Dn.dVar_zero, Dn.dVar_succ, Dn.dC_eq, Dn.dUn_eq, Dn.dBin_eq, Dn.dBl_eq, Dn.xOf_eq, Dn.xAnd_eq, Dn.xOr_eq, Dn.xNot_eq, Dn.xYes_eq, Dn.dAnd_eq, Dn.dOr_eq, Dn.dNot_eq, Dn.dIf_eq, Dn.aNil_eq, Dn.aCons_eq, Dn.dApp_eq, Dn.dTup_eq, Dn.dLst_eq, Dn.nLst_eq, Dn.dCall_eq, Dn.dChain_eq, Dn.sSet_eq, Dn.sRet_eq, Dn.sRetN_eq, Dn.sDrop_eq, Dn.sIf_eq, Dn.sNext_eq, Dn.sBrk_eq, Dn.sCnt_eq, Dn.sPar_eq, Dn.sPar3_eq, Dn.sAsg_eq, Dn.tset_nm, Dn.tset_tp, Dn.tsets_nil, Dn.tsets_cons, Dn.grd_none, Dn.wipeE_nil, Dn.wipeE_cons, Dn.gEq_int, Dn.gIsN_non, Dn.gIsN_int, Dn.gIsN_str, Dn.gIsN_tup, Dn.gIsN_bl, Dn.gIsN_ib, Dn.gIsN_nb, Dn.gIsN_sb, Dn.gIsN_tb, Dn.gAdd_int, Dn.gAugAdd_int, Dn.gSubI_int, Dn.gLt_int, Dn.gLe_int, Dn.gGt_int, Dn.gGe_int, Dn.gNeg_int, Dn.gAbs_int, Dn.gInt_int, Dn.gMax2_int, Dn.gMin2_int, Dn.asQ_tup, Dn.asQ_lst, Dn.asL_lst, Dn.gIdx_tup0, Dn.gIdx_tup1, Dn.gIdx_tup2, Dn.gLen_tup, Dn.gLen_lst, Dn.gLen_rol, Dn.gTuple_tup, Dn.gTuple_lst, Dn.gList_tup, Dn.gList_lst, Dn.sSetI_eq, Dn.dMtL_eq, Dn.iSeq_lst, Dn.iSeq_tup, Dn.sSeq_eq, Dn.startE, List.set_cons_zero, List.set_cons_succ, List.map_cons, List.map_nil, List.length_cons, List.length_nil, List.cons_append, List.nil_append, List.append_nil, List.replicate_succ, List.replicate_zero, if_true, if_false, ite_true, ite_false, Bool.false_eq_true, decide_true, decide_false, Nat.reduceSub, Nat.reduceAdd, Nat.reduceLeDiff, Bool.not_true, Bool.not_false, reduceIte, reduceCtorEq, Nat.zero_add, Nat.add_zero, B_least_row, z1, mks_len, mn, g1, sFor_eq, i1, ol, g2]
end Cm

set_option maxHeartbeats 1000000
namespace Cm
open PySem PySem.Spec PyProof.Rows L2 Dn
/-! ### kinds -/
section
variable {S : Store} {xs : List D} {i : Int} {x : Str}
theorem isi_of {T : String} {d : D} {b : Bool} (hr : ∀ n, d ≠ .ref n) (hl : ∀ n, d ≠ .rol n) (h : kitB (tyOf d) T = some b) : gIsi T [d] S = .ok (.bl b) S := by
  cases d with
  | ref n => exact absurd rfl (hr n)
  | rol n => exact absurd rfl (hl n)
  | _ => (show (match kitB _ T with
    | some b => Res.ok (D.bl b) S
    | none => .bad) = _); rw [h]
theorem kit_ii : kitB "int" "int" = some true := by decide +kernel
theorem kit_ti : kitB "tuple" "int" = some false := by decide +kernel
theorem kit_ib : kitB "int" "bool" = some false := by decide +kernel
theorem kit_it : kitB "int" "tuple" = some false := by decide +kernel
theorem kit_tt : kitB "tuple" "tuple" = some true := by decide +kernel
theorem kit_is : kitB "int" "str" = some false := by decide +kernel
theorem isi_ii : gIsi "int" [.int i] S = .ok (.bl true) S := isi_of (by simp) (by simp) kit_ii
theorem isi_it : gIsi "int" [.tup xs] S = .ok (.bl false) S := isi_of (by simp) (by simp) kit_ti
theorem isi_bi : gIsi "bool" [.int i] S = .ok (.bl false) S := isi_of (by simp) (by simp) kit_ib
theorem isi_ti : gIsi "tuple" [.int i] S = .ok (.bl false) S := isi_of (by simp) (by simp) kit_it
theorem isi_tt : gIsi "tuple" [.tup xs] S = .ok (.bl true) S := isi_of (by simp) (by simp) kit_tt
theorem isi_si : gIsi "str" [.int i] S = .ok (.bl false) S := isi_of (by simp) (by simp) kit_is
end
theorem ev_isint {i : Int} {S : Store} : F_is_int [.int i] S = .ok (.bl true) S := by
  refine def_rt rfl ?_ rfl
  simp -implicitDefEqProofs only [Dn.rbind_ok, Dn.rbind_bad, Dn.rbind_exc, Dn.obind_ok, Dn.obind_bad, Dn.nox_ok, Dn.dVar_zero, Dn.dVar_succ, Dn.dC_eq, Dn.dUn_eq, Dn.dBin_eq, Dn.dBl_eq, Dn.xOf_eq, Dn.xAnd_eq, Dn.xOr_eq, Dn.xNot_eq, Dn.xYes_eq, Dn.dAnd_eq, Dn.dOr_eq, Dn.dNot_eq, Dn.dIf_eq, Dn.aNil_eq, Dn.aCons_eq, Dn.dApp_eq, Dn.dTup_eq, Dn.dLst_eq, Dn.nLst_eq, Dn.dCall_eq, Dn.dChain_eq, Dn.sSet_eq, Dn.sRet_eq, Dn.sRetN_eq, Dn.sDrop_eq, Dn.sIf_eq, Dn.sNext_eq, Dn.sBrk_eq, Dn.sCnt_eq, Dn.sPar_eq, Dn.sPar3_eq, Dn.sAsg_eq, Dn.tset_nm, Dn.tset_tp, Dn.tsets_nil, Dn.tsets_cons, Dn.grd_none, Dn.wipeE_nil, Dn.wipeE_cons, Dn.gEq_int, Dn.gIsN_non, Dn.gIsN_int, Dn.gIsN_str, Dn.gIsN_tup, Dn.gIsN_bl, Dn.gIsN_ib, Dn.gIsN_nb, Dn.gIsN_sb, Dn.gIsN_tb, Dn.gAdd_int, Dn.gAugAdd_int, Dn.gSubI_int, Dn.gLt_int, Dn.gLe_int, Dn.gGt_int, Dn.gGe_int, Dn.gNeg_int, Dn.gAbs_int, Dn.gInt_int, Dn.gMax2_int, Dn.gMin2_int, Dn.asQ_tup, Dn.asQ_lst, Dn.asL_lst, Dn.gIdx_tup0, Dn.gIdx_tup1, Dn.gIdx_tup2, Dn.gLen_tup, Dn.gLen_lst, Dn.gLen_rol, Dn.gTuple_tup, Dn.gTuple_lst, Dn.gList_tup, Dn.gList_lst, Dn.sSetI_eq, Dn.dMtL_eq, Dn.iSeq_lst, Dn.iSeq_tup, Dn.sSeq_eq, Dn.startE, List.set_cons_zero, List.set_cons_succ, List.map_cons, List.map_nil, List.length_cons, List.length_nil, List.cons_append, List.nil_append, List.append_nil, List.replicate_succ, List.replicate_zero, if_true, if_false, ite_true, ite_false, Bool.false_eq_true, decide_true, decide_false, Nat.reduceSub, Nat.reduceAdd, Nat.reduceLeDiff, Bool.not_true, Bool.not_false, reduceIte, reduceCtorEq, Nat.zero_add, Nat.add_zero, B_is_int, isi_ii, isi_bi]
theorem ev_isint_t {xs : List D} {S : Store} : F_is_int [.tup xs] S = .ok (.bl false) S := by
  refine def_rt rfl ?_ rfl
  simp -implicitDefEqProofs only [Dn.rbind_ok, Dn.rbind_bad, Dn.rbind_exc, Dn.obind_ok, Dn.obind_bad, Dn.nox_ok, Dn.dVar_zero, Dn.dVar_succ, Dn.dC_eq, Dn.dUn_eq, Dn.dBin_eq, Dn.dBl_eq, Dn.xOf_eq, Dn.xAnd_eq, Dn.xOr_eq, Dn.xNot_eq, Dn.xYes_eq, Dn.dAnd_eq, Dn.dOr_eq, Dn.dNot_eq, Dn.dIf_eq, Dn.aNil_eq, Dn.aCons_eq, Dn.dApp_eq, Dn.dTup_eq, Dn.dLst_eq, Dn.nLst_eq, Dn.dCall_eq, Dn.dChain_eq, Dn.sSet_eq, Dn.sRet_eq, Dn.sRetN_eq, Dn.sDrop_eq, Dn.sIf_eq, Dn.sNext_eq, Dn.sBrk_eq, Dn.sCnt_eq, Dn.sPar_eq, Dn.sPar3_eq, Dn.sAsg_eq, Dn.tset_nm, Dn.tset_tp, Dn.tsets_nil, Dn.tsets_cons, Dn.grd_none, Dn.wipeE_nil, Dn.wipeE_cons, Dn.gEq_int, Dn.gIsN_non, Dn.gIsN_int, Dn.gIsN_str, Dn.gIsN_tup, Dn.gIsN_bl, Dn.gIsN_ib, Dn.gIsN_nb, Dn.gIsN_sb, Dn.gIsN_tb, Dn.gAdd_int, Dn.gAugAdd_int, Dn.gSubI_int, Dn.gLt_int, Dn.gLe_int, Dn.gGt_int, Dn.gGe_int, Dn.gNeg_int, Dn.gAbs_int, Dn.gInt_int, Dn.gMax2_int, Dn.gMin2_int, Dn.asQ_tup, Dn.asQ_lst, Dn.asL_lst, Dn.gIdx_tup0, Dn.gIdx_tup1, Dn.gIdx_tup2, Dn.gLen_tup, Dn.gLen_lst, Dn.gLen_rol, Dn.gTuple_tup, Dn.gTuple_lst, Dn.gList_tup, Dn.gList_lst, Dn.sSetI_eq, Dn.dMtL_eq, Dn.iSeq_lst, Dn.iSeq_tup, Dn.sSeq_eq, Dn.startE, List.set_cons_zero, List.set_cons_succ, List.map_cons, List.map_nil, List.length_cons, List.length_nil, List.cons_append, List.nil_append, List.append_nil, List.replicate_succ, List.replicate_zero, if_true, if_false, ite_true, ite_false, Bool.false_eq_true, decide_true, decide_false, Nat.reduceSub, Nat.reduceAdd, Nat.reduceLeDiff, Bool.not_true, Bool.not_false, reduceIte, reduceCtorEq, Nat.zero_add, Nat.add_zero, B_is_int, isi_it]
theorem ev_isnum {i : Int} {S : Store} (h : 0 ≤ i) : F_is_number [.int i, .int 0, .non] S = .ok (.bl true) S := by
  refine def_rt rfl ?_ rfl
  have e : ∀ S, F_is_int [.int i] S = .ok (.bl true) S := fun S => ev_isint
  simp -implicitDefEqProofs only [Dn.rbind_ok, Dn.rbind_bad, Dn.rbind_exc, Dn.obind_ok, Dn.obind_bad, Dn.nox_ok, Dn.dVar_zero, Dn.dVar_succ, Dn.dC_eq, Dn.dUn_eq, Dn.dBin_eq, Dn.dBl_eq, Dn.xOf_eq, Dn.xAnd_eq, Dn.xOr_eq, Dn.xNot_eq, Dn.xYes_eq, Dn.dAnd_eq, Dn.dOr_eq, Dn.dNot_eq, Dn.dIf_eq, Dn.aNil_eq, Dn.aCons_eq, Dn.dApp_eq, Dn.dTup_eq, Dn.dLst_eq, Dn.nLst_eq, Dn.dCall_eq, Dn.dChain_eq, Dn.sSet_eq, Dn.sRet_eq, Dn.sRetN_eq, Dn.sDrop_eq, Dn.sIf_eq, Dn.sNext_eq, Dn.sBrk_eq, Dn.sCnt_eq, Dn.sPar_eq, Dn.sPar3_eq, Dn.sAsg_eq, Dn.tset_nm, Dn.tset_tp, Dn.tsets_nil, Dn.tsets_cons, Dn.grd_none, Dn.wipeE_nil, Dn.wipeE_cons, Dn.gEq_int, Dn.gIsN_non, Dn.gIsN_int, Dn.gIsN_str, Dn.gIsN_tup, Dn.gIsN_bl, Dn.gIsN_ib, Dn.gIsN_nb, Dn.gIsN_sb, Dn.gIsN_tb, Dn.gAdd_int, Dn.gAugAdd_int, Dn.gSubI_int, Dn.gLt_int, Dn.gLe_int, Dn.gGt_int, Dn.gGe_int, Dn.gNeg_int, Dn.gAbs_int, Dn.gInt_int, Dn.gMax2_int, Dn.gMin2_int, Dn.asQ_tup, Dn.asQ_lst, Dn.asL_lst, Dn.gIdx_tup0, Dn.gIdx_tup1, Dn.gIdx_tup2, Dn.gLen_tup, Dn.gLen_lst, Dn.gLen_rol, Dn.gTuple_tup, Dn.gTuple_lst, Dn.gList_tup, Dn.gList_lst, Dn.sSetI_eq, Dn.dMtL_eq, Dn.iSeq_lst, Dn.iSeq_tup, Dn.sSeq_eq, Dn.startE, List.set_cons_zero, List.set_cons_succ, List.map_cons, List.map_nil, List.length_cons, List.length_nil, List.cons_append, List.nil_append, List.append_nil, List.replicate_succ, List.replicate_zero, if_true, if_false, ite_true, ite_false, Bool.false_eq_true, decide_true, decide_false, Nat.reduceSub, Nat.reduceAdd, Nat.reduceLeDiff, Bool.not_true, Bool.not_false, reduceIte, reduceCtorEq, Nat.zero_add, Nat.add_zero, B_is_number, e, h]
theorem ev_isnum_t {xs : List D} {S : Store} : F_is_number [.tup xs, .int 0, .non] S = .ok (.bl false) S := by
  refine def_rt rfl ?_ rfl
  have e : ∀ S, F_is_int [.tup xs] S = .ok (.bl false) S := fun S => ev_isint_t
  simp -implicitDefEqProofs only [Dn.rbind_ok, Dn.rbind_bad, Dn.rbind_exc, Dn.obind_ok, Dn.obind_bad, Dn.nox_ok, Dn.dVar_zero, Dn.dVar_succ, Dn.dC_eq, Dn.dUn_eq, Dn.dBin_eq, Dn.dBl_eq, Dn.xOf_eq, Dn.xAnd_eq, Dn.xOr_eq, Dn.xNot_eq, Dn.xYes_eq, Dn.dAnd_eq, Dn.dOr_eq, Dn.dNot_eq, Dn.dIf_eq, Dn.aNil_eq, Dn.aCons_eq, Dn.dApp_eq, Dn.dTup_eq, Dn.dLst_eq, Dn.nLst_eq, Dn.dCall_eq, Dn.dChain_eq, Dn.sSet_eq, Dn.sRet_eq, Dn.sRetN_eq, Dn.sDrop_eq, Dn.sIf_eq, Dn.sNext_eq, Dn.sBrk_eq, Dn.sCnt_eq, Dn.sPar_eq, Dn.sPar3_eq, Dn.sAsg_eq, Dn.tset_nm, Dn.tset_tp, Dn.tsets_nil, Dn.tsets_cons, Dn.grd_none, Dn.wipeE_nil, Dn.wipeE_cons, Dn.gEq_int, Dn.gIsN_non, Dn.gIsN_int, Dn.gIsN_str, Dn.gIsN_tup, Dn.gIsN_bl, Dn.gIsN_ib, Dn.gIsN_nb, Dn.gIsN_sb, Dn.gIsN_tb, Dn.gAdd_int, Dn.gAugAdd_int, Dn.gSubI_int, Dn.gLt_int, Dn.gLe_int, Dn.gGt_int, Dn.gGe_int, Dn.gNeg_int, Dn.gAbs_int, Dn.gInt_int, Dn.gMax2_int, Dn.gMin2_int, Dn.asQ_tup, Dn.asQ_lst, Dn.asL_lst, Dn.gIdx_tup0, Dn.gIdx_tup1, Dn.gIdx_tup2, Dn.gLen_tup, Dn.gLen_lst, Dn.gLen_rol, Dn.gTuple_tup, Dn.gTuple_lst, Dn.gList_tup, Dn.gList_lst, Dn.sSetI_eq, Dn.dMtL_eq, Dn.iSeq_lst, Dn.iSeq_tup, Dn.sSeq_eq, Dn.startE, List.set_cons_zero, List.set_cons_succ, List.map_cons, List.map_nil, List.length_cons, List.length_nil, List.cons_append, List.nil_append, List.append_nil, List.replicate_succ, List.replicate_zero, if_true, if_false, ite_true, ite_false, Bool.false_eq_true, decide_true, decide_false, Nat.reduceSub, Nat.reduceAdd, Nat.reduceLeDiff, Bool.not_true, Bool.not_false, reduceIte, reduceCtorEq, Nat.zero_add, Nat.add_zero, B_is_number, e]
/-! ### lots joined -/
def kI (i : Int) : Key := .inl i
/-- what is met, in the order of meeting -/
def meet (ks : List Int) : List Int → List Int
  | [] => ks
  | i :: is => meet (if i ∈ ks then ks else ks ++ [i]) is
theorem kI_mem {i : Int} {ks : List Int} : (kI i ∈ ks.map kI) ↔ i ∈ ks := by
  constructor
  · intro h
    obtain ⟨j, hj, e⟩ := List.mem_map.mp h
    cases e; exact hj
  · exact fun h => List.mem_map_of_mem h
theorem stD_same {κ τ : Type} [DecidableEq κ] {y : τ} : ∀ (ks : List κ) (n : Nat) (i : κ), ks.length = n → stD ks (List.replicate n y) i y = List.replicate n y
  | [], 0, _, _ => rfl
  | k :: ks, n + 1, i, h => by
    show (if k = i then y else y) :: stD ks (List.replicate n y) i y = y :: List.replicate n y
    rw [stD_same ks n i (by simpa using h)]
    simp
  | [], n + 1, _, h => by simp at h
  | k :: ks, 0, _, h => by simp at h
def onesO (ks : List Int) : O := .dI (ks.map kI) (List.replicate ks.length (.bl true))
theorem putI_ones {ks : List Int} {i : Int} : putI (ks.map kI) (List.replicate ks.length (.bl true)) (.inl i) (.bl true) = onesO (if i ∈ ks then ks else ks ++ [i]) := by
  unfold putI onesO
  by_cases h : i ∈ ks
  · rw [if_pos (show (Sum.inl i : Key) ∈ ks.map kI from kI_mem.mpr h), if_pos h, stD_same _ _ _ (by simp)]
  · rw [if_neg (show ¬ (Sum.inl i : Key) ∈ ks.map kI from fun z => h (kI_mem.mp z)), if_neg h]
    simp [kI, List.replicate_succ']
theorem cellI_ref {S : Store} {n : Nat} {ks : List Key} {xs : List D} (h : S[n]? = some (.dI ks xs)) : cellI S (.ref n) = some (n, ks, xs) := by unfold cellI; simp only; rw [h]
theorem meet_len : ∀ (is ks : List Int), (meet ks is).length ≤ ks.length + is.length
  | [], ks => by simp [meet]
  | i :: is, ks => by
    rw [meet]
    have := meet_len is (if i ∈ ks then ks else ks ++ [i])
    split at this
    · rw [if_pos ‹_›]; simp; omega
    · rw [if_neg ‹_›]; simp at this ⊢; omega
theorem meet_app : ∀ (is js ks : List Int), meet ks (is ++ js) = meet (meet ks is) js
  | [], js, ks => rfl
  | i :: is, js, ks => by rw [List.cons_append, meet, meet, meet_app is js]
theorem meet_le : ∀ (is ks : List Int), ks.length ≤ (meet ks is).length
  | [], ks => Nat.le_refl _
  | i :: is, ks => by
    rw [meet]
    refine Nat.le_trans ?_ (meet_le is _)
    split <;> simp
def sPut (a b : D) (ρ : Dn.Env) (S : Store) (z : D) : Out := match cellI S a, keyOf b with
  | some (n, ks, xs), some k => if ks.length < sizeLine then .nx ρ (S.set n (putI ks xs k z)) else .bad
  | _, _ => .bad
theorem sSetD_eq {o i v : Den} {ρ : Dn.Env} {S : Store} : sSetD o i v ρ S = obind (v ρ S) ρ fun z S1 => obind (o ρ S1) ρ fun x S2 => obind (i ρ S2) ρ fun y S3 => sPut x y ρ S3 z := rfl
theorem cellI_ones {S : List O} {ks : List Int} : cellI (S ++ [onesO ks]) (.ref S.length) = some (S.length, ks.map kI, List.replicate ks.length (.bl true)) := cellI_ref get_last
theorem sPut_of {S : Store} {n : Nat} {ks : List Key} {xs : List D} {b z : D} {k : Key} {ρ : Dn.Env} (h : S[n]? = some (.dI ks xs)) (hk : keyOf b = some k) (hl : ks.length < 1000000) : sPut (.ref n) b ρ S z = .nx ρ (S.set n (putI ks xs k z)) := by
  unfold sPut
  rw [cellI_ref h, hk]
  exact if_pos (small_lt (by omega))
theorem lots_in {e0 e2 : Option D} {S : List O} : ∀ (is ks : List Int), ks.length + is.length < 1000000 →
    forD (.nm 3) [3] (sSetD (dVar 1) (dVar 3) (dC (.bl true))) none (is.map D.int) [e0, some (.ref S.length), e2, none] (S ++ [onesO ks])
      = .nx [e0, some (.ref S.length), e2, none] (S ++ [onesO (meet ks is)])
  | [], ks, h => by rw [List.map_nil, forD_nil]; rfl
  | i :: is, ks, h => by
    have ih := lots_in (e0 := e0) (e2 := e2) (S := S) is (if i ∈ ks then ks else ks ++ [i]) (by split <;> simp at h ⊢ <;> omega)
    have g1 : ∀ ρ, sPut (.ref S.length) (.int i) ρ (S ++ [onesO ks]) (.bl true) = .nx ρ (S ++ [onesO (if i ∈ ks then ks else ks ++ [i])]) := fun ρ => by
      rw [sPut_of (S := S ++ [onesO ks]) (ks := ks.map kI) (xs := List.replicate ks.length (.bl true)) (k := .inl i) (b := .int i) get_last rfl (by simp at h ⊢; omega), set_last, putI_ones]
    rw [List.map_cons, forD_cons, meet]
    simp -implicitDefEqProofs only [Dn.rbind_ok, Dn.rbind_bad, Dn.rbind_exc, Dn.obind_ok, Dn.obind_bad, Dn.nox_ok, Dn.dVar_zero, Dn.dVar_succ, Dn.dC_eq, Dn.dUn_eq, Dn.dBin_eq, Dn.dBl_eq, Dn.xOf_eq, Dn.xAnd_eq, Dn.xOr_eq, Dn.xNot_eq, Dn.xYes_eq, Dn.dAnd_eq, Dn.dOr_eq, Dn.dNot_eq, Dn.dIf_eq, Dn.aNil_eq, Dn.aCons_eq, Dn.dApp_eq, Dn.dTup_eq, Dn.dLst_eq, Dn.nLst_eq, Dn.dCall_eq, Dn.dChain_eq, Dn.sSet_eq, Dn.sRet_eq, Dn.sRetN_eq, Dn.sDrop_eq, Dn.sIf_eq, Dn.sNext_eq, Dn.sBrk_eq, Dn.sCnt_eq, Dn.sPar_eq, Dn.sPar3_eq, Dn.sAsg_eq, Dn.tset_nm, Dn.tset_tp, Dn.tsets_nil, Dn.tsets_cons, Dn.grd_none, Dn.wipeE_nil, Dn.wipeE_cons, Dn.gEq_int, Dn.gIsN_non, Dn.gIsN_int, Dn.gIsN_str, Dn.gIsN_tup, Dn.gIsN_bl, Dn.gIsN_ib, Dn.gIsN_nb, Dn.gIsN_sb, Dn.gIsN_tb, Dn.gAdd_int, Dn.gAugAdd_int, Dn.gSubI_int, Dn.gLt_int, Dn.gLe_int, Dn.gGt_int, Dn.gGe_int, Dn.gNeg_int, Dn.gAbs_int, Dn.gInt_int, Dn.gMax2_int, Dn.gMin2_int, Dn.asQ_tup, Dn.asQ_lst, Dn.asL_lst, Dn.gIdx_tup0, Dn.gIdx_tup1, Dn.gIdx_tup2, Dn.gLen_tup, Dn.gLen_lst, Dn.gLen_rol, Dn.gTuple_tup, Dn.gTuple_lst, Dn.gList_tup, Dn.gList_lst, Dn.sSetI_eq, Dn.dMtL_eq, Dn.iSeq_lst, Dn.iSeq_tup, Dn.sSeq_eq, Dn.startE, List.set_cons_zero, List.set_cons_succ, List.map_cons, List.map_nil, List.length_cons, List.length_nil, List.cons_append, List.nil_append, List.append_nil, List.replicate_succ, List.replicate_zero, if_true, if_false, ite_true, ite_false, Bool.false_eq_true, decide_true, decide_false, Nat.reduceSub, Nat.reduceAdd, Nat.reduceLeDiff, Bool.not_true, Bool.not_false, reduceIte, reduceCtorEq, Nat.zero_add, Nat.add_zero, sSetD_eq, g1]
    exact ih
theorem lots_out {e0 : Option D} {S : List O} : ∀ (ls : List (List Int)) (ks : List Int), ks.length + ls.flatten.length < 1000000 →
    forD (.nm 2) [2, 3] (sFor (iSeq (dVar 2)) (.nm 3) [3] (sSetD (dVar 1) (dVar 3) (dC (.bl true)))) none (ls.map mkT) [e0, some (.ref S.length), none, none] (S ++ [onesO ks])
      = .nx [e0, some (.ref S.length), none, none] (S ++ [onesO (meet ks ls.flatten)])
  | [], ks, h => by rw [List.map_nil, forD_nil]; rfl
  | l :: ls, ks, h => by
    rw [List.flatten_cons, List.length_append] at h
    have hm := meet_len l ks
    have ih := lots_out (e0 := e0) (S := S) ls (meet ks l) (by omega)
    have g1 := lots_in (e0 := e0) (e2 := some (mkT l)) (S := S) l ks (by omega)
    have i1 : iSeq (dVar 2) [e0, some (.ref S.length), some (mkT l), none] (S ++ [onesO ks]) = .ok ⟨l.map D.int, none⟩ (S ++ [onesO ks]) := iSeq_tup rfl
    rw [List.map_cons, forD_cons, List.flatten_cons, meet_app]
    simp -implicitDefEqProofs only [Dn.rbind_ok, Dn.rbind_bad, Dn.rbind_exc, Dn.obind_ok, Dn.obind_bad, Dn.nox_ok, Dn.dVar_zero, Dn.dVar_succ, Dn.dC_eq, Dn.dUn_eq, Dn.dBin_eq, Dn.dBl_eq, Dn.xOf_eq, Dn.xAnd_eq, Dn.xOr_eq, Dn.xNot_eq, Dn.xYes_eq, Dn.dAnd_eq, Dn.dOr_eq, Dn.dNot_eq, Dn.dIf_eq, Dn.aNil_eq, Dn.aCons_eq, Dn.dApp_eq, Dn.dTup_eq, Dn.dLst_eq, Dn.nLst_eq, Dn.dCall_eq, Dn.dChain_eq, Dn.sSet_eq, Dn.sRet_eq, Dn.sRetN_eq, Dn.sDrop_eq, Dn.sIf_eq, Dn.sNext_eq, Dn.sBrk_eq, Dn.sCnt_eq, Dn.sPar_eq, Dn.sPar3_eq, Dn.sAsg_eq, Dn.tset_nm, Dn.tset_tp, Dn.tsets_nil, Dn.tsets_cons, Dn.grd_none, Dn.wipeE_nil, Dn.wipeE_cons, Dn.gEq_int, Dn.gIsN_non, Dn.gIsN_int, Dn.gIsN_str, Dn.gIsN_tup, Dn.gIsN_bl, Dn.gIsN_ib, Dn.gIsN_nb, Dn.gIsN_sb, Dn.gIsN_tb, Dn.gAdd_int, Dn.gAugAdd_int, Dn.gSubI_int, Dn.gLt_int, Dn.gLe_int, Dn.gGt_int, Dn.gGe_int, Dn.gNeg_int, Dn.gAbs_int, Dn.gInt_int, Dn.gMax2_int, Dn.gMin2_int, Dn.asQ_tup, Dn.asQ_lst, Dn.asL_lst, Dn.gIdx_tup0, Dn.gIdx_tup1, Dn.gIdx_tup2, Dn.gLen_tup, Dn.gLen_lst, Dn.gLen_rol, Dn.gTuple_tup, Dn.gTuple_lst, Dn.gList_tup, Dn.gList_lst, Dn.sSetI_eq, Dn.dMtL_eq, Dn.iSeq_lst, Dn.iSeq_tup, Dn.sSeq_eq, Dn.startE, List.set_cons_zero, List.set_cons_succ, List.map_cons, List.map_nil, List.length_cons, List.length_nil, List.cons_append, List.nil_append, List.append_nil, List.replicate_succ, List.replicate_zero, if_true, if_false, ite_true, ite_false, Bool.false_eq_true, decide_true, decide_false, Nat.reduceSub, Nat.reduceAdd, Nat.reduceLeDiff, Bool.not_true, Bool.not_false, reduceIte, reduceCtorEq, Nat.zero_add, Nat.add_zero, sFor_eq, i1, g1]
    exact ih
def joinL (ls : List (List Int)) : List Int := sortI (meet [] ls.flatten)
theorem ev_lots {ls : List (List Int)} {d : D} {S : List O} (h : ls.flatten.length < 1000000) (hd : d = .lst (ls.map mkT) ∨ d = .tup (ls.map mkT)) : F_joined_lots [d] S = .ok (mkT (joinL ls)) S := by
  have i1 : iSeq (dVar 0) [some d, some (.ref S.length), none, none] (S ++ [onesO []]) = .ok ⟨ls.map mkT, none⟩ (S ++ [onesO []]) := by
    rcases hd with rfl | rfl
    · exact iSeq_lst rfl
    · exact iSeq_tup rfl
  have e1 := lots_out (e0 := some d) (S := S) ls [] (by simpa using h)
  have e2 : gListD [.ref S.length] (S ++ [onesO (meet [] ls.flatten)]) = .ok (.lst ((meet [] ls.flatten).map D.int)) (S ++ [onesO (meet [] ls.flatten)]) := by
    show (match cellI (S ++ [onesO (meet [] ls.flatten)]) (.ref S.length) with
    | some (_, ks, _) => Res.ok (D.lst (ks.map kD)) (S ++ [onesO (meet [] ls.flatten)])
    | none => .bad) = _
    rw [cellI_ones]
    simp only [List.map_map]
    rfl
  have e3 : gSortA [.lst ((meet [] ls.flatten).map D.int)] (S ++ [onesO (meet [] ls.flatten)]) = .ok (.lst ((joinL ls).map D.int)) (S ++ [onesO (meet [] ls.flatten)]) := gSortA_ints
  have e4 : ∀ S, gTuple [.lst ((joinL ls).map D.int)] S = .ok (mkT (joinL ls)) S := fun S => rfl
  refine def_end (S2 := S ++ [onesO (meet [] ls.flatten)]) (d := mkT (joinL ls)) rfl ?_ (frzD_low _ (low_pure _ _ (pure_mkT _))) (fun i o hi ho => .inl (by rwa [List.getElem?_append_left hi] at ho)) (by simp)
  have n0 : ∀ ρ, nDict ρ S = .ok (.ref S.length) (S ++ [onesO []]) := fun ρ => rfl
  simp -implicitDefEqProofs only [Dn.rbind_ok, Dn.rbind_bad, Dn.rbind_exc, Dn.obind_ok, Dn.obind_bad, Dn.nox_ok, Dn.dVar_zero, Dn.dVar_succ, Dn.dC_eq, Dn.dUn_eq, Dn.dBin_eq, Dn.dBl_eq, Dn.xOf_eq, Dn.xAnd_eq, Dn.xOr_eq, Dn.xNot_eq, Dn.xYes_eq, Dn.dAnd_eq, Dn.dOr_eq, Dn.dNot_eq, Dn.dIf_eq, Dn.aNil_eq, Dn.aCons_eq, Dn.dApp_eq, Dn.dTup_eq, Dn.dLst_eq, Dn.nLst_eq, Dn.dCall_eq, Dn.dChain_eq, Dn.sSet_eq, Dn.sRet_eq, Dn.sRetN_eq, Dn.sDrop_eq, Dn.sIf_eq, Dn.sNext_eq, Dn.sBrk_eq, Dn.sCnt_eq, Dn.sPar_eq, Dn.sPar3_eq, Dn.sAsg_eq, Dn.tset_nm, Dn.tset_tp, Dn.tsets_nil, Dn.tsets_cons, Dn.grd_none, Dn.wipeE_nil, Dn.wipeE_cons, Dn.gEq_int, Dn.gIsN_non, Dn.gIsN_int, Dn.gIsN_str, Dn.gIsN_tup, Dn.gIsN_bl, Dn.gIsN_ib, Dn.gIsN_nb, Dn.gIsN_sb, Dn.gIsN_tb, Dn.gAdd_int, Dn.gAugAdd_int, Dn.gSubI_int, Dn.gLt_int, Dn.gLe_int, Dn.gGt_int, Dn.gGe_int, Dn.gNeg_int, Dn.gAbs_int, Dn.gInt_int, Dn.gMax2_int, Dn.gMin2_int, Dn.asQ_tup, Dn.asQ_lst, Dn.asL_lst, Dn.gIdx_tup0, Dn.gIdx_tup1, Dn.gIdx_tup2, Dn.gLen_tup, Dn.gLen_lst, Dn.gLen_rol, Dn.gTuple_tup, Dn.gTuple_lst, Dn.gList_tup, Dn.gList_lst, Dn.sSetI_eq, Dn.dMtL_eq, Dn.iSeq_lst, Dn.iSeq_tup, Dn.sSeq_eq, Dn.startE, List.set_cons_zero, List.set_cons_succ, List.map_cons, List.map_nil, List.length_cons, List.length_nil, List.cons_append, List.nil_append, List.append_nil, List.replicate_succ, List.replicate_zero, if_true, if_false, ite_true, ite_false, Bool.false_eq_true, decide_true, decide_false, Nat.reduceSub, Nat.reduceAdd, Nat.reduceLeDiff, Bool.not_true, Bool.not_false, reduceIte, reduceCtorEq, Nat.zero_add, Nat.add_zero, B_joined_lots, n0, sFor_eq, i1, e1, e2, e3, e4]
end Cm

set_option maxHeartbeats 1000000
/-! ### terms as trees -/
inductive Tre where
  | leaf (i : Nat)
  | node (k : PySem.Str) (ts : List Tre)
namespace Tre
open PySem L2 Dn Cm
mutual
def val : Tre → D
  | .leaf i => .int (i : Nat)
  | .node k ts => .tup [.str k, .tup (vals ts)]
def vals : List Tre → List D
  | [] => []
  | t :: ts => t.val :: vals ts
end
mutual
def size : Tre → Nat
  | .leaf _ => 1
  | .node _ ts => sizes ts + 1
def sizes : List Tre → Nat
  | [] => 0
  | t :: ts => t.size + sizes ts
end
mutual
def leaves : Tre → List Nat
  | .leaf i => [i]
  | .node _ ts => leavess ts
def leavess : List Tre → List Nat
  | [] => []
  | t :: ts => t.leaves ++ leavess ts
end
mutual
def things : Tre → List Int
  | .leaf i => [(i : Int)]
  | .node _ ts => joinL (thingss ts)
def thingss : List Tre → List (List Int)
  | [] => []
  | t :: ts => t.things :: thingss ts
end
/-- the numbers of the parts' rows, the first one beginning at b -/
def roots : Nat → List Tre → List Nat
  | _, [] => []
  | b, t :: ts => (b + t.size - 1) :: roots (b + t.size) ts
/-- a part's own row -/
def row (b : Nat) : Tre → D
  | .leaf i => .tup [.non, .tup [], mkT [(i : Int)]]
  | .node k ts => .tup [.str k, .tup ((roots b ts).map fun (n : Nat) => D.int (n : Nat)), mkT (things (.node k ts))]
mutual
def rows : Nat → Tre → List D
  | b, .leaf i => [row b (.leaf i)]
  | b, .node k ts => rowss b ts ++ [row b (.node k ts)]
def rowss : Nat → List Tre → List D
  | _, [] => []
  | b, t :: ts => rows b t ++ rowss (b + t.size) ts
end
def pre (b : Nat) : Tre → List D
  | .leaf _ => []
  | .node _ ts => rowss b ts
def kids : Tre → List Tre
  | .leaf _ => []
  | .node _ ts => ts
theorem rows_pre (b : Nat) (t : Tre) : rows b t = pre b t ++ [row b t] := by
  cases t with
  | leaf i => rw [rows, pre]; rfl
  | node k ts => rw [rows, pre]
theorem vals_len : ∀ ts : List Tre, (vals ts).length = ts.length
  | [] => by rw [vals]; rfl
  | t :: ts => by rw [vals, List.length_cons, vals_len ts]; rfl
theorem vals_eq : ∀ ts : List Tre, vals ts = ts.map val
  | [] => by rw [vals]; rfl
  | t :: ts => by rw [vals, vals_eq ts]; rfl
theorem thingss_eq : ∀ ts : List Tre, thingss ts = ts.map things
  | [] => by rw [thingss]; rfl
  | t :: ts => by rw [thingss, thingss_eq ts]; rfl
theorem leavess_eq : ∀ ts : List Tre, leavess ts = ts.flatMap leaves
  | [] => by rw [leavess]; rfl
  | t :: ts => by rw [leavess, leavess_eq ts]; rfl
theorem size_pos (t : Tre) : 0 < t.size := by
  cases t with
  | leaf i => rw [size]; omega
  | node k ts => rw [size]; omega
mutual
theorem rows_len : ∀ (b : Nat) (t : Tre), (rows b t).length = t.size
  | b, .leaf i => by rw [rows, size]; rfl
  | b, .node k ts => by rw [rows, size, List.length_append, rowss_len b ts]; rfl
theorem rowss_len : ∀ (b : Nat) (ts : List Tre), (rowss b ts).length = sizes ts
  | b, [] => by rw [rowss, sizes]; rfl
  | b, t :: ts => by rw [rowss, sizes, List.length_append, rows_len b t, rowss_len _ ts]
end
theorem roots_len : ∀ (b : Nat) (ts : List Tre), (roots b ts).length = ts.length
  | b, [] => rfl
  | b, t :: ts => by rw [roots, List.length_cons, roots_len _ ts, List.length_cons]
theorem roots_app : ∀ (b : Nat) (ts us : List Tre), roots b (ts ++ us) = roots b ts ++ roots (b + sizes ts) us
  | b, [], us => by rw [roots, sizes]; rfl
  | b, t :: ts, us => by rw [List.cons_append, roots, roots, roots_app _ ts us, sizes, Nat.add_assoc]; rfl
theorem sizes_app : ∀ ts us : List Tre, sizes (ts ++ us) = sizes ts + sizes us
  | [], us => by rw [sizes]; simp
  | t :: ts, us => by rw [List.cons_append, sizes, sizes, sizes_app ts us, Nat.add_assoc]
theorem rowss_app : ∀ (b : Nat) (ts us : List Tre), rowss b (ts ++ us) = rowss b ts ++ rowss (b + sizes ts) us
  | b, [], us => by rw [rowss, sizes]; rfl
  | b, t :: ts, us => by rw [List.cons_append, rowss, rowss, rowss_app _ ts us, sizes, List.append_assoc, Nat.add_assoc]
/-- where the parts' own rows lie -/
theorem rowss_get {x : List D} : ∀ (b : Nat) (R0 : List D) (ts : List Tre), R0.length = b → F2 (fun (n : Nat) (t : Tre) => ∃ c, (R0 ++ rowss b ts ++ x)[n]? = some (row c t)) (roots b ts) ts
  | b, R0, [], h => .nil
  | b, R0, t :: ts, h => by
    rw [roots]
    have ih := rowss_get (x := x) (b + t.size) (R0 ++ rows b t) ts (by rw [List.length_append, rows_len, h])
    rw [rowss, ← List.append_assoc R0]
    refine .cons ⟨b, ?_⟩ ih
    rw [rows_pre, List.append_assoc, List.append_assoc R0, List.append_assoc (pre b t)]
    have hl : (pre b t).length + 1 = t.size := by
      have := rows_len b t
      rw [rows_pre, List.length_append] at this
      exact this
    rw [List.getElem?_append_right (by omega), List.getElem?_append_right (by omega)]
    have : b + t.size - 1 - R0.length - (pre b t).length = 0 := by omega
    rw [this]
    rfl
mutual
theorem things_ne : ∀ t : Tre, t.things.length ≤ t.leaves.length
  | .leaf i => by rw [things, leaves]; simp
  | .node k ts => by
    rw [things, leaves]
    unfold joinL sortI
    rw [List.length_mergeSort]
    exact Nat.le_trans (meet_len _ _) (by simpa using thingss_le ts)
theorem thingss_le : ∀ ts : List Tre, (thingss ts).flatten.length ≤ (leavess ts).length
  | [] => by rw [thingss, leavess]; simp
  | t :: ts => by
    have h1 := things_ne t
    have h2 := thingss_le ts
    rw [thingss, leavess, List.flatten_cons, List.length_append, List.length_append]
    omega
end
end Tre
namespace Dn
open PySem PySem.Spec PyProof.Rows L2 Cm
/-! ### comprehensions over a guarded source -/
theorem lcGo_g {t : Tgt} {ft : DenT} {fe : Den} {ρ : Dn.Env} {S : List O} {p : D → Bool} {g : D → D} {grd : Option (Nat × O)} (hg : ∀ acc, grdOk grd (S ++ [.lst acc])) : ∀ (xs acc : List D),
    (∀ x ∈ xs, ∀ acc : List D, ∃ ρ1, tset t x ρ = some ρ1 ∧ ft ρ1 (S ++ [.lst acc]) = .ok (p x) (S ++ [.lst acc]) ∧ (p x = true → fe ρ1 (S ++ [.lst acc]) = .ok (g x) (S ++ [.lst acc]))) →
    lcGo t ft fe grd S.length ρ xs acc (S ++ [.lst acc]) = .ok () (S ++ [.lst (acc ++ (xs.filter p).map g)])
  | [], acc, h => by
    rw [lcGo]
    exact (if_pos (hg _)).trans (by simp)
  | x :: xs, acc, h => by
    obtain ⟨ρ1, h1, h2, h3⟩ := h x List.mem_cons_self acc
    have ih := fun acc => lcGo_g hg xs acc fun y hy => h y (List.mem_cons_of_mem _ hy)
    rw [lcGo]
    refine (if_pos (hg _)).trans ?_
    rw [h1]
    simp only
    rw [h2]
    simp only [nox_ok, rbind_ok]
    cases hp : p x with
    | false =>
      simp only [Bool.false_eq_true, if_false]
      rw [if_pos get_last, ih, List.filter_cons_of_neg (by simp [hp])]
    | true =>
      simp only [if_true]
      rw [h3 hp]
      simp only [nox_ok, rbind_ok]
      rw [if_pos get_last, set_last, ih, List.filter_cons_of_pos hp]
      simp
theorem dLc_g {it : DenI} {vs : List Nat} {t : Tgt} {ft : DenT} {fe : Den} {ρ : Dn.Env} {S : List O} {xs : List D} {p : D → Bool} {g : D → D} {grd : Option (Nat × O)} (hi : it ρ S = .ok ⟨xs, grd⟩ S) (hg : ∀ acc, grdOk grd (S ++ [.lst acc]))
    (h : ∀ x ∈ xs, ∀ acc : List D, ∃ ρ1, tset t x (wipeC ρ vs) = some ρ1 ∧ ft ρ1 (S ++ [.lst acc]) = .ok (p x) (S ++ [.lst acc]) ∧ (p x = true → fe ρ1 (S ++ [.lst acc]) = .ok (g x) (S ++ [.lst acc])))
    (hp : lowDs S.length ((xs.filter p).map g) = true) : dLc it vs t ft fe ρ S = .ok (.lst ((xs.filter p).map g)) S := by
  unfold dLc
  rw [hi]
  simp only [rbind_ok]
  rw [lcGo_g hg xs [] h]
  simp only [rbind_ok, List.nil_append]
  rw [drop_eq (frz_ref get_last (by omega) hp) (fun i o hi ho => ?_)]
  · simp
  · left
    rw [List.getElem?_append_left hi] at ho
    exact ho
/-- a comprehension without a filter, told by a relation -/
theorem dLc_rel {it : DenI} {vs : List Nat} {t : Tgt} {fe : Den} {ρ : Dn.Env} {S : List O} {xs ys : List D} {grd : Option (Nat × O)} (hi : it ρ S = .ok ⟨xs, grd⟩ S) (hg : ∀ acc, grdOk grd (S ++ [.lst acc]))
    (h : F2 (fun x y => ∀ acc : List D, ∃ ρ1, tset t x (wipeC ρ vs) = some ρ1 ∧ fe ρ1 (S ++ [.lst acc]) = .ok y (S ++ [.lst acc])) xs ys)
    (hp : lowDs S.length ys = true) : dLc it vs t xYes fe ρ S = .ok (.lst ys) S := by
  have key : ∀ (xs ys acc : List D), F2 (fun x y => ∀ acc : List D, ∃ ρ1, tset t x (wipeC ρ vs) = some ρ1 ∧ fe ρ1 (S ++ [.lst acc]) = .ok y (S ++ [.lst acc])) xs ys →
      lcGo t xYes fe grd S.length (wipeC ρ vs) xs acc (S ++ [.lst acc]) = .ok () (S ++ [.lst (acc ++ ys)]) := by
    intro xs ys acc h
    induction h generalizing acc with
    | nil => rw [lcGo]; exact (if_pos (hg _)).trans (by simp)
    | @cons x y xs ys h t ih =>
      obtain ⟨ρ1, h1, h2⟩ := h acc
      rw [lcGo]
      refine (if_pos (hg _)).trans ?_
      rw [h1]
      simp only [xYes_eq, nox_ok, rbind_ok, if_true]
      rw [h2]
      simp only [nox_ok, rbind_ok]
      rw [if_pos get_last, set_last, ih]
      simp
  unfold dLc
  rw [hi]
  simp only [rbind_ok]
  rw [key xs ys [] h]
  simp only [rbind_ok, List.nil_append]
  rw [drop_eq (frz_ref get_last (by omega) hp) (fun i o hi ho => ?_)]
  · simp
  · left
    rw [List.getElem?_append_left hi] at ho
    exact ho
theorem iSeq_ref {f : Den} {ρ : Dn.Env} {S : Store} {n : Nat} {xs : List D} (h : f ρ S = .ok (.ref n) S) (hn : S[n]? = some (.lst xs)) : iSeq f ρ S = .ok ⟨xs, some (n, .lst xs)⟩ S := by
  unfold iSeq
  rw [h]
  simp only [rbind_ok]
  unfold asG
  simp only
  rw [hn]
theorem grd_app {S : Store} {n : Nat} {o : O} (h : S[n]? = some o) (L : List O) : grdOk (some (n, o)) (S ++ L) := by
  show (S ++ L)[n]? = some o
  rw [List.getElem?_append_left (List.getElem?_eq_some_iff.mp h).1]
  exact h
end Dn

set_option maxHeartbeats 1000000
namespace Cm
open PySem PySem.Spec PyProof.Rows L2 Dn
/-! ### term_rows -/
def trC : DenT := xOf (dBin (gGt) (dApp gLen (aCons (dVar 2) (aNil))) (dC (.int 0)))
noncomputable def trN : DenT := xOf (dCall F_is_number [.int 0, .non] (aCons (dVar 3) (aNil)))
noncomputable def trP : DenS := sDrop (dMtL gAppend (dVar 2) (aCons (dTup (aCons (dBin gIdx (dBin gIdx (dVar 3) (dC (.int 1))) (dApp gLen (aCons (dVar 4) (aNil)))) (aCons (nLst (aNil)) (aNil)))) (aNil)))
noncomputable def trF : DenS := (sSeq (sIf trN (sDrop (dMtL gAppend (dVar 1) (aCons (dTup (aCons (dC .non) (aCons (dTup (aNil)) (aCons (dTup (aCons (dVar 3) (aNil))) (aNil))))) (aNil)))) (sDrop (dMtL gAppend (dVar 1) (aCons (dTup (aCons (dBin gIdx (dVar 3) (dC (.int 0))) (aCons (dApp gTuple (aCons (dVar 4) (aNil))) (aCons (dCall F_joined_lots [] (aCons (dLc (iSeq (dVar 4)) [5] (.nm 5) (xYes) (dBin gIdx (dBin gIdx (dVar 1) (dVar 5)) (dC (.int 2)))) (aNil))) (aNil))))) (aNil))))) (sSeq (sDrop (dMtL gPop (dVar 2) aNil)) (sIf (xOf (dBin (gGt) (dApp gLen (aCons (dVar 2) (aNil))) (dC (.int 0)))) (sDrop (dMtL gAppend (dBin gIdx (dBin gIdx (dVar 2) (dUn gNeg (dC (.int 1)))) (dC (.int 1))) (aCons (dBin gSubI (dApp gLen (aCons (dVar 1) (aNil))) (dC (.int 1))) (aNil)))) (sNext))))
noncomputable def trB : DenS := (sSeq (sAsg (.tp [.nm 3, .nm 4]) (dBin gIdx (dVar 2) (dUn gNeg (dC (.int 1))))) (sIf (xAnd (xNot trN) (xOf (dBin (gLt) (dApp gLen (aCons (dVar 4) (aNil))) (dApp gLen (aCons (dBin gIdx (dVar 3) (dC (.int 1))) (aNil)))))) trP trF))
theorem term_rows_body : B_term_rows = sSeq (sAsg (.tp [.nm 1, .nm 2]) (dTup (aCons (nLst (aNil)) (aCons (nLst (aCons (dTup (aCons (dVar 0) (aCons (nLst (aNil)) (aNil)))) (aNil))) (aNil))))) (sSeq (sWhile trC [3, 4] trB) (sRet (dApp gTuple (aCons (dVar 1) (aNil))))) := rfl
def trE (t : D) (r s : Nat) (x y : Option D) : Dn.Env := [some t, some (.ref r), some (.ref s), x, y, none]
structure TrAt (r s : Nat) (S : Store) (R K : List D) : Prop where
  hr : S[r]? = some (.lst R)
  hs : S[s]? = some (.lst K)
structure Keeps (X : List Nat) (S S' : Store) : Prop where
  len : S.length ≤ S'.length
  at_ : ∀ j, j < S.length → j ∉ X → S'[j]? = S[j]?
theorem Keeps.refl {X : List Nat} {S : Store} : Keeps X S S := ⟨Nat.le_refl _, fun _ _ _ => rfl⟩
theorem Keeps.trans {X Y Z : List Nat} {S S' S2 : Store} (a : Keeps X S S') (b : Keeps Y S' S2) (hx : ∀ j, j < S.length → j ∈ X → j ∈ Z) (hy : ∀ j, j < S.length → j ∈ Y → j ∈ Z) : Keeps Z S S2 :=
  ⟨Nat.le_trans a.len b.len, fun j hj hn => by
    rw [b.at_ j (Nat.lt_of_lt_of_le hj a.len) (fun h => hn (hy j hj h)), a.at_ j hj (fun h => hn (hx j hj h))]⟩
def TrRun (t : D) (r s : Nat) (S S' : Store) : Prop := ∃ n, ∀ m, whileN trC [3, 4] trB (n + m) (trE t r s none none) S = whileN trC [3, 4] trB m (trE t r s none none) S'
theorem TrRun.refl {t : D} {r s : Nat} {S : Store} : TrRun t r s S S := ⟨0, fun m => by rw [Nat.zero_add]⟩
theorem TrRun.trans {t : D} {r s : Nat} {S S' S2 : Store} (a : TrRun t r s S S') (b : TrRun t r s S' S2) : TrRun t r s S S2 := by
  obtain ⟨n, hn⟩ := a
  obtain ⟨k, hk⟩ := b
  exact ⟨n + k, fun m => by rw [Nat.add_assoc, hn, hk]⟩
theorem TrRun.step {t : D} {r s : Nat} {S S' : Store} {K : List D} {k x y : D} (hs : S[s]? = some (.lst (K ++ [k]))) (h : trB (trE t r s none none) S = .nx (trE t r s (some x) (some y)) S') : TrRun t r s S S' := by
  refine ⟨1, fun m => ?_⟩
  rw [Nat.add_comm, whileN_succ]
  have g1 : gLen [.ref s] S = .ok (.int ((K ++ [k]).length : Nat)) S := gLen_ref hs
  have d1 : decide ((0 : Int) < (((K ++ [k]).length : Nat) : Int)) = true := decide_eq_true (by rw [List.length_append, List.length_singleton]; omega)
  have e1 : trC (trE t r s none none) S = .ok true S := by
    simp -implicitDefEqProofs only [Dn.rbind_ok, Dn.rbind_bad, Dn.rbind_exc, Dn.obind_ok, Dn.obind_bad, Dn.nox_ok, Dn.dVar_zero, Dn.dVar_succ, Dn.dC_eq, Dn.dUn_eq, Dn.dBin_eq, Dn.dBl_eq, Dn.xOf_eq, Dn.xAnd_eq, Dn.xOr_eq, Dn.xNot_eq, Dn.xYes_eq, Dn.dAnd_eq, Dn.dOr_eq, Dn.dNot_eq, Dn.dIf_eq, Dn.aNil_eq, Dn.aCons_eq, Dn.dApp_eq, Dn.dTup_eq, Dn.dLst_eq, Dn.nLst_eq, Dn.dCall_eq, Dn.dChain_eq, Dn.sSet_eq, Dn.sRet_eq, Dn.sRetN_eq, Dn.sDrop_eq, Dn.sIf_eq, Dn.sNext_eq, Dn.sBrk_eq, Dn.sCnt_eq, Dn.sPar_eq, Dn.sPar3_eq, Dn.sAsg_eq, Dn.tset_nm, Dn.tset_tp, Dn.tsets_nil, Dn.tsets_cons, Dn.grd_none, Dn.wipeE_nil, Dn.wipeE_cons, Dn.gEq_int, Dn.gIsN_non, Dn.gIsN_int, Dn.gIsN_str, Dn.gIsN_tup, Dn.gIsN_bl, Dn.gIsN_ib, Dn.gIsN_nb, Dn.gIsN_sb, Dn.gIsN_tb, Dn.gAdd_int, Dn.gAugAdd_int, Dn.gSubI_int, Dn.gLt_int, Dn.gLe_int, Dn.gGt_int, Dn.gGe_int, Dn.gNeg_int, Dn.gAbs_int, Dn.gInt_int, Dn.gMax2_int, Dn.gMin2_int, Dn.asQ_tup, Dn.asQ_lst, Dn.asL_lst, Dn.gIdx_tup0, Dn.gIdx_tup1, Dn.gIdx_tup2, Dn.gLen_tup, Dn.gLen_lst, Dn.gLen_rol, Dn.gTuple_tup, Dn.gTuple_lst, Dn.gList_tup, Dn.gList_lst, Dn.sSetI_eq, Dn.dMtL_eq, Dn.iSeq_lst, Dn.iSeq_tup, Dn.sSeq_eq, Dn.startE, List.set_cons_zero, List.set_cons_succ, List.map_cons, List.map_nil, List.length_cons, List.length_nil, List.cons_append, List.nil_append, List.append_nil, List.replicate_succ, List.replicate_zero, if_true, if_false, ite_true, ite_false, Bool.false_eq_true, decide_true, decide_false, Nat.reduceSub, Nat.reduceAdd, Nat.reduceLeDiff, Bool.not_true, Bool.not_false, reduceIte, reduceCtorEq, Nat.zero_add, Nat.add_zero, trC, trE, g1, d1]
  rw [e1]
  simp only [obind_ok, if_true]
  rw [h]
  rfl
theorem getLast_app {α : Type} {K : List α} {k : α} : (K ++ [k]).getLast? = some k := by simp
/-- a part is begun -/
theorem tr_push {t : D} {r s a : Nat} {S : Store} {R K : List D} {k : Str} {ps us : List Tre} {u : Tre} {idx : List D} (A : TrAt r s S R (K ++ [.tup [(Tre.node k (ps ++ u :: us)).val, .ref a]])) (ha : S[a]? = some (.lst idx)) (hi : idx.length = ps.length) (hl : K.length < 1000) (hrs : r ≠ s) (has : a ≠ s) (har : a ≠ r) :
    ∃ S', TrRun t r s S S' ∧ TrAt r s S' R (K ++ [.tup [(Tre.node k (ps ++ u :: us)).val, .ref a]] ++ [.tup [u.val, .ref S.length]]) ∧ S'[a]? = some (.lst idx) ∧ S'[S.length]? = some (.lst []) ∧ Keeps [s] S S' := by
  have ls : s < S.length := (List.getElem?_eq_some_iff.mp A.hs).1
  have lr : r < S.length := (List.getElem?_eq_some_iff.mp A.hr).1
  have la : a < S.length := (List.getElem?_eq_some_iff.mp ha).1
  refine ⟨(S ++ [O.lst []]).set s (.lst (K ++ [.tup [(Tre.node k (ps ++ u :: us)).val, .ref a]] ++ [.tup [u.val, .ref S.length]])), TrRun.step (x := (Tre.node k (ps ++ u :: us)).val) (y := .ref a) A.hs ?_, ⟨?_, ?_⟩, ?_, ?_, ?_, ?_⟩
  · have g1 : gIdx (.ref s) (.int (-1)) S = .ok (.tup [(Tre.node k (ps ++ u :: us)).val, .ref a]) S := gIdx_last (asQ_ref A.hs) getLast_app
    have g2 : gLen [.ref a] S = .ok (.int (idx.length : Nat)) S := gLen_ref ha
    have nv : (Tre.node k (ps ++ u :: us)).val = .tup [.str k, .tup (Tre.vals (ps ++ u :: us))] := by rw [Tre.val]
    have ll : (Tre.vals (ps ++ u :: us)).length = ps.length + (us.length + 1) := by rw [Tre.vals_len]; simp
    have d1 : decide ((idx.length : Int) < ((Tre.vals (ps ++ u :: us)).length : Int)) = true := decide_eq_true (by rw [ll]; omega)
    have e1 : ∀ S, F_is_number [.tup [.str k, .tup (Tre.vals (ps ++ u :: us))], .int 0, .non] S = .ok (.bl false) S := fun S => ev_isnum_t
    have g3 : gIdx (.tup (Tre.vals (ps ++ u :: us))) (.int (idx.length : Nat)) S = .ok u.val S := gIdx_of rfl (by rw [hi, Tre.vals_eq]; simp)
    have g4 : asL S (.ref s) = some (K ++ [.tup [(Tre.node k (ps ++ u :: us)).val, .ref a]]) := asL_ref A.hs
    have hs2 : (S ++ [O.lst []])[s]? = some (.lst (K ++ [.tup [(Tre.node k (ps ++ u :: us)).val, .ref a]])) := by rw [List.getElem?_append_left ls]; exact A.hs
    have g5 : ∀ d, gAppend (.ref s) [d] (S ++ [O.lst []]) = .ok .non ((S ++ [O.lst []]).set s (.lst (K ++ [.tup [(Tre.node k (ps ++ u :: us)).val, .ref a]] ++ [d]))) := fun d => gAppend_of hs2 (small_lt (by simp; omega))
    have z0 : (0 : Nat) ≤ sizeLine := Nat.zero_le _
    have z2 : (2 : Nat) ≤ sizeLine := small_line (by omega)
    rw [nv] at g1 g4 g5 ⊢
    simp -implicitDefEqProofs only [Dn.rbind_ok, Dn.rbind_bad, Dn.rbind_exc, Dn.obind_ok, Dn.obind_bad, Dn.nox_ok, Dn.dVar_zero, Dn.dVar_succ, Dn.dC_eq, Dn.dUn_eq, Dn.dBin_eq, Dn.dBl_eq, Dn.xOf_eq, Dn.xAnd_eq, Dn.xOr_eq, Dn.xNot_eq, Dn.xYes_eq, Dn.dAnd_eq, Dn.dOr_eq, Dn.dNot_eq, Dn.dIf_eq, Dn.aNil_eq, Dn.aCons_eq, Dn.dApp_eq, Dn.dTup_eq, Dn.dLst_eq, Dn.nLst_eq, Dn.dCall_eq, Dn.dChain_eq, Dn.sSet_eq, Dn.sRet_eq, Dn.sRetN_eq, Dn.sDrop_eq, Dn.sIf_eq, Dn.sNext_eq, Dn.sBrk_eq, Dn.sCnt_eq, Dn.sPar_eq, Dn.sPar3_eq, Dn.sAsg_eq, Dn.tset_nm, Dn.tset_tp, Dn.tsets_nil, Dn.tsets_cons, Dn.grd_none, Dn.wipeE_nil, Dn.wipeE_cons, Dn.gEq_int, Dn.gIsN_non, Dn.gIsN_int, Dn.gIsN_str, Dn.gIsN_tup, Dn.gIsN_bl, Dn.gIsN_ib, Dn.gIsN_nb, Dn.gIsN_sb, Dn.gIsN_tb, Dn.gAdd_int, Dn.gAugAdd_int, Dn.gSubI_int, Dn.gLt_int, Dn.gLe_int, Dn.gGt_int, Dn.gGe_int, Dn.gNeg_int, Dn.gAbs_int, Dn.gInt_int, Dn.gMax2_int, Dn.gMin2_int, Dn.asQ_tup, Dn.asQ_lst, Dn.asL_lst, Dn.gIdx_tup0, Dn.gIdx_tup1, Dn.gIdx_tup2, Dn.gLen_tup, Dn.gLen_lst, Dn.gLen_rol, Dn.gTuple_tup, Dn.gTuple_lst, Dn.gList_tup, Dn.gList_lst, Dn.sSetI_eq, Dn.dMtL_eq, Dn.iSeq_lst, Dn.iSeq_tup, Dn.sSeq_eq, Dn.startE, List.set_cons_zero, List.set_cons_succ, List.map_cons, List.map_nil, List.length_cons, List.length_nil, List.cons_append, List.nil_append, List.append_nil, List.replicate_succ, List.replicate_zero, if_true, if_false, ite_true, ite_false, Bool.false_eq_true, decide_true, decide_false, Nat.reduceSub, Nat.reduceAdd, Nat.reduceLeDiff, Bool.not_true, Bool.not_false, reduceIte, reduceCtorEq, Nat.zero_add, Nat.add_zero, trB, trE, trP, trN, g1, g2, e1, d1, g3, g4, g5, z0, z2]
  · rw [List.getElem?_set_ne (Ne.symm hrs), List.getElem?_append_left lr]; exact A.hr
  · rw [List.getElem?_set_self (by simp; omega)]
  · rw [List.getElem?_set_ne (Ne.symm has), List.getElem?_append_left la]; exact ha
  · rw [List.getElem?_set_ne (by omega)]; exact get_last
  · simp
  · intro j hj hn
    rw [List.getElem?_set_ne (by simpa using Ne.symm (by simpa using hn)), List.getElem?_append_left hj]
theorem dropLast_app {α : Type} {K : List α} {k : α} : (K ++ [k]).dropLast = K := by simp
theorem pure_nums (ns : List Nat) : pureDs (ns.map fun (n : Nat) => D.int (n : Nat)) = true := pures_iff.mpr fun x hx => by
  obtain ⟨n, _, rfl⟩ := List.mem_map.mp hx
  rfl
/-- a part is ended: its row stands -/
theorem tr_row {t : D} {r s a : Nat} {S : Store} {R K : List D} {u : Tre} (A : TrAt r s S (R ++ Tre.pre R.length u) (K ++ [.tup [u.val, .ref a]])) (ha : S[a]? = some (.lst ((Tre.roots R.length u.kids).map fun (n : Nat) => D.int (n : Nat)))) (hl : R.length + u.size < 1000) (hv : u.leaves.length < 1000) :
    (sIf trN (sDrop (dMtL gAppend (dVar 1) (aCons (dTup (aCons (dC .non) (aCons (dTup (aNil)) (aCons (dTup (aCons (dVar 3) (aNil))) (aNil))))) (aNil)))) (sDrop (dMtL gAppend (dVar 1) (aCons (dTup (aCons (dBin gIdx (dVar 3) (dC (.int 0))) (aCons (dApp gTuple (aCons (dVar 4) (aNil))) (aCons (dCall F_joined_lots [] (aCons (dLc (iSeq (dVar 4)) [5] (.nm 5) (xYes) (dBin gIdx (dBin gIdx (dVar 1) (dVar 5)) (dC (.int 2)))) (aNil))) (aNil))))) (aNil)))))
      (trE t r s (some u.val) (some (.ref a))) S = .nx (trE t r s (some u.val) (some (.ref a))) (S.set r (.lst (R ++ Tre.rows R.length u))) := by
  have g4 : asL S (.ref r) = some (R ++ Tre.pre R.length u) := asL_ref A.hr
  have hpl : (R ++ Tre.pre R.length u).length < 1000 := by
    have := Tre.rows_len R.length u
    rw [Tre.rows_pre, List.length_append] at this
    rw [List.length_append]
    simp at this
    omega
  have g5 : ∀ d, gAppend (.ref r) [d] S = .ok .non (S.set r (.lst (R ++ Tre.pre R.length u ++ [d]))) := fun d => gAppend_of A.hr (small_lt (by omega))
  have z0 : (0 : Nat) ≤ sizeLine := Nat.zero_le _
  have z1 : (1 : Nat) ≤ sizeLine := small_line (by omega)
  have z3 : (3 : Nat) ≤ sizeLine := small_line (by omega)
  rw [Tre.rows_pre, ← List.append_assoc]
  cases u with
  | leaf i =>
    have e1 : ∀ S, F_is_number [.int (i : Nat), .int 0, .non] S = .ok (.bl true) S := fun S => ev_isnum (by omega)
    have nv : (Tre.leaf i).val = .int (i : Nat) := by rw [Tre.val]
    rw [nv]
    simp -implicitDefEqProofs only [Dn.rbind_ok, Dn.rbind_bad, Dn.rbind_exc, Dn.obind_ok, Dn.obind_bad, Dn.nox_ok, Dn.dVar_zero, Dn.dVar_succ, Dn.dC_eq, Dn.dUn_eq, Dn.dBin_eq, Dn.dBl_eq, Dn.xOf_eq, Dn.xAnd_eq, Dn.xOr_eq, Dn.xNot_eq, Dn.xYes_eq, Dn.dAnd_eq, Dn.dOr_eq, Dn.dNot_eq, Dn.dIf_eq, Dn.aNil_eq, Dn.aCons_eq, Dn.dApp_eq, Dn.dTup_eq, Dn.dLst_eq, Dn.nLst_eq, Dn.dCall_eq, Dn.dChain_eq, Dn.sSet_eq, Dn.sRet_eq, Dn.sRetN_eq, Dn.sDrop_eq, Dn.sIf_eq, Dn.sNext_eq, Dn.sBrk_eq, Dn.sCnt_eq, Dn.sPar_eq, Dn.sPar3_eq, Dn.sAsg_eq, Dn.tset_nm, Dn.tset_tp, Dn.tsets_nil, Dn.tsets_cons, Dn.grd_none, Dn.wipeE_nil, Dn.wipeE_cons, Dn.gEq_int, Dn.gIsN_non, Dn.gIsN_int, Dn.gIsN_str, Dn.gIsN_tup, Dn.gIsN_bl, Dn.gIsN_ib, Dn.gIsN_nb, Dn.gIsN_sb, Dn.gIsN_tb, Dn.gAdd_int, Dn.gAugAdd_int, Dn.gSubI_int, Dn.gLt_int, Dn.gLe_int, Dn.gGt_int, Dn.gGe_int, Dn.gNeg_int, Dn.gAbs_int, Dn.gInt_int, Dn.gMax2_int, Dn.gMin2_int, Dn.asQ_tup, Dn.asQ_lst, Dn.asL_lst, Dn.gIdx_tup0, Dn.gIdx_tup1, Dn.gIdx_tup2, Dn.gLen_tup, Dn.gLen_lst, Dn.gLen_rol, Dn.gTuple_tup, Dn.gTuple_lst, Dn.gList_tup, Dn.gList_lst, Dn.sSetI_eq, Dn.dMtL_eq, Dn.iSeq_lst, Dn.iSeq_tup, Dn.sSeq_eq, Dn.startE, List.set_cons_zero, List.set_cons_succ, List.map_cons, List.map_nil, List.length_cons, List.length_nil, List.cons_append, List.nil_append, List.append_nil, List.replicate_succ, List.replicate_zero, if_true, if_false, ite_true, ite_false, Bool.false_eq_true, decide_true, decide_false, Nat.reduceSub, Nat.reduceAdd, Nat.reduceLeDiff, Bool.not_true, Bool.not_false, reduceIte, reduceCtorEq, Nat.zero_add, Nat.add_zero, trE, trN, e1, g4, z0, z1, z3, g5]
    rfl
  | node k ts =>
    have nv : (Tre.node k ts).val = .tup [.str k, .tup (Tre.vals ts)] := by rw [Tre.val]
    have e1 : ∀ S, F_is_number [.tup [.str k, .tup (Tre.vals ts)], .int 0, .non] S = .ok (.bl false) S := fun S => ev_isnum_t
    have kd : (Tre.node k ts).kids = ts := rfl
    rw [kd] at ha
    have pr : Tre.pre R.length (.node k ts) = Tre.rowss R.length ts := rfl
    have g6 : gTuple [.ref a] S = .ok (.tup ((Tre.roots R.length ts).map fun (n : Nat) => D.int (n : Nat))) S := gTuple_ref ha
    have i1 : iSeq (dVar 4) (trE t r s (some (Tre.node k ts).val) (some (.ref a))) S = .ok ⟨(Tre.roots R.length ts).map fun (n : Nat) => D.int (n : Nat), some (a, .lst ((Tre.roots R.length ts).map fun (n : Nat) => D.int (n : Nat)))⟩ S := iSeq_ref rfl ha
    have hgt := Tre.rowss_get (x := []) R.length R ts rfl
    have lc : dLc (iSeq (dVar 4)) [5] (.nm 5) (xYes) (dBin gIdx (dBin gIdx (dVar 1) (dVar 5)) (dC (.int 2))) (trE t r s (some (Tre.node k ts).val) (some (.ref a))) S = .ok (.lst ((Tre.thingss ts).map mkT)) S := by
      refine dLc_rel i1 (fun acc => grd_app ha _) ?_ (lows_pure _ _ (pure_mkTs _))
      have key : ∀ (ns : List Nat) (us : List Tre), F2 (fun (n : Nat) (t : Tre) => ∃ c, (R ++ Tre.rowss R.length ts ++ [])[n]? = some (Tre.row c t)) ns us →
          F2 (fun x y => ∀ acc : List D, ∃ ρ1, tset (.nm 5) x (wipeC (trE t r s (some (Tre.node k ts).val) (some (.ref a))) [5]) = some ρ1 ∧ (dBin gIdx (dBin gIdx (dVar 1) (dVar 5)) (dC (.int 2))) ρ1 (S ++ [.lst acc]) = .ok y (S ++ [.lst acc]))
            (ns.map fun (n : Nat) => D.int (n : Nat)) ((Tre.thingss us).map mkT) := by
        intro ns us h
        induction h with
        | nil => rw [Tre.thingss]; exact .nil
        | @cons n u ns us h _ ih =>
          rw [Tre.thingss]
          refine .cons (fun acc => ⟨_, tset_nm, ?_⟩) ih
          obtain ⟨c, hc⟩ := h
          rw [List.append_nil] at hc
          have hr2 : (S ++ [O.lst acc])[r]? = some (.lst (R ++ Tre.rowss R.length ts)) := by
            rw [List.getElem?_append_left (List.getElem?_eq_some_iff.mp A.hr).1]
            exact A.hr
          have q1 : gIdx (.ref r) (.int (n : Nat)) (S ++ [.lst acc]) = .ok (Tre.row c u) (S ++ [.lst acc]) := gIdx_of (asQ_ref hr2) hc
          have q2 : gIdx (Tre.row c u) (.int 2) (S ++ [.lst acc]) = .ok (mkT u.things) (S ++ [.lst acc]) := by
            cases u with
            | leaf i => rw [Tre.things]; exact gIdx_tup2
            | node k us => exact gIdx_tup2
          simp -implicitDefEqProofs only [Dn.rbind_ok, Dn.rbind_bad, Dn.rbind_exc, Dn.obind_ok, Dn.obind_bad, Dn.nox_ok, Dn.dVar_zero, Dn.dVar_succ, Dn.dC_eq, Dn.dUn_eq, Dn.dBin_eq, Dn.dBl_eq, Dn.xOf_eq, Dn.xAnd_eq, Dn.xOr_eq, Dn.xNot_eq, Dn.xYes_eq, Dn.dAnd_eq, Dn.dOr_eq, Dn.dNot_eq, Dn.dIf_eq, Dn.aNil_eq, Dn.aCons_eq, Dn.dApp_eq, Dn.dTup_eq, Dn.dLst_eq, Dn.nLst_eq, Dn.dCall_eq, Dn.dChain_eq, Dn.sSet_eq, Dn.sRet_eq, Dn.sRetN_eq, Dn.sDrop_eq, Dn.sIf_eq, Dn.sNext_eq, Dn.sBrk_eq, Dn.sCnt_eq, Dn.sPar_eq, Dn.sPar3_eq, Dn.sAsg_eq, Dn.tset_nm, Dn.tset_tp, Dn.tsets_nil, Dn.tsets_cons, Dn.grd_none, Dn.wipeE_nil, Dn.wipeE_cons, Dn.gEq_int, Dn.gIsN_non, Dn.gIsN_int, Dn.gIsN_str, Dn.gIsN_tup, Dn.gIsN_bl, Dn.gIsN_ib, Dn.gIsN_nb, Dn.gIsN_sb, Dn.gIsN_tb, Dn.gAdd_int, Dn.gAugAdd_int, Dn.gSubI_int, Dn.gLt_int, Dn.gLe_int, Dn.gGt_int, Dn.gGe_int, Dn.gNeg_int, Dn.gAbs_int, Dn.gInt_int, Dn.gMax2_int, Dn.gMin2_int, Dn.asQ_tup, Dn.asQ_lst, Dn.asL_lst, Dn.gIdx_tup0, Dn.gIdx_tup1, Dn.gIdx_tup2, Dn.gLen_tup, Dn.gLen_lst, Dn.gLen_rol, Dn.gTuple_tup, Dn.gTuple_lst, Dn.gList_tup, Dn.gList_lst, Dn.sSetI_eq, Dn.dMtL_eq, Dn.iSeq_lst, Dn.iSeq_tup, Dn.sSeq_eq, Dn.startE, List.set_cons_zero, List.set_cons_succ, List.map_cons, List.map_nil, List.length_cons, List.length_nil, List.cons_append, List.nil_append, List.append_nil, List.replicate_succ, List.replicate_zero, if_true, if_false, ite_true, ite_false, Bool.false_eq_true, decide_true, decide_false, Nat.reduceSub, Nat.reduceAdd, Nat.reduceLeDiff, Bool.not_true, Bool.not_false, reduceIte, reduceCtorEq, Nat.zero_add, Nat.add_zero, trE, wipeC, q1, q2]
      exact key _ _ hgt
    have hfl : (Tre.thingss ts).flatten.length < 1000000 := by
      have := Tre.thingss_le ts
      rw [Tre.leaves] at hv
      omega
    have g7 : F_joined_lots [.lst ((Tre.thingss ts).map mkT)] S = .ok (mkT (Tre.things (.node k ts))) S := by
      rw [Tre.things]
      exact ev_lots hfl (.inl rfl)
    rw [nv] at lc ⊢
    unfold trE at lc
    simp -implicitDefEqProofs only [Dn.rbind_ok, Dn.rbind_bad, Dn.rbind_exc, Dn.obind_ok, Dn.obind_bad, Dn.nox_ok, Dn.dVar_zero, Dn.dVar_succ, Dn.dC_eq, Dn.dUn_eq, Dn.dBin_eq, Dn.dBl_eq, Dn.xOf_eq, Dn.xAnd_eq, Dn.xOr_eq, Dn.xNot_eq, Dn.xYes_eq, Dn.dAnd_eq, Dn.dOr_eq, Dn.dNot_eq, Dn.dIf_eq, Dn.aNil_eq, Dn.aCons_eq, Dn.dApp_eq, Dn.dTup_eq, Dn.dLst_eq, Dn.nLst_eq, Dn.dCall_eq, Dn.dChain_eq, Dn.sSet_eq, Dn.sRet_eq, Dn.sRetN_eq, Dn.sDrop_eq, Dn.sIf_eq, Dn.sNext_eq, Dn.sBrk_eq, Dn.sCnt_eq, Dn.sPar_eq, Dn.sPar3_eq, Dn.sAsg_eq, Dn.tset_nm, Dn.tset_tp, Dn.tsets_nil, Dn.tsets_cons, Dn.grd_none, Dn.wipeE_nil, Dn.wipeE_cons, Dn.gEq_int, Dn.gIsN_non, Dn.gIsN_int, Dn.gIsN_str, Dn.gIsN_tup, Dn.gIsN_bl, Dn.gIsN_ib, Dn.gIsN_nb, Dn.gIsN_sb, Dn.gIsN_tb, Dn.gAdd_int, Dn.gAugAdd_int, Dn.gSubI_int, Dn.gLt_int, Dn.gLe_int, Dn.gGt_int, Dn.gGe_int, Dn.gNeg_int, Dn.gAbs_int, Dn.gInt_int, Dn.gMax2_int, Dn.gMin2_int, Dn.asQ_tup, Dn.asQ_lst, Dn.asL_lst, Dn.gIdx_tup0, Dn.gIdx_tup1, Dn.gIdx_tup2, Dn.gLen_tup, Dn.gLen_lst, Dn.gLen_rol, Dn.gTuple_tup, Dn.gTuple_lst, Dn.gList_tup, Dn.gList_lst, Dn.sSetI_eq, Dn.dMtL_eq, Dn.iSeq_lst, Dn.iSeq_tup, Dn.sSeq_eq, Dn.startE, List.set_cons_zero, List.set_cons_succ, List.map_cons, List.map_nil, List.length_cons, List.length_nil, List.cons_append, List.nil_append, List.append_nil, List.replicate_succ, List.replicate_zero, if_true, if_false, ite_true, ite_false, Bool.false_eq_true, decide_true, decide_false, Nat.reduceSub, Nat.reduceAdd, Nat.reduceLeDiff, Bool.not_true, Bool.not_false, reduceIte, reduceCtorEq, Nat.zero_add, Nat.add_zero, trE, trN, e1, g4, z0, z1, z3, g6, lc, g7, g5]
    rfl
end Cm

set_option maxHeartbeats 1000000
namespace Cm
open PySem PySem.Spec PyProof.Rows L2 Dn
theorem gPop_of {S : Store} {s : Nat} {K : List D} {k : D} (h : S[s]? = some (.lst (K ++ [k]))) : gPop (.ref s) [] S = .ok k (S.set s (.lst K)) := by
  unfold gPop
  rw [cellL_ref h]
  simp only
  have : (K ++ [k])[(K ++ [k]).length - 1]? = some k := by simp
  rw [this]
  simp only
  rw [dropLast_app]
/-- the test that takes the other branch -/
theorem tr_else {t : D} {r s a : Nat} {S : Store} {R K : List D} {u : Tre} {idx : List D} (A : TrAt r s S R (K ++ [.tup [u.val, .ref a]])) (ha : S[a]? = some (.lst idx)) (hi : idx.length = u.kids.length) {S' : Store} {x y : Option D}
    (h : trF (trE t r s (some u.val) (some (.ref a))) S = .nx (trE t r s x y) S') : trB (trE t r s none none) S = .nx (trE t r s x y) S' := by
  have g1 : gIdx (.ref s) (.int (-1)) S = .ok (.tup [u.val, .ref a]) S := gIdx_last (asQ_ref A.hs) getLast_app
  have g2 : gLen [.ref a] S = .ok (.int (idx.length : Nat)) S := gLen_ref ha
  rw [← h]
  cases u with
  | leaf i =>
    have nv : (Tre.leaf i).val = .int (i : Nat) := by rw [Tre.val]
    have e1 : ∀ S, F_is_number [.int (i : Nat), .int 0, .non] S = .ok (.bl true) S := fun S => ev_isnum (by omega)
    rw [nv] at g1 ⊢
    simp -implicitDefEqProofs only [Dn.rbind_ok, Dn.rbind_bad, Dn.rbind_exc, Dn.obind_ok, Dn.obind_bad, Dn.nox_ok, Dn.dVar_zero, Dn.dVar_succ, Dn.dC_eq, Dn.dUn_eq, Dn.dBin_eq, Dn.dBl_eq, Dn.xOf_eq, Dn.xAnd_eq, Dn.xOr_eq, Dn.xNot_eq, Dn.xYes_eq, Dn.dAnd_eq, Dn.dOr_eq, Dn.dNot_eq, Dn.dIf_eq, Dn.aNil_eq, Dn.aCons_eq, Dn.dApp_eq, Dn.dTup_eq, Dn.dLst_eq, Dn.nLst_eq, Dn.dCall_eq, Dn.dChain_eq, Dn.sSet_eq, Dn.sRet_eq, Dn.sRetN_eq, Dn.sDrop_eq, Dn.sIf_eq, Dn.sNext_eq, Dn.sBrk_eq, Dn.sCnt_eq, Dn.sPar_eq, Dn.sPar3_eq, Dn.sAsg_eq, Dn.tset_nm, Dn.tset_tp, Dn.tsets_nil, Dn.tsets_cons, Dn.grd_none, Dn.wipeE_nil, Dn.wipeE_cons, Dn.gEq_int, Dn.gIsN_non, Dn.gIsN_int, Dn.gIsN_str, Dn.gIsN_tup, Dn.gIsN_bl, Dn.gIsN_ib, Dn.gIsN_nb, Dn.gIsN_sb, Dn.gIsN_tb, Dn.gAdd_int, Dn.gAugAdd_int, Dn.gSubI_int, Dn.gLt_int, Dn.gLe_int, Dn.gGt_int, Dn.gGe_int, Dn.gNeg_int, Dn.gAbs_int, Dn.gInt_int, Dn.gMax2_int, Dn.gMin2_int, Dn.asQ_tup, Dn.asQ_lst, Dn.asL_lst, Dn.gIdx_tup0, Dn.gIdx_tup1, Dn.gIdx_tup2, Dn.gLen_tup, Dn.gLen_lst, Dn.gLen_rol, Dn.gTuple_tup, Dn.gTuple_lst, Dn.gList_tup, Dn.gList_lst, Dn.sSetI_eq, Dn.dMtL_eq, Dn.iSeq_lst, Dn.iSeq_tup, Dn.sSeq_eq, Dn.startE, List.set_cons_zero, List.set_cons_succ, List.map_cons, List.map_nil, List.length_cons, List.length_nil, List.cons_append, List.nil_append, List.append_nil, List.replicate_succ, List.replicate_zero, if_true, if_false, ite_true, ite_false, Bool.false_eq_true, decide_true, decide_false, Nat.reduceSub, Nat.reduceAdd, Nat.reduceLeDiff, Bool.not_true, Bool.not_false, reduceIte, reduceCtorEq, Nat.zero_add, Nat.add_zero, trB, trE, trN, g1, g2, e1]
  | node k ts =>
    have nv : (Tre.node k ts).val = .tup [.str k, .tup (Tre.vals ts)] := by rw [Tre.val]
    have e1 : ∀ S, F_is_number [.tup [.str k, .tup (Tre.vals ts)], .int 0, .non] S = .ok (.bl false) S := fun S => ev_isnum_t
    have kd : (Tre.node k ts).kids = ts := rfl
    rw [kd] at hi
    have d1 : decide ((idx.length : Int) < ((Tre.vals ts).length : Int)) = false := decide_eq_false (by rw [Tre.vals_len]; omega)
    rw [nv] at g1 ⊢
    simp -implicitDefEqProofs only [Dn.rbind_ok, Dn.rbind_bad, Dn.rbind_exc, Dn.obind_ok, Dn.obind_bad, Dn.nox_ok, Dn.dVar_zero, Dn.dVar_succ, Dn.dC_eq, Dn.dUn_eq, Dn.dBin_eq, Dn.dBl_eq, Dn.xOf_eq, Dn.xAnd_eq, Dn.xOr_eq, Dn.xNot_eq, Dn.xYes_eq, Dn.dAnd_eq, Dn.dOr_eq, Dn.dNot_eq, Dn.dIf_eq, Dn.aNil_eq, Dn.aCons_eq, Dn.dApp_eq, Dn.dTup_eq, Dn.dLst_eq, Dn.nLst_eq, Dn.dCall_eq, Dn.dChain_eq, Dn.sSet_eq, Dn.sRet_eq, Dn.sRetN_eq, Dn.sDrop_eq, Dn.sIf_eq, Dn.sNext_eq, Dn.sBrk_eq, Dn.sCnt_eq, Dn.sPar_eq, Dn.sPar3_eq, Dn.sAsg_eq, Dn.tset_nm, Dn.tset_tp, Dn.tsets_nil, Dn.tsets_cons, Dn.grd_none, Dn.wipeE_nil, Dn.wipeE_cons, Dn.gEq_int, Dn.gIsN_non, Dn.gIsN_int, Dn.gIsN_str, Dn.gIsN_tup, Dn.gIsN_bl, Dn.gIsN_ib, Dn.gIsN_nb, Dn.gIsN_sb, Dn.gIsN_tb, Dn.gAdd_int, Dn.gAugAdd_int, Dn.gSubI_int, Dn.gLt_int, Dn.gLe_int, Dn.gGt_int, Dn.gGe_int, Dn.gNeg_int, Dn.gAbs_int, Dn.gInt_int, Dn.gMax2_int, Dn.gMin2_int, Dn.asQ_tup, Dn.asQ_lst, Dn.asL_lst, Dn.gIdx_tup0, Dn.gIdx_tup1, Dn.gIdx_tup2, Dn.gLen_tup, Dn.gLen_lst, Dn.gLen_rol, Dn.gTuple_tup, Dn.gTuple_lst, Dn.gList_tup, Dn.gList_lst, Dn.sSetI_eq, Dn.dMtL_eq, Dn.iSeq_lst, Dn.iSeq_tup, Dn.sSeq_eq, Dn.startE, List.set_cons_zero, List.set_cons_succ, List.map_cons, List.map_nil, List.length_cons, List.length_nil, List.cons_append, List.nil_append, List.append_nil, List.replicate_succ, List.replicate_zero, if_true, if_false, ite_true, ite_false, Bool.false_eq_true, decide_true, decide_false, Nat.reduceSub, Nat.reduceAdd, Nat.reduceLeDiff, Bool.not_true, Bool.not_false, reduceIte, reduceCtorEq, Nat.zero_add, Nat.add_zero, trB, trE, trN, g1, g2, e1, d1]
def trF1 : DenS := (sSeq (sDrop (dMtL gPop (dVar 2) aNil)) (sIf (xOf (dBin (gGt) (dApp gLen (aCons (dVar 2) (aNil))) (dC (.int 0)))) (sDrop (dMtL gAppend (dBin gIdx (dBin gIdx (dVar 2) (dUn gNeg (dC (.int 1)))) (dC (.int 1))) (aCons (dBin gSubI (dApp gLen (aCons (dVar 1) (aNil))) (dC (.int 1))) (aNil)))) (sNext)))
theorem tr_fin {t : D} {r s a : Nat} {S : Store} {R K : List D} {u : Tre} (A : TrAt r s S (R ++ Tre.pre R.length u) (K ++ [.tup [u.val, .ref a]])) (ha : S[a]? = some (.lst ((Tre.roots R.length u.kids).map fun (n : Nat) => D.int (n : Nat)))) (hl : R.length + u.size < 1000) (hv : u.leaves.length < 1000) (hrs : r ≠ s) {S' : Store}
    (h : trF1 (trE t r s (some u.val) (some (.ref a))) (S.set r (.lst (R ++ Tre.rows R.length u))) = .nx (trE t r s (some u.val) (some (.ref a))) S') : TrRun t r s S S' := by
  refine TrRun.step (x := u.val) (y := .ref a) A.hs (tr_else A ha (by rw [List.length_map, Tre.roots_len]) ?_)
  unfold trF
  rw [sSeq_eq, tr_row A ha hl hv]
  exact h
theorem tr_fin1 {t : D} {r s a b : Nat} {S : Store} {R K bs : List D} {u : Tre} {p : D} (A : TrAt r s S (R ++ Tre.pre R.length u) (K ++ [.tup [p, .ref b]] ++ [.tup [u.val, .ref a]])) (ha : S[a]? = some (.lst ((Tre.roots R.length u.kids).map fun (n : Nat) => D.int (n : Nat)))) (hb : S[b]? = some (.lst bs)) (hl : R.length + u.size < 1000) (hv : u.leaves.length < 1000)
    (hrs : r ≠ s) (hbr : b ≠ r) (hbs : b ≠ s) (hbl : bs.length < 1000) :
    ∃ S', TrRun t r s S S' ∧ TrAt r s S' (R ++ Tre.rows R.length u) (K ++ [.tup [p, .ref b]]) ∧ S'[b]? = some (.lst (bs ++ [.int ((R.length + u.size - 1 : Nat) : Int)])) ∧ Keeps [r, s, b] S S' := by
  have ls : s < S.length := (List.getElem?_eq_some_iff.mp A.hs).1
  have lr : r < S.length := (List.getElem?_eq_some_iff.mp A.hr).1
  have lb : b < S.length := (List.getElem?_eq_some_iff.mp hb).1
  have hs1 : (S.set r (O.lst (R ++ Tre.rows R.length u)))[s]? = some (.lst (K ++ [.tup [p, .ref b]] ++ [.tup [u.val, .ref a]])) := by rw [List.getElem?_set_ne hrs]; exact A.hs
  refine ⟨((S.set r (.lst (R ++ Tre.rows R.length u))).set s (.lst (K ++ [.tup [p, .ref b]]))).set b (.lst (bs ++ [.int ((R.length + u.size - 1 : Nat) : Int)])), tr_fin A ha hl hv hrs ?_, ⟨?_, ?_⟩, ?_, ?_, ?_⟩
  · have g4 : asL (S.set r (O.lst (R ++ Tre.rows R.length u))) (.ref s) = some (K ++ [.tup [p, .ref b]] ++ [.tup [u.val, .ref a]]) := asL_ref hs1
    have g5 := gPop_of hs1
    have hs2 : ((S.set r (O.lst (R ++ Tre.rows R.length u))).set s (.lst (K ++ [.tup [p, .ref b]])))[s]? = some (.lst (K ++ [.tup [p, .ref b]])) := by rw [List.getElem?_set_self (by simpa using ls)]
    have hr2 : ((S.set r (O.lst (R ++ Tre.rows R.length u))).set s (.lst (K ++ [.tup [p, .ref b]])))[r]? = some (.lst (R ++ Tre.rows R.length u)) := by rw [List.getElem?_set_ne (Ne.symm hrs), List.getElem?_set_self lr]
    have hb2 : ((S.set r (O.lst (R ++ Tre.rows R.length u))).set s (.lst (K ++ [.tup [p, .ref b]])))[b]? = some (.lst bs) := by rw [List.getElem?_set_ne (Ne.symm hbs), List.getElem?_set_ne (Ne.symm hbr)]; exact hb
    have g6 := gLen_ref hs2
    have d1 : decide ((0 : Int) < (((K ++ [D.tup [p, .ref b]]).length : Nat) : Int)) = true := decide_eq_true (by rw [List.length_append, List.length_singleton]; omega)
    have g7 : gIdx (.ref s) (.int (-1)) _ = .ok (.tup [p, .ref b]) _ := gIdx_last (asQ_ref hs2) getLast_app
    have g8 := gLen_ref hr2
    have g9 := asL_ref hb2
    have d2 : (((R ++ Tre.rows R.length u).length : Nat) : Int) - 1 = ((R.length + u.size - 1 : Nat) : Int) := by
      rw [List.length_append, Tre.rows_len]
      have := u.size_pos
      omega
    have g10 := fun d => gAppend_of (d := d) hb2 (small_lt (by omega))
    simp -implicitDefEqProofs only [Dn.rbind_ok, Dn.rbind_bad, Dn.rbind_exc, Dn.obind_ok, Dn.obind_bad, Dn.nox_ok, Dn.dVar_zero, Dn.dVar_succ, Dn.dC_eq, Dn.dUn_eq, Dn.dBin_eq, Dn.dBl_eq, Dn.xOf_eq, Dn.xAnd_eq, Dn.xOr_eq, Dn.xNot_eq, Dn.xYes_eq, Dn.dAnd_eq, Dn.dOr_eq, Dn.dNot_eq, Dn.dIf_eq, Dn.aNil_eq, Dn.aCons_eq, Dn.dApp_eq, Dn.dTup_eq, Dn.dLst_eq, Dn.nLst_eq, Dn.dCall_eq, Dn.dChain_eq, Dn.sSet_eq, Dn.sRet_eq, Dn.sRetN_eq, Dn.sDrop_eq, Dn.sIf_eq, Dn.sNext_eq, Dn.sBrk_eq, Dn.sCnt_eq, Dn.sPar_eq, Dn.sPar3_eq, Dn.sAsg_eq, Dn.tset_nm, Dn.tset_tp, Dn.tsets_nil, Dn.tsets_cons, Dn.grd_none, Dn.wipeE_nil, Dn.wipeE_cons, Dn.gEq_int, Dn.gIsN_non, Dn.gIsN_int, Dn.gIsN_str, Dn.gIsN_tup, Dn.gIsN_bl, Dn.gIsN_ib, Dn.gIsN_nb, Dn.gIsN_sb, Dn.gIsN_tb, Dn.gAdd_int, Dn.gAugAdd_int, Dn.gSubI_int, Dn.gLt_int, Dn.gLe_int, Dn.gGt_int, Dn.gGe_int, Dn.gNeg_int, Dn.gAbs_int, Dn.gInt_int, Dn.gMax2_int, Dn.gMin2_int, Dn.asQ_tup, Dn.asQ_lst, Dn.asL_lst, Dn.gIdx_tup0, Dn.gIdx_tup1, Dn.gIdx_tup2, Dn.gLen_tup, Dn.gLen_lst, Dn.gLen_rol, Dn.gTuple_tup, Dn.gTuple_lst, Dn.gList_tup, Dn.gList_lst, Dn.sSetI_eq, Dn.dMtL_eq, Dn.iSeq_lst, Dn.iSeq_tup, Dn.sSeq_eq, Dn.startE, List.set_cons_zero, List.set_cons_succ, List.map_cons, List.map_nil, List.length_cons, List.length_nil, List.cons_append, List.nil_append, List.append_nil, List.replicate_succ, List.replicate_zero, if_true, if_false, ite_true, ite_false, Bool.false_eq_true, decide_true, decide_false, Nat.reduceSub, Nat.reduceAdd, Nat.reduceLeDiff, Bool.not_true, Bool.not_false, reduceIte, reduceCtorEq, Nat.zero_add, Nat.add_zero, trF1, trE, g4, g5, g6, d1, g7, g8, g9, d2, g10]
  · rw [List.getElem?_set_ne hbr, List.getElem?_set_ne (Ne.symm hrs), List.getElem?_set_self lr]
  · rw [List.getElem?_set_ne hbs, List.getElem?_set_self (by simpa using ls)]
  · rw [List.getElem?_set_self (by simpa using lb)]
  · simp
  · intro j hj hn
    simp only [List.mem_cons, List.not_mem_nil, or_false, not_or] at hn
    rw [List.getElem?_set_ne (Ne.symm hn.2.2), List.getElem?_set_ne (Ne.symm hn.2.1), List.getElem?_set_ne (Ne.symm hn.1)]
theorem tr_fin0 {t : D} {r s a : Nat} {S : Store} {R : List D} {u : Tre} (A : TrAt r s S (R ++ Tre.pre R.length u) [.tup [u.val, .ref a]]) (ha : S[a]? = some (.lst ((Tre.roots R.length u.kids).map fun (n : Nat) => D.int (n : Nat)))) (hl : R.length + u.size < 1000) (hv : u.leaves.length < 1000) (hrs : r ≠ s) :
    ∃ S', TrRun t r s S S' ∧ TrAt r s S' (R ++ Tre.rows R.length u) [] ∧ Keeps [r, s] S S' := by
  have ls : s < S.length := (List.getElem?_eq_some_iff.mp A.hs).1
  have lr : r < S.length := (List.getElem?_eq_some_iff.mp A.hr).1
  have A' : TrAt r s S (R ++ Tre.pre R.length u) ([] ++ [.tup [u.val, .ref a]]) := A
  have hs1 : (S.set r (O.lst (R ++ Tre.rows R.length u)))[s]? = some (.lst ([] ++ [.tup [u.val, .ref a]])) := by rw [List.getElem?_set_ne hrs]; exact A.hs
  refine ⟨(S.set r (.lst (R ++ Tre.rows R.length u))).set s (.lst []), tr_fin A' ha hl hv hrs ?_, ⟨?_, ?_⟩, ?_, ?_⟩
  · have g4 := asL_ref hs1
    have g5 := gPop_of hs1
    have hs2 : ((S.set r (O.lst (R ++ Tre.rows R.length u))).set s (.lst []))[s]? = some (.lst []) := by rw [List.getElem?_set_self (by simpa using ls)]
    have g6 := gLen_ref hs2
    have d1 : decide ((0 : Int) < ((0 : Nat) : Int)) = false := rfl
    simp -implicitDefEqProofs only [Dn.rbind_ok, Dn.rbind_bad, Dn.rbind_exc, Dn.obind_ok, Dn.obind_bad, Dn.nox_ok, Dn.dVar_zero, Dn.dVar_succ, Dn.dC_eq, Dn.dUn_eq, Dn.dBin_eq, Dn.dBl_eq, Dn.xOf_eq, Dn.xAnd_eq, Dn.xOr_eq, Dn.xNot_eq, Dn.xYes_eq, Dn.dAnd_eq, Dn.dOr_eq, Dn.dNot_eq, Dn.dIf_eq, Dn.aNil_eq, Dn.aCons_eq, Dn.dApp_eq, Dn.dTup_eq, Dn.dLst_eq, Dn.nLst_eq, Dn.dCall_eq, Dn.dChain_eq, Dn.sSet_eq, Dn.sRet_eq, Dn.sRetN_eq, Dn.sDrop_eq, Dn.sIf_eq, Dn.sNext_eq, Dn.sBrk_eq, Dn.sCnt_eq, Dn.sPar_eq, Dn.sPar3_eq, Dn.sAsg_eq, Dn.tset_nm, Dn.tset_tp, Dn.tsets_nil, Dn.tsets_cons, Dn.grd_none, Dn.wipeE_nil, Dn.wipeE_cons, Dn.gEq_int, Dn.gIsN_non, Dn.gIsN_int, Dn.gIsN_str, Dn.gIsN_tup, Dn.gIsN_bl, Dn.gIsN_ib, Dn.gIsN_nb, Dn.gIsN_sb, Dn.gIsN_tb, Dn.gAdd_int, Dn.gAugAdd_int, Dn.gSubI_int, Dn.gLt_int, Dn.gLe_int, Dn.gGt_int, Dn.gGe_int, Dn.gNeg_int, Dn.gAbs_int, Dn.gInt_int, Dn.gMax2_int, Dn.gMin2_int, Dn.asQ_tup, Dn.asQ_lst, Dn.asL_lst, Dn.gIdx_tup0, Dn.gIdx_tup1, Dn.gIdx_tup2, Dn.gLen_tup, Dn.gLen_lst, Dn.gLen_rol, Dn.gTuple_tup, Dn.gTuple_lst, Dn.gList_tup, Dn.gList_lst, Dn.sSetI_eq, Dn.dMtL_eq, Dn.iSeq_lst, Dn.iSeq_tup, Dn.sSeq_eq, Dn.startE, List.set_cons_zero, List.set_cons_succ, List.map_cons, List.map_nil, List.length_cons, List.length_nil, List.cons_append, List.nil_append, List.append_nil, List.replicate_succ, List.replicate_zero, if_true, if_false, ite_true, ite_false, Bool.false_eq_true, decide_true, decide_false, Nat.reduceSub, Nat.reduceAdd, Nat.reduceLeDiff, Bool.not_true, Bool.not_false, reduceIte, reduceCtorEq, Nat.zero_add, Nat.add_zero, trF1, trE, g4, g5, g6, d1]
  · rw [List.getElem?_set_ne (Ne.symm hrs), List.getElem?_set_self lr]
  · rw [List.getElem?_set_self (by simpa using ls)]
  · simp
  · intro j hj hn
    simp only [List.mem_cons, List.not_mem_nil, or_false, not_or] at hn
    rw [List.getElem?_set_ne (Ne.symm hn.2), List.getElem?_set_ne (Ne.symm hn.1)]
mutual
theorem tr_begin {t : D} {r s : Nat} (hrs : r ≠ s) : ∀ (u : Tre) (S : Store) (R K : List D) (a : Nat), TrAt r s S R (K ++ [.tup [u.val, .ref a]]) → S[a]? = some (.lst []) → a ≠ r → a ≠ s → R.length + u.size < 1000 → u.leaves.length < 1000 → K.length + u.size < 1000 →
    ∃ S', TrRun t r s S S' ∧ TrAt r s S' (R ++ Tre.pre R.length u) (K ++ [.tup [u.val, .ref a]]) ∧ S'[a]? = some (.lst ((Tre.roots R.length u.kids).map fun (n : Nat) => D.int (n : Nat))) ∧ Keeps [r, s, a] S S'
  | .leaf i, S, R, K, a, A, ha, _, _, _, _, _ => ⟨S, .refl, by rw [Tre.pre, List.append_nil]; exact A, by rw [Tre.kids]; exact ha, .refl⟩
  | .node k ts, S, R, K, a, A, ha, har, has, hl, hv, hk => by
    rw [Tre.size] at hl hk
    rw [Tre.leaves] at hv
    have := tr_kids (t := t) hrs ts [] k S R K a (by rw [Tre.rowss, List.append_nil]; exact A) (by rw [Tre.roots]; exact ha) har has (by simpa using hl) (by simpa using hv) (by simpa using hk)
    exact this
theorem tr_kids {t : D} {r s : Nat} (hrs : r ≠ s) : ∀ (us ps : List Tre) (k : Str) (S : Store) (R K : List D) (a : Nat), TrAt r s S (R ++ Tre.rowss R.length ps) (K ++ [.tup [(Tre.node k (ps ++ us)).val, .ref a]]) → S[a]? = some (.lst ((Tre.roots R.length ps).map fun (n : Nat) => D.int (n : Nat))) → a ≠ r → a ≠ s →
    R.length + (Tre.sizes (ps ++ us) + 1) < 1000 → (Tre.leavess (ps ++ us)).length < 1000 → K.length + (Tre.sizes (ps ++ us) + 1) < 1000 →
    ∃ S', TrRun t r s S S' ∧ TrAt r s S' (R ++ Tre.rowss R.length (ps ++ us)) (K ++ [.tup [(Tre.node k (ps ++ us)).val, .ref a]]) ∧ S'[a]? = some (.lst ((Tre.roots R.length (ps ++ us)).map fun (n : Nat) => D.int (n : Nat))) ∧ Keeps [r, s, a] S S'
  | [], ps, k, S, R, K, a, A, ha, _, _, _, _, _ => ⟨S, .refl, by rw [List.append_nil] at A ⊢; exact A, by rw [List.append_nil]; exact ha, .refl⟩
  | u :: us, ps, k, S, R, K, a, A, ha, har, has, hl, hv, hk => by
    have hsz : Tre.sizes (ps ++ u :: us) = Tre.sizes ps + (u.size + Tre.sizes us) := by rw [Tre.sizes_app, Tre.sizes]
    have hlv : (Tre.leavess (ps ++ u :: us)).length = (Tre.leavess ps).length + (u.leaves.length + (Tre.leavess us).length) := by
      simp only [Tre.leavess_eq, List.flatMap_append, List.flatMap_cons, List.length_append]
    have hrl := Tre.rowss_len R.length ps
    have usz := u.size_pos
    have la : a < S.length := (List.getElem?_eq_some_iff.mp ha).1
    have ls : s < S.length := (List.getElem?_eq_some_iff.mp A.hs).1
    have lr : r < S.length := (List.getElem?_eq_some_iff.mp A.hr).1
    obtain ⟨S1, run1, A1, ha1, hn1, k1⟩ := tr_push (t := t) A ha (by rw [List.length_map, Tre.roots_len]) (by omega) hrs has har
    obtain ⟨S2, run2, A2, ha2, k2⟩ := tr_begin (t := t) hrs u S1 _ _ S.length A1 hn1 (by omega) (by omega) (by rw [List.length_append, hrl]; omega) (by omega) (by rw [List.length_append, List.length_singleton]; omega)
    have hab : S2[a]? = some (.lst ((Tre.roots R.length ps).map fun (n : Nat) => D.int (n : Nat))) := by
      rw [k2.at_ a (Nat.lt_of_lt_of_le la k1.len) (by simp only [List.mem_cons, List.not_mem_nil, or_false, not_or]; exact ⟨har, has, by omega⟩)]
      exact ha1
    have hrt : (Tre.roots R.length ps).length ≤ Tre.sizes ps := by
      rw [Tre.roots_len]
      have : ∀ qs : List Tre, qs.length ≤ Tre.sizes qs := by
        intro qs
        induction qs with
        | nil => simp
        | cons q qs ih => rw [Tre.sizes, List.length_cons]; have := q.size_pos; omega
      exact this ps
    obtain ⟨S3, run3, A3, ha3, k3⟩ := tr_fin1 (t := t) A2 ha2 hab (by rw [List.length_append, hrl]; omega) (by omega) hrs har has (by rw [List.length_map]; omega)
    have eR : R ++ Tre.rowss R.length ps ++ Tre.rows (R ++ Tre.rowss R.length ps).length u = R ++ Tre.rowss R.length (ps ++ [u]) := by
      rw [Tre.rowss_app, Tre.rowss, Tre.rowss, List.append_nil, List.length_append, hrl, List.append_assoc]
    have eI : (Tre.roots R.length ps).map (fun (n : Nat) => D.int (n : Nat)) ++ [D.int (((R ++ Tre.rowss R.length ps).length + u.size - 1 : Nat) : Int)] = (Tre.roots R.length (ps ++ [u])).map fun (n : Nat) => D.int (n : Nat) := by
      rw [Tre.roots_app, Tre.roots, Tre.roots, List.map_append, List.length_append, hrl]
      rfl
    rw [eR] at A3
    rw [eI] at ha3
    have eU : ps ++ u :: us = (ps ++ [u]) ++ us := by simp
    rw [eU] at A3 hl hv hk
    obtain ⟨S4, run4, A4, ha4, k4⟩ := tr_kids (t := t) hrs us (ps ++ [u]) k S3 R K a A3 ha3 har has hl hv hk
    rw [← eU] at A4 ha4
    refine ⟨S4, run1.trans (run2.trans (run3.trans run4)), A4, ha4, ?_⟩
    have k12 : Keeps [r, s] S S2 := k1.trans k2 (fun j _ h => by simp at h ⊢; exact .inr h) (fun j hj h => by
      simp only [List.mem_cons, List.not_mem_nil, or_false] at h ⊢
      rcases h with h | h | h
      · exact .inl h
      · exact .inr h
      · omega)
    exact (k12.trans k3 (Z := [r, s, a]) (fun j _ h => by simp at h ⊢; rcases h with h | h <;> simp [h]) (fun j _ h => h)).trans k4 (fun j _ h => h) (fun j _ h => h)
end
theorem pure_row (b : Nat) (t : Tre) : pureD (Tre.row b t) = true := by
  cases t with
  | leaf i => rfl
  | node k ts => simp [Tre.row, pureD, pureDs, pure_nums, pure_mkT]
mutual
theorem pure_rows : ∀ (b : Nat) (t : Tre), pureDs (Tre.rows b t) = true
  | b, .leaf i => by rw [Tre.rows]; simp [pureDs, pure_row]
  | b, .node k ts => by
    rw [Tre.rows]
    have := pure_rowss b ts
    exact pures_iff.mpr fun x hx => by
      rcases List.mem_append.mp hx with h | h
      · exact pures_iff.mp this x h
      · rw [List.mem_singleton.mp h]; exact pure_row _ _
theorem pure_rowss : ∀ (b : Nat) (ts : List Tre), pureDs (Tre.rowss b ts) = true
  | b, [] => by rw [Tre.rowss]; rfl
  | b, t :: ts => by
    rw [Tre.rowss]
    have h1 := pure_rows b t
    have h2 := pure_rowss (b + t.size) ts
    exact pures_iff.mpr fun x hx => by
      rcases List.mem_append.mp hx with h | h
      · exact pures_iff.mp h1 x h
      · exact pures_iff.mp h2 x h
end
theorem ev_term_rows {u : Tre} {S : Store} (hl : u.size < 999) (hv : u.leaves.length < 1000) : F_term_rows [u.val] S = .ok (.tup (Tre.rows 0 u)) S := by
  have A0 : TrAt S.length (S.length + 2) (S ++ [O.lst []] ++ [O.lst []] ++ [O.lst [.tup [u.val, .ref (S.length + 1)]]]) [] ([] ++ [.tup [u.val, .ref (S.length + 1)]]) := ⟨by simp, by simp⟩
  have ha0 : (S ++ [.lst []] ++ [.lst []] ++ [O.lst [.tup [u.val, .ref (S.length + 1)]]])[S.length + 1]? = some (.lst []) := by simp
  obtain ⟨S1, run1, A1, ha1, k1⟩ := tr_begin (t := u.val) (by omega) u _ [] [] (S.length + 1) A0 ha0 (by omega) (by omega) (by simp; omega) hv (by simp; omega)
  obtain ⟨S2, run2, A2, k2⟩ := tr_fin0 (t := u.val) (R := []) A1 ha1 (by simp; omega) hv (by omega)
  have k0 : Keeps [] S (S ++ [O.lst []] ++ [O.lst []] ++ [O.lst [.tup [u.val, .ref (S.length + 1)]]]) := ⟨by simp, fun j hj _ => by rw [List.append_assoc, List.append_assoc, List.getElem?_append_left hj]⟩
  have kk : Keeps [] S S2 := (k0.trans k1 (Z := []) (fun j _ h => h) (fun j hj h => by simp at h; omega)).trans k2 (fun j _ h => h) (fun j hj h => by simp at h; omega)
  obtain ⟨n, hn⟩ := run1.trans run2
  have hw : whileN trC [3, 4] trB (n + 1) (trE u.val S.length (S.length + 2) none none) (S ++ [O.lst []] ++ [O.lst []] ++ [O.lst [.tup [u.val, .ref (S.length + 1)]]]) = .nx (trE u.val S.length (S.length + 2) none none) S2 := by
    rw [hn 1, whileN_succ]
    have g1 := gLen_ref A2.hs
    have d1 : decide ((0 : Int) < ((0 : Nat) : Int)) = false := rfl
    simp -implicitDefEqProofs only [Dn.rbind_ok, Dn.rbind_bad, Dn.rbind_exc, Dn.obind_ok, Dn.obind_bad, Dn.nox_ok, Dn.dVar_zero, Dn.dVar_succ, Dn.dC_eq, Dn.dUn_eq, Dn.dBin_eq, Dn.dBl_eq, Dn.xOf_eq, Dn.xAnd_eq, Dn.xOr_eq, Dn.xNot_eq, Dn.xYes_eq, Dn.dAnd_eq, Dn.dOr_eq, Dn.dNot_eq, Dn.dIf_eq, Dn.aNil_eq, Dn.aCons_eq, Dn.dApp_eq, Dn.dTup_eq, Dn.dLst_eq, Dn.nLst_eq, Dn.dCall_eq, Dn.dChain_eq, Dn.sSet_eq, Dn.sRet_eq, Dn.sRetN_eq, Dn.sDrop_eq, Dn.sIf_eq, Dn.sNext_eq, Dn.sBrk_eq, Dn.sCnt_eq, Dn.sPar_eq, Dn.sPar3_eq, Dn.sAsg_eq, Dn.tset_nm, Dn.tset_tp, Dn.tsets_nil, Dn.tsets_cons, Dn.grd_none, Dn.wipeE_nil, Dn.wipeE_cons, Dn.gEq_int, Dn.gIsN_non, Dn.gIsN_int, Dn.gIsN_str, Dn.gIsN_tup, Dn.gIsN_bl, Dn.gIsN_ib, Dn.gIsN_nb, Dn.gIsN_sb, Dn.gIsN_tb, Dn.gAdd_int, Dn.gAugAdd_int, Dn.gSubI_int, Dn.gLt_int, Dn.gLe_int, Dn.gGt_int, Dn.gGe_int, Dn.gNeg_int, Dn.gAbs_int, Dn.gInt_int, Dn.gMax2_int, Dn.gMin2_int, Dn.asQ_tup, Dn.asQ_lst, Dn.asL_lst, Dn.gIdx_tup0, Dn.gIdx_tup1, Dn.gIdx_tup2, Dn.gLen_tup, Dn.gLen_lst, Dn.gLen_rol, Dn.gTuple_tup, Dn.gTuple_lst, Dn.gList_tup, Dn.gList_lst, Dn.sSetI_eq, Dn.dMtL_eq, Dn.iSeq_lst, Dn.iSeq_tup, Dn.sSeq_eq, Dn.startE, List.set_cons_zero, List.set_cons_succ, List.map_cons, List.map_nil, List.length_cons, List.length_nil, List.cons_append, List.nil_append, List.append_nil, List.replicate_succ, List.replicate_zero, if_true, if_false, ite_true, ite_false, Bool.false_eq_true, decide_true, decide_false, Nat.reduceSub, Nat.reduceAdd, Nat.reduceLeDiff, Bool.not_true, Bool.not_false, reduceIte, reduceCtorEq, Nat.zero_add, Nat.add_zero, trC, trE, g1, d1]
  have e1 := sWhile_of hw (by simp)
  refine def_end (S2 := S2) (d := .tup (Tre.rows 0 u)) rfl ?_ (frzD_low _ (low_pure _ _ (by simpa [pureD] using pure_rows 0 u))) (fun i o hi ho => .inl (by rw [← kk.at_ i hi (by simp)]; exact ho)) ?_
  · rw [term_rows_body]
    have z0 : (0 : Nat) ≤ sizeLine := Nat.zero_le _
    have z1 : (1 : Nat) ≤ sizeLine := small_line (by omega)
    have z2 : (2 : Nat) ≤ sizeLine := small_line (by omega)
    have g2 : gTuple [.ref S.length] S2 = .ok (.tup (Tre.rows 0 u)) S2 := gTuple_ref A2.hr
    have l1 : (S ++ [O.lst []]).length = S.length + 1 := by simp
    have l2 : (S ++ [O.lst []] ++ [O.lst []]).length = S.length + 2 := by simp
    unfold trE at e1
    simp -implicitDefEqProofs only [Dn.rbind_ok, Dn.rbind_bad, Dn.rbind_exc, Dn.obind_ok, Dn.obind_bad, Dn.nox_ok, Dn.dVar_zero, Dn.dVar_succ, Dn.dC_eq, Dn.dUn_eq, Dn.dBin_eq, Dn.dBl_eq, Dn.xOf_eq, Dn.xAnd_eq, Dn.xOr_eq, Dn.xNot_eq, Dn.xYes_eq, Dn.dAnd_eq, Dn.dOr_eq, Dn.dNot_eq, Dn.dIf_eq, Dn.aNil_eq, Dn.aCons_eq, Dn.dApp_eq, Dn.dTup_eq, Dn.dLst_eq, Dn.nLst_eq, Dn.dCall_eq, Dn.dChain_eq, Dn.sSet_eq, Dn.sRet_eq, Dn.sRetN_eq, Dn.sDrop_eq, Dn.sIf_eq, Dn.sNext_eq, Dn.sBrk_eq, Dn.sCnt_eq, Dn.sPar_eq, Dn.sPar3_eq, Dn.sAsg_eq, Dn.tset_nm, Dn.tset_tp, Dn.tsets_nil, Dn.tsets_cons, Dn.grd_none, Dn.wipeE_nil, Dn.wipeE_cons, Dn.gEq_int, Dn.gIsN_non, Dn.gIsN_int, Dn.gIsN_str, Dn.gIsN_tup, Dn.gIsN_bl, Dn.gIsN_ib, Dn.gIsN_nb, Dn.gIsN_sb, Dn.gIsN_tb, Dn.gAdd_int, Dn.gAugAdd_int, Dn.gSubI_int, Dn.gLt_int, Dn.gLe_int, Dn.gGt_int, Dn.gGe_int, Dn.gNeg_int, Dn.gAbs_int, Dn.gInt_int, Dn.gMax2_int, Dn.gMin2_int, Dn.asQ_tup, Dn.asQ_lst, Dn.asL_lst, Dn.gIdx_tup0, Dn.gIdx_tup1, Dn.gIdx_tup2, Dn.gLen_tup, Dn.gLen_lst, Dn.gLen_rol, Dn.gTuple_tup, Dn.gTuple_lst, Dn.gList_tup, Dn.gList_lst, Dn.sSetI_eq, Dn.dMtL_eq, Dn.iSeq_lst, Dn.iSeq_tup, Dn.sSeq_eq, Dn.startE, List.set_cons_zero, List.set_cons_succ, List.map_cons, List.map_nil, List.length_cons, List.length_nil, List.cons_append, List.nil_append, List.append_nil, List.replicate_succ, List.replicate_zero, if_true, if_false, ite_true, ite_false, Bool.false_eq_true, decide_true, decide_false, Nat.reduceSub, Nat.reduceAdd, Nat.reduceLeDiff, Bool.not_true, Bool.not_false, reduceIte, reduceCtorEq, Nat.zero_add, Nat.add_zero, z0, z1, z2, l1, l2, e1, g2]
  · refine List.ext_getElem? fun i => ?_
    rw [List.getElem?_take]
    split
    · rename_i hi; exact kk.at_ i hi (by simp)
    · rename_i hi; rw [List.getElem?_eq_none (by omega)]
end Cm

set_option maxHeartbeats 1000000
/-! ### sums over draws -/
namespace Mt
def dotF : Nat → List Nat → (Nat → Nat) → Nat
  | _, [], _ => 0
  | j, a :: A, f => a * f j + dotF (j + 1) A f
def dot (A : List Nat) (f : Nat → Nat) : Nat := dotF 0 A f
theorem dotF_congr {f g : Nat → Nat} : ∀ (A : List Nat) (j : Nat), (∀ i, j ≤ i → i < j + A.length → f i = g i) → dotF j A f = dotF j A g
  | [], _, _ => rfl
  | a :: A, j, h => by
    rw [dotF, dotF, h j (Nat.le_refl _) (by simp), dotF_congr A (j + 1) fun i h1 h2 => h i (by omega) (by simp; omega)]
theorem dot_congr {f g : Nat → Nat} (h : ∀ i, f i = g i) (A : List Nat) : dot A f = dot A g := dotF_congr A 0 fun i _ _ => h i
theorem dotF_add {f g : Nat → Nat} : ∀ (A : List Nat) (j : Nat), dotF j A (fun i => f i + g i) = dotF j A f + dotF j A g
  | [], _ => rfl
  | a :: A, j => by rw [dotF, dotF, dotF, dotF_add A, Nat.mul_add]; omega
theorem dotF_mul {f : Nat → Nat} {c : Nat} : ∀ (A : List Nat) (j : Nat), dotF j A (fun i => c * f i) = c * dotF j A f
  | [], _ => by simp [dotF]
  | a :: A, j => by rw [dotF, dotF, dotF_mul A, Nat.mul_add, Nat.mul_left_comm]
theorem dotF_zero : ∀ (A : List Nat) (j : Nat), dotF j A (fun _ => 0) = 0
  | [], _ => rfl
  | a :: A, j => by rw [dotF, dotF_zero A]; simp
theorem dotF_one : ∀ (A : List Nat) (j : Nat), dotF j A (fun _ => 1) = A.sum
  | [], _ => rfl
  | a :: A, j => by rw [dotF, dotF_one A]; simp
theorem dot_one (A : List Nat) : dot A (fun _ => 1) = A.sum := dotF_one A 0
/-- two sums exchanged -/
theorem dotF_swap {f : Nat → Nat → Nat} : ∀ (A B : List Nat) (i j : Nat), dotF i A (fun a => dotF j B (fun b => f a b)) = dotF j B (fun b => dotF i A (fun a => f a b))
  | [], B, i, j => by rw [dotF]; exact (dotF_zero B j).symm
  | a :: A, B, i, j => by
    rw [dotF, dotF_swap A B (i + 1) j, ← dotF_mul, ← dotF_add]
    rfl
theorem dotF_set {f : Nat → Nat} {x : Nat} : ∀ (T : List Nat) (k j : Nat), k < T.length → dotF j (T.set k (T.getD k 0 + x)) f = dotF j T f + x * f (j + k)
  | [], k, j, h => by simp at h
  | t :: T, 0, j, h => by
    simp only [List.set_cons_zero, List.getD_cons_zero, dotF, Nat.add_zero, Nat.add_mul]
    omega
  | t :: T, k + 1, j, h => by
    simp only [List.set_cons_succ, List.getD_cons_succ, dotF]
    rw [dotF_set T k (j + 1) (by simpa using h), show j + 1 + k = j + (k + 1) by omega]
    omega
theorem dotF_app {f : Nat → Nat} : ∀ (A B : List Nat) (j : Nat), dotF j (A ++ B) f = dotF j A f + dotF (j + A.length) B f
  | [], B, j => by simp [dotF]
  | a :: A, B, j => by rw [List.cons_append, dotF, dotF, dotF_app A B, List.length_cons, show j + (A.length + 1) = j + 1 + A.length by omega]; omega
theorem dotF_ind {k : Nat} : ∀ (A : List Nat) (j : Nat), dotF j A (fun i => if i = j + k then 1 else 0) = A.getD k 0
  | [], j => by simp [dotF]
  | a :: A, j => by
    rw [dotF]
    cases k with
    | zero =>
      have : dotF (j + 1) A (fun i => if i = j + 0 then 1 else 0) = dotF (j + 1) A (fun _ => 0) := dotF_congr A (j + 1) fun i h1 _ => if_neg (by omega)
      rw [this, dotF_zero]
      simp
    | succ k =>
      have h1 := dotF_ind (k := k) A (j + 1)
      have : dotF (j + 1) A (fun i => if i = j + (k + 1) then 1 else 0) = dotF (j + 1) A (fun i => if i = j + 1 + k then 1 else 0) := dotF_congr A (j + 1) fun i _ _ => by
        have : j + (k + 1) = j + 1 + k := by omega
        rw [this]
      rw [this, h1, if_neg (by omega)]
      simp
theorem dot_ind (k : Nat) (A : List Nat) : dot A (fun i => if i = k then 1 else 0) = A.getD k 0 := by
  have := dotF_ind (k := k) A 0
  rw [Nat.zero_add] at this
  exact this
theorem dotF_repl {f : Nat → Nat} : ∀ (n j : Nat), dotF j (List.replicate n 0) f = 0
  | 0, j => rfl
  | n + 1, j => by rw [List.replicate_succ, dotF, dotF_repl n]; simp
/-- all draws of the things ls, each by its own row -/
def upd (σ : Nat → Nat) (i w : Nat) : Nat → Nat := fun j => if j = i then w else σ j
def E (cs : Nat → List Nat) : List Nat → ((Nat → Nat) → Nat) → (Nat → Nat) → Nat
  | [], F, σ => F σ
  | i :: ls, F, σ => dot (cs i) fun w => E cs ls F (upd σ i w)
theorem E_congr {cs : Nat → List Nat} {F G : (Nat → Nat) → Nat} : ∀ (ls : List Nat) (σ : Nat → Nat), (∀ σ', (∀ j, j ∉ ls → σ' j = σ j) → F σ' = G σ') → E cs ls F σ = E cs ls G σ
  | [], σ, h => h σ fun _ _ => rfl
  | i :: ls, σ, h => dot_congr (fun w => E_congr ls (upd σ i w) fun σ' h' => h σ' fun j hj => by
      rw [h' j fun z => hj (List.mem_cons_of_mem _ z)]
      unfold upd
      rw [if_neg fun z => hj (by rw [z]; exact List.mem_cons_self)]) _
theorem E_app {cs : Nat → List Nat} {F : (Nat → Nat) → Nat} : ∀ (l1 l2 : List Nat) (σ : Nat → Nat), E cs (l1 ++ l2) F σ = E cs l1 (fun σ' => E cs l2 F σ') σ
  | [], l2, σ => rfl
  | i :: l1, l2, σ => dot_congr (fun w => E_app l1 l2 (upd σ i w)) _
theorem upd_comm {σ : Nat → Nat} {i j w u : Nat} (h : i ≠ j) : upd (upd σ i w) j u = upd (upd σ j u) i w := by
  funext k
  unfold upd
  by_cases h1 : k = j
  · by_cases h2 : k = i
    · omega
    · rw [if_pos h1, if_neg h2, if_pos h1]
  · by_cases h2 : k = i
    · rw [if_neg h1, if_pos h2, if_pos h2]
    · rw [if_neg h1, if_neg h2, if_neg h2, if_neg h1]
theorem E_perm {cs : Nat → List Nat} {F : (Nat → Nat) → Nat} {l1 l2 : List Nat} (p : l1.Perm l2) : l1.Nodup → ∀ σ, E cs l1 F σ = E cs l2 F σ := by
  induction p with
  | nil => intro _ σ; rfl
  | cons i p ih => intro hn σ; exact dot_congr (fun w => ih (List.nodup_cons.mp hn).2 (upd σ i w)) _
  | swap i j l =>
    intro hn σ
    have hne : j ≠ i := fun z => (List.nodup_cons.mp hn).1 (by rw [z]; exact List.mem_cons_self)
    show dot (cs j) (fun w => dot (cs i) fun u => E cs l F (upd (upd σ j w) i u)) = dot (cs i) (fun u => dot (cs j) fun w => E cs l F (upd (upd σ i u) j w))
    unfold dot
    rw [dotF_swap]
    refine dotF_congr _ _ fun u _ _ => dotF_congr _ _ fun w _ _ => ?_
    rw [upd_comm hne]
  | trans p q ihp ihq => intro hn σ; rw [ihp hn, ihq (p.nodup_iff.mp hn)]
/-- nothing that is drawn matters -/
theorem E_free {cs : Nat → List Nat} {F : (Nat → Nat) → Nat} : ∀ (ls : List Nat) (σ τ : Nat → Nat), (∀ σ' τ' : Nat → Nat, (∀ j ∈ ls, σ' j = τ' j) → (∀ j, j ∉ ls → σ' j = σ j) → (∀ j, j ∉ ls → τ' j = τ j) → F σ' = F τ') → E cs ls F σ = E cs ls F τ
  | [], σ, τ, h => h σ τ (fun _ z => by cases z) (fun _ _ => rfl) fun _ _ => rfl
  | i :: ls, σ, τ, h => dot_congr (fun w => E_free ls (upd σ i w) (upd τ i w) fun σ' τ' h1 h2 h3 => h σ' τ' (fun j hj => by
      by_cases hm : j ∈ ls
      · exact h1 j hm
      · have : j = i := by rcases List.mem_cons.mp hj with z | z; exact z; exact absurd z hm
        rw [h2 j hm, h3 j hm, this]
        unfold upd
        rw [if_pos rfl, if_pos rfl]) (fun j hj => by
      rw [h2 j fun z => hj (List.mem_cons_of_mem _ z)]
      unfold upd
      rw [if_neg fun z => hj (by rw [z]; exact List.mem_cons_self)]) (fun j hj => by
      rw [h3 j fun z => hj (List.mem_cons_of_mem _ z)]
      unfold upd
      rw [if_neg fun z => hj (by rw [z]; exact List.mem_cons_self)])) _
end Mt
namespace Tre
open Mt
/- what a term tells by its things, its own parts joined by an operation -/
mutual
def ev (op : PySem.Str → Nat → Nat → Nat) (σ : Nat → Nat) : Tre → Nat
  | .leaf i => σ i
  | .node k ts => evs op σ k ts
def evs (op : PySem.Str → Nat → Nat → Nat) (σ : Nat → Nat) (k : PySem.Str) : List Tre → Nat
  | [] => 0
  | t :: ts => evf op σ k (ev op σ t) ts
def evf (op : PySem.Str → Nat → Nat → Nat) (σ : Nat → Nat) (k : PySem.Str) (a : Nat) : List Tre → Nat
  | [] => a
  | t :: ts => evf op σ k (op k a (ev op σ t)) ts
end
/- the same as a sum, part by part -/
mutual
def I (op : PySem.Str → Nat → Nat → Nat) (cs : Nat → List Nat) : Tre → (Nat → Nat) → Nat
  | .leaf i, f => dot (cs i) f
  | .node k ts, f => Is op cs k ts f
def Is (op : PySem.Str → Nat → Nat → Nat) (cs : Nat → List Nat) (k : PySem.Str) : List Tre → (Nat → Nat) → Nat
  | [], f => f 0
  | t :: ts, f => I op cs t fun a => If op cs k ts a f
def If (op : PySem.Str → Nat → Nat → Nat) (cs : Nat → List Nat) (k : PySem.Str) : List Tre → Nat → (Nat → Nat) → Nat
  | [], a, f => f a
  | t :: ts, a, f => I op cs t fun b => If op cs k ts (op k a b) f
end
section
variable {op : PySem.Str → Nat → Nat → Nat} {cs : Nat → List Nat}
mutual
theorem ev_congr {σ τ : Nat → Nat} : ∀ t : Tre, (∀ i ∈ t.leaves, σ i = τ i) → ev op σ t = ev op τ t
  | .leaf i, h => by rw [ev, ev]; exact h i (by rw [leaves]; simp)
  | .node k ts, h => by rw [ev, ev]; exact evs_congr k ts (by rw [leaves] at h; exact h)
theorem evs_congr {σ τ : Nat → Nat} (k : PySem.Str) : ∀ ts : List Tre, (∀ i ∈ leavess ts, σ i = τ i) → evs op σ k ts = evs op τ k ts
  | [], h => by rw [evs, evs]
  | t :: ts, h => by
    rw [leavess] at h
    rw [evs, evs, ev_congr t fun i hi => h i (List.mem_append_left _ hi), evf_congr k _ ts fun i hi => h i (List.mem_append_right _ hi)]
theorem evf_congr {σ τ : Nat → Nat} (k : PySem.Str) (a : Nat) : ∀ ts : List Tre, (∀ i ∈ leavess ts, σ i = τ i) → evf op σ k a ts = evf op τ k a ts
  | [], h => by rw [evf, evf]
  | t :: ts, h => by
    rw [leavess] at h
    rw [evf, evf, ev_congr t fun i hi => h i (List.mem_append_left _ hi), evf_congr k _ ts fun i hi => h i (List.mem_append_right _ hi)]
end
/- part by part is draw by draw -/
mutual
theorem I_eq : ∀ (t : Tre) (f : Nat → Nat) (σ : Nat → Nat), t.leaves.Nodup → I op cs t f = E cs t.leaves (fun σ' => f (ev op σ' t)) σ
  | .leaf i, f, σ, _ => by
    rw [I, leaves]
    show dot (cs i) f = dot (cs i) fun w => f (ev op (upd σ i w) (.leaf i))
    refine dot_congr (fun w => ?_) _
    rw [ev]
    unfold upd
    rw [if_pos rfl]
  | .node k ts, f, σ, hn => by
    rw [leaves] at hn
    rw [I, leaves, Is_eq k ts f σ hn]
    refine E_congr _ _ fun σ' _ => ?_
    rw [ev]
theorem Is_eq (k : PySem.Str) : ∀ (ts : List Tre) (f : Nat → Nat) (σ : Nat → Nat), (leavess ts).Nodup → Is op cs k ts f = E cs (leavess ts) (fun σ' => f (evs op σ' k ts)) σ
  | [], f, σ, _ => by
    rw [Is, leavess]
    show f 0 = f (evs op σ k [])
    rw [evs]
  | t :: ts, f, σ, hn => by
    rw [leavess] at hn
    obtain ⟨h1, h2, h3⟩ := List.nodup_append.mp hn
    rw [Is, leavess, E_app, I_eq t _ σ h1]
    refine E_congr _ _ fun σ1 _ => ?_
    rw [If_eq k ts _ f σ1 h2]
    refine E_congr _ _ fun σ2 hs => ?_
    rw [evs, ev_congr (σ := σ2) (τ := σ1) t fun i hi => hs i fun z => h3 i hi i z rfl]
theorem If_eq (k : PySem.Str) : ∀ (ts : List Tre) (a : Nat) (f : Nat → Nat) (σ : Nat → Nat), (leavess ts).Nodup → If op cs k ts a f = E cs (leavess ts) (fun σ' => f (evf op σ' k a ts)) σ
  | [], a, f, σ, _ => by
    rw [If, leavess]
    show f a = f (evf op σ k a [])
    rw [evf]
  | t :: ts, a, f, σ, hn => by
    rw [leavess] at hn
    obtain ⟨h1, h2, h3⟩ := List.nodup_append.mp hn
    rw [If, leavess, E_app, I_eq t _ σ h1]
    refine E_congr _ _ fun σ1 _ => ?_
    rw [If_eq k ts _ f σ1 h2]
    refine E_congr _ _ fun σ2 hs => ?_
    rw [evf, ev_congr (σ := σ2) (τ := σ1) t fun i hi => hs i fun z => h3 i hi i z rfl]
end
end
end Tre

set_option maxHeartbeats 1000000
namespace Cm
open PySem PySem.Spec PyProof.Rows L2 Dn Mt
/-! ### vectors as sums -/
theorem innerV_dot {ix : Nat → Nat} {a : Nat} {f : Nat → Nat} : ∀ (B : List Nat) (j : Nat) (T : List Nat), (∀ j', j ≤ j' → j' < j + B.length → ix j' < T.length) → dotF 0 (innerV ix a j B T) f = dotF 0 T f + a * dotF j B (fun j => f (ix j))
  | [], j, T, h => by simp [innerV, dotF]
  | b :: B, j, T, h => by
    rw [innerV, innerV_dot B (j + 1) _ (fun j' h1 h2 => by rw [List.length_set]; exact h j' (by omega) (by simp; omega)), dotF_set T (ix j) 0 (h j (Nat.le_refl _) (by simp)), dotF, Nat.zero_add, Nat.mul_add, Nat.mul_assoc, Nat.add_assoc]
theorem outerV_dot {ix : Nat → Nat → Nat} {B : List Nat} {f : Nat → Nat} : ∀ (A : List Nat) (i : Nat) (T : List Nat), (∀ i' j', i ≤ i' → i' < i + A.length → j' < B.length → ix i' j' < T.length) →
    dotF 0 (outerV ix B i A T) f = dotF 0 T f + dotF i A (fun i => dotF 0 B (fun j => f (ix i j)))
  | [], i, T, h => by simp [outerV, dotF]
  | a :: A, i, T, h => by
    rw [outerV, outerV_dot A (i + 1) _ (fun i' j' h1 h2 h3 => by rw [innerV_len]; exact h i' j' (by omega) (by simp; omega) h3), innerV_dot B 0 T (fun j' _ h2 => h i j' (Nat.le_refl _) (by simp) (by omega)), dotF, Nat.add_assoc]
theorem conv_dot {A B : List Nat} {f : Nat → Nat} : dot (convV A B) f = dot A (fun a => dot B (fun b => f (a + b))) := by
  unfold dot convV
  rw [outerV_dot A 0 _ (fun i' j' _ h1 h2 => by rw [List.length_replicate]; omega), dotF_repl, Nat.zero_add]
theorem min_dot {A B : List Nat} {f : Nat → Nat} : dot (minV A B) f = dot A (fun a => dot B (fun b => f (min a b))) := by
  unfold dot minV
  rw [outerV_dot A 0 _ (fun i' j' _ h1 h2 => by rw [List.length_replicate]; omega), dotF_repl, Nat.zero_add]
theorem conv_len {A B : List Nat} : (convV A B).length = A.length + B.length - 1 := by
  unfold convV; rw [outerV_len, List.length_replicate]
theorem min_len {A B : List Nat} : (minV A B).length = min A.length B.length := by
  unfold minV; rw [outerV_len, List.length_replicate]
/-- trailing noughts cut -/
def trimV : List Nat → List Nat
  | [] => []
  | a :: A => if a = 0 ∧ trimV A = [] then [] else a :: trimV A
theorem trim_dot {f : Nat → Nat} : ∀ (A : List Nat) (j : Nat), dotF j (trimV A) f = dotF j A f
  | [], j => rfl
  | a :: A, j => by
    rw [trimV]
    split
    · rename_i h
      show 0 = a * f j + dotF (j + 1) A f
      rw [← trim_dot A (j + 1), h.1, h.2]
      simp [dotF]
    · rw [dotF, dotF, trim_dot A]
theorem trim_take : ∀ A : List Nat, A.take (trimV A).length = trimV A
  | [] => rfl
  | a :: A => by
    rw [trimV]
    split
    · rfl
    · rw [List.length_cons, List.take_succ_cons, trim_take A]
theorem trim_le (A : List Nat) : (trimV A).length ≤ A.length := by
  have := congrArg List.length (trim_take A)
  rw [List.length_take] at this
  omega
theorem trim_idem : ∀ A : List Nat, trimV (trimV A) = trimV A
  | [] => rfl
  | a :: A => by
    rw [trimV]
    split
    · rfl
    · rename_i h
      rw [trimV, trim_idem A, if_neg h]
theorem trim_sum (A : List Nat) : (trimV A).sum = A.sum := by rw [← dotF_one (trimV A) 0, ← dotF_one A 0, trim_dot]
def posL : Nat → List Nat → List Int
  | _, [] => []
  | j, a :: A => if a = 0 then posL (j + 1) A else ((j : Int) + 1) :: posL (j + 1) A
theorem posL_max : ∀ (A : List Nat) (j : Nat), (∀ x ∈ posL j A, x ≤ (j : Int) + ((trimV A).length : Nat)) ∧ (trimV A ≠ [] → ((j : Int) + ((trimV A).length : Nat)) ∈ posL j A) ∧ (trimV A = [] → posL j A = [])
  | [], j => ⟨by simp [posL], by simp [trimV], by simp [posL]⟩
  | a :: A, j => by
    obtain ⟨h1, h2, h3⟩ := posL_max A (j + 1)
    by_cases ha : a = 0
    · subst ha
      by_cases ht : trimV A = []
      · have e : trimV (0 :: A) = [] := by rw [trimV, if_pos ⟨rfl, ht⟩]
        rw [posL, if_pos rfl, h3 ht, e]
        exact ⟨by simp, by simp, fun _ => rfl⟩
      · have e : trimV (0 :: A) = 0 :: trimV A := by rw [trimV, if_neg fun z => ht z.2]
        rw [posL, if_pos rfl, e, List.length_cons]
        refine ⟨fun x hx => ?_, fun _ => ?_, by simp⟩
        · have := h1 x hx; omega
        · have := h2 ht
          have e2 : ((j : Int) + ((trimV A).length + 1 : Nat)) = (((j + 1 : Nat) : Int) + ((trimV A).length : Nat)) := by omega
          rw [e2]; exact this
    · have e : trimV (a :: A) = a :: trimV A := by rw [trimV, if_neg fun z => ha z.1]
      rw [posL, if_neg ha, e, List.length_cons]
      refine ⟨fun x hx => ?_, fun _ => ?_, by simp⟩
      · rcases List.mem_cons.mp hx with rfl | hx
        · omega
        · have := h1 x hx; omega
      · by_cases ht : trimV A = []
        · rw [ht]
          have : ((j : Int) + (([] : List Nat).length + 1 : Nat)) = (j : Int) + 1 := by simp
          rw [this]
          exact List.mem_cons_self
        · refine List.mem_cons_of_mem _ ?_
          have := h2 ht
          have e2 : ((j : Int) + ((trimV A).length + 1 : Nat)) = (((j + 1 : Nat) : Int) + ((trimV A).length : Nat)) := by omega
          rw [e2]; exact this
def noughtD : D → Bool
  | .tup [_, .tup [.int n, _]] => !decide (n = 0)
  | _ => false
def nextD : D → D
  | .tup [.int i, _] => .int (i + 1)
  | _ => .non
theorem num_mk0 {a M : Nat} (hM : M ≠ 0) : (mkRat (a : Int) M).num = 0 ↔ a = 0 := by
  rw [Rat.num_eq_zero, mk_eq0 hM]
theorem posL_enum {M : Nat} (hM : M ≠ 0) : ∀ (A : List Nat) (j : Nat), ((enumAt j (mks M A)).filter noughtD).map nextD = (posL j A).map D.int
  | [], j => rfl
  | a :: A, j => by
    have e1 : mks M (a :: A) = fr (mkRat a M) :: mks M A := rfl
    rw [e1, enumAt_cons, List.filter_cons, posL]
    have e2 : noughtD (.tup [.int (j : Nat), fr (mkRat a M)]) = !decide (a = 0) := by
      show (!decide ((mkRat (a : Int) M).num = 0)) = _
      rw [decide_eq_decide.mpr (num_mk0 hM)]
    rw [e2]
    by_cases ha : a = 0
    · rw [if_neg (by simp [ha]), if_pos ha]
      exact posL_enum hM A (j + 1)
    · rw [if_pos (by simp [ha]), if_neg ha, List.map_cons, List.map_cons, posL_enum hM A (j + 1)]
      rfl
theorem ev_trimmed {M : Nat} {A : List Nat} {S : List O} (hM : M ≠ 0) (hA : A.sum ≠ 0) : F_trimmed_row [.tup (mks M A)] S = .ok (.tup (mks M (trimV A))) S := by
  have ht : trimV A ≠ [] := fun z => hA (by rw [← trim_sum, z]; rfl)
  obtain ⟨h1, h2, h3⟩ := posL_max A 0
  have i1 : Dn.iEnum (dVar 0) [some (.tup (mks M A)), none, none, none] S = .ok ⟨enumAt 0 (mks M A), none⟩ S := iEnum_tup rfl
  have e1 : dLc (Dn.iEnum (dVar 0)) [2, 3] (.tp [.nm 2, .nm 3]) (xOf (dBin (gEq true) (dVar 3) (dC c_NOUGHT))) (dBin gAdd (dVar 2) (dC (.int 1))) [some (.tup (mks M A)), none, none, none] S = .ok (.lst (((enumAt 0 (mks M A)).filter noughtD).map nextD)) S := by
    refine dLc_pure i1 (fun x hx acc => ?_) ?_
    · unfold enumAt at hx
      obtain ⟨⟨y, i⟩, hy, rfl⟩ := List.mem_map.mp hx
      have hm : y ∈ mks M A := by
        have := List.mem_zipIdx hy
        obtain ⟨_, _, e⟩ := this
        rw [e]; exact List.getElem_mem _
      unfold mks at hm
      obtain ⟨c, _, rfl⟩ := List.mem_map.mp hm
      refine ⟨[some (.tup (mks M A)), none, some (.int (i : Nat)), some (fr (mkRat c M))], ?_, ?_, fun _ => ?_⟩
      · simp -implicitDefEqProofs only [Dn.rbind_ok, Dn.rbind_bad, Dn.rbind_exc, Dn.obind_ok, Dn.obind_bad, Dn.nox_ok, Dn.dVar_zero, Dn.dVar_succ, Dn.dC_eq, Dn.dUn_eq, Dn.dBin_eq, Dn.dBl_eq, Dn.xOf_eq, Dn.xAnd_eq, Dn.xOr_eq, Dn.xNot_eq, Dn.xYes_eq, Dn.dAnd_eq, Dn.dOr_eq, Dn.dNot_eq, Dn.dIf_eq, Dn.aNil_eq, Dn.aCons_eq, Dn.dApp_eq, Dn.dTup_eq, Dn.dLst_eq, Dn.nLst_eq, Dn.dCall_eq, Dn.dChain_eq, Dn.sSet_eq, Dn.sRet_eq, Dn.sRetN_eq, Dn.sDrop_eq, Dn.sIf_eq, Dn.sNext_eq, Dn.sBrk_eq, Dn.sCnt_eq, Dn.sPar_eq, Dn.sPar3_eq, Dn.sAsg_eq, Dn.tset_nm, Dn.tset_tp, Dn.tsets_nil, Dn.tsets_cons, Dn.grd_none, Dn.wipeE_nil, Dn.wipeE_cons, Dn.gEq_int, Dn.gIsN_non, Dn.gIsN_int, Dn.gIsN_str, Dn.gIsN_tup, Dn.gIsN_bl, Dn.gIsN_ib, Dn.gIsN_nb, Dn.gIsN_sb, Dn.gIsN_tb, Dn.gAdd_int, Dn.gAugAdd_int, Dn.gSubI_int, Dn.gLt_int, Dn.gLe_int, Dn.gGt_int, Dn.gGe_int, Dn.gNeg_int, Dn.gAbs_int, Dn.gInt_int, Dn.gMax2_int, Dn.gMin2_int, Dn.asQ_tup, Dn.asQ_lst, Dn.asL_lst, Dn.gIdx_tup0, Dn.gIdx_tup1, Dn.gIdx_tup2, Dn.gLen_tup, Dn.gLen_lst, Dn.gLen_rol, Dn.gTuple_tup, Dn.gTuple_lst, Dn.gList_tup, Dn.gList_lst, Dn.sSetI_eq, Dn.dMtL_eq, Dn.iSeq_lst, Dn.iSeq_tup, Dn.sSeq_eq, Dn.startE, List.set_cons_zero, List.set_cons_succ, List.map_cons, List.map_nil, List.length_cons, List.length_nil, List.cons_append, List.nil_append, List.append_nil, List.replicate_succ, List.replicate_zero, if_true, if_false, ite_true, ite_false, Bool.false_eq_true, decide_true, decide_false, Nat.reduceSub, Nat.reduceAdd, Nat.reduceLeDiff, Bool.not_true, Bool.not_false, reduceIte, reduceCtorEq, Nat.zero_add, Nat.add_zero, wipeC]
      · have g1 : ∀ S, gEq true (fr (mkRat c M)) c_NOUGHT S = .ok (.bl (!decide (mkRat (c : Int) M = 0))) S := fun S => by rw [nought, gEq_fr]; rfl
        have e2 : noughtD (.tup [.int (i : Nat), fr (mkRat c M)]) = !decide (mkRat (c : Int) M = 0) := by
          show (!decide ((mkRat (c : Int) M).num = 0)) = _
          rw [decide_eq_decide.mpr Rat.num_eq_zero]
        rw [e2]
        simp -implicitDefEqProofs only [Dn.rbind_ok, Dn.rbind_bad, Dn.rbind_exc, Dn.obind_ok, Dn.obind_bad, Dn.nox_ok, Dn.dVar_zero, Dn.dVar_succ, Dn.dC_eq, Dn.dUn_eq, Dn.dBin_eq, Dn.dBl_eq, Dn.xOf_eq, Dn.xAnd_eq, Dn.xOr_eq, Dn.xNot_eq, Dn.xYes_eq, Dn.dAnd_eq, Dn.dOr_eq, Dn.dNot_eq, Dn.dIf_eq, Dn.aNil_eq, Dn.aCons_eq, Dn.dApp_eq, Dn.dTup_eq, Dn.dLst_eq, Dn.nLst_eq, Dn.dCall_eq, Dn.dChain_eq, Dn.sSet_eq, Dn.sRet_eq, Dn.sRetN_eq, Dn.sDrop_eq, Dn.sIf_eq, Dn.sNext_eq, Dn.sBrk_eq, Dn.sCnt_eq, Dn.sPar_eq, Dn.sPar3_eq, Dn.sAsg_eq, Dn.tset_nm, Dn.tset_tp, Dn.tsets_nil, Dn.tsets_cons, Dn.grd_none, Dn.wipeE_nil, Dn.wipeE_cons, Dn.gEq_int, Dn.gIsN_non, Dn.gIsN_int, Dn.gIsN_str, Dn.gIsN_tup, Dn.gIsN_bl, Dn.gIsN_ib, Dn.gIsN_nb, Dn.gIsN_sb, Dn.gIsN_tb, Dn.gAdd_int, Dn.gAugAdd_int, Dn.gSubI_int, Dn.gLt_int, Dn.gLe_int, Dn.gGt_int, Dn.gGe_int, Dn.gNeg_int, Dn.gAbs_int, Dn.gInt_int, Dn.gMax2_int, Dn.gMin2_int, Dn.asQ_tup, Dn.asQ_lst, Dn.asL_lst, Dn.gIdx_tup0, Dn.gIdx_tup1, Dn.gIdx_tup2, Dn.gLen_tup, Dn.gLen_lst, Dn.gLen_rol, Dn.gTuple_tup, Dn.gTuple_lst, Dn.gList_tup, Dn.gList_lst, Dn.sSetI_eq, Dn.dMtL_eq, Dn.iSeq_lst, Dn.iSeq_tup, Dn.sSeq_eq, Dn.startE, List.set_cons_zero, List.set_cons_succ, List.map_cons, List.map_nil, List.length_cons, List.length_nil, List.cons_append, List.nil_append, List.append_nil, List.replicate_succ, List.replicate_zero, if_true, if_false, ite_true, ite_false, Bool.false_eq_true, decide_true, decide_false, Nat.reduceSub, Nat.reduceAdd, Nat.reduceLeDiff, Bool.not_true, Bool.not_false, reduceIte, reduceCtorEq, Nat.zero_add, Nat.add_zero, g1]
      · simp -implicitDefEqProofs only [Dn.rbind_ok, Dn.rbind_bad, Dn.rbind_exc, Dn.obind_ok, Dn.obind_bad, Dn.nox_ok, Dn.dVar_zero, Dn.dVar_succ, Dn.dC_eq, Dn.dUn_eq, Dn.dBin_eq, Dn.dBl_eq, Dn.xOf_eq, Dn.xAnd_eq, Dn.xOr_eq, Dn.xNot_eq, Dn.xYes_eq, Dn.dAnd_eq, Dn.dOr_eq, Dn.dNot_eq, Dn.dIf_eq, Dn.aNil_eq, Dn.aCons_eq, Dn.dApp_eq, Dn.dTup_eq, Dn.dLst_eq, Dn.nLst_eq, Dn.dCall_eq, Dn.dChain_eq, Dn.sSet_eq, Dn.sRet_eq, Dn.sRetN_eq, Dn.sDrop_eq, Dn.sIf_eq, Dn.sNext_eq, Dn.sBrk_eq, Dn.sCnt_eq, Dn.sPar_eq, Dn.sPar3_eq, Dn.sAsg_eq, Dn.tset_nm, Dn.tset_tp, Dn.tsets_nil, Dn.tsets_cons, Dn.grd_none, Dn.wipeE_nil, Dn.wipeE_cons, Dn.gEq_int, Dn.gIsN_non, Dn.gIsN_int, Dn.gIsN_str, Dn.gIsN_tup, Dn.gIsN_bl, Dn.gIsN_ib, Dn.gIsN_nb, Dn.gIsN_sb, Dn.gIsN_tb, Dn.gAdd_int, Dn.gAugAdd_int, Dn.gSubI_int, Dn.gLt_int, Dn.gLe_int, Dn.gGt_int, Dn.gGe_int, Dn.gNeg_int, Dn.gAbs_int, Dn.gInt_int, Dn.gMax2_int, Dn.gMin2_int, Dn.asQ_tup, Dn.asQ_lst, Dn.asL_lst, Dn.gIdx_tup0, Dn.gIdx_tup1, Dn.gIdx_tup2, Dn.gLen_tup, Dn.gLen_lst, Dn.gLen_rol, Dn.gTuple_tup, Dn.gTuple_lst, Dn.gList_tup, Dn.gList_lst, Dn.sSetI_eq, Dn.dMtL_eq, Dn.iSeq_lst, Dn.iSeq_tup, Dn.sSeq_eq, Dn.startE, List.set_cons_zero, List.set_cons_succ, List.map_cons, List.map_nil, List.length_cons, List.length_nil, List.cons_append, List.nil_append, List.append_nil, List.replicate_succ, List.replicate_zero, if_true, if_false, ite_true, ite_false, Bool.false_eq_true, decide_true, decide_false, Nat.reduceSub, Nat.reduceAdd, Nat.reduceLeDiff, Bool.not_true, Bool.not_false, reduceIte, reduceCtorEq, Nat.zero_add, Nat.add_zero, nextD]
    · rw [posL_enum hM]
      exact lows_pure _ _ (pure_ints _)
  rw [posL_enum hM] at e1
  have e3 : maxL (posL 0 A) = some (((trimV A).length : Nat) : Int) := by
    refine maxL_eq ?_ fun y hy => ?_
    · have := h2 ht
      simpa using this
    · have := h1 y hy
      omega
  have e4 : gMaxA [.lst ((posL 0 A).map D.int)] S = .ok (.int ((trimV A).length : Nat)) S := gMaxA_of rfl e3
  have e5 : dSl (dVar 0) (oNone) (oSome (dVar 1)) [some (.tup (mks M A)), some (.int ((trimV A).length : Nat)), none, none] S = .ok (.tup (mks M (trimV A))) S := by
    refine (tl_take (xs := mks M A) (k := (trimV A).length) (S1 := S) rfl rfl).trans ?_
    unfold mks
    rw [← List.map_take, trim_take]
  refine def_rt rfl ?_ (low_pure _ _ (by simpa [pureD] using pure_mks _ _))
  simp -implicitDefEqProofs only [Dn.rbind_ok, Dn.rbind_bad, Dn.rbind_exc, Dn.obind_ok, Dn.obind_bad, Dn.nox_ok, Dn.dVar_zero, Dn.dVar_succ, Dn.dC_eq, Dn.dUn_eq, Dn.dBin_eq, Dn.dBl_eq, Dn.xOf_eq, Dn.xAnd_eq, Dn.xOr_eq, Dn.xNot_eq, Dn.xYes_eq, Dn.dAnd_eq, Dn.dOr_eq, Dn.dNot_eq, Dn.dIf_eq, Dn.aNil_eq, Dn.aCons_eq, Dn.dApp_eq, Dn.dTup_eq, Dn.dLst_eq, Dn.nLst_eq, Dn.dCall_eq, Dn.dChain_eq, Dn.sSet_eq, Dn.sRet_eq, Dn.sRetN_eq, Dn.sDrop_eq, Dn.sIf_eq, Dn.sNext_eq, Dn.sBrk_eq, Dn.sCnt_eq, Dn.sPar_eq, Dn.sPar3_eq, Dn.sAsg_eq, Dn.tset_nm, Dn.tset_tp, Dn.tsets_nil, Dn.tsets_cons, Dn.grd_none, Dn.wipeE_nil, Dn.wipeE_cons, Dn.gEq_int, Dn.gIsN_non, Dn.gIsN_int, Dn.gIsN_str, Dn.gIsN_tup, Dn.gIsN_bl, Dn.gIsN_ib, Dn.gIsN_nb, Dn.gIsN_sb, Dn.gIsN_tb, Dn.gAdd_int, Dn.gAugAdd_int, Dn.gSubI_int, Dn.gLt_int, Dn.gLe_int, Dn.gGt_int, Dn.gGe_int, Dn.gNeg_int, Dn.gAbs_int, Dn.gInt_int, Dn.gMax2_int, Dn.gMin2_int, Dn.asQ_tup, Dn.asQ_lst, Dn.asL_lst, Dn.gIdx_tup0, Dn.gIdx_tup1, Dn.gIdx_tup2, Dn.gLen_tup, Dn.gLen_lst, Dn.gLen_rol, Dn.gTuple_tup, Dn.gTuple_lst, Dn.gList_tup, Dn.gList_lst, Dn.sSetI_eq, Dn.dMtL_eq, Dn.iSeq_lst, Dn.iSeq_tup, Dn.sSeq_eq, Dn.startE, List.set_cons_zero, List.set_cons_succ, List.map_cons, List.map_nil, List.length_cons, List.length_nil, List.cons_append, List.nil_append, List.append_nil, List.replicate_succ, List.replicate_zero, if_true, if_false, ite_true, ite_false, Bool.false_eq_true, decide_true, decide_false, Nat.reduceSub, Nat.reduceAdd, Nat.reduceLeDiff, Bool.not_true, Bool.not_false, reduceIte, reduceCtorEq, Nat.zero_add, Nat.add_zero, B_trimmed_row, e1, e4, e5]
/-! ### a term's rows gone through -/
def StepOk (tg : Tgt) (dead : List Nat) (body : DenS) (st : List D → Dn.Env × Store) (L : List D) (row v : D) : Prop :=
  ∃ ρ1 ρ2 S2, tset tg row (st L).1 = some ρ1 ∧ body ρ1 (st L).2 = .nx ρ2 S2 ∧ (wipeE dead ρ2, S2) = st (L ++ [v])
theorem forD_step {tg : Tgt} {dead : List Nat} {body : DenS} {st : List D → Dn.Env × Store} {L rest : List D} {row v : D} (h : StepOk tg dead body st L row v) :
    forD tg dead body none (row :: rest) (st L).1 (st L).2 = forD tg dead body none rest (st (L ++ [v])).1 (st (L ++ [v])).2 := by
  obtain ⟨ρ1, ρ2, S2, h1, h2, h3⟩ := h
  rw [forD_cons, h1]
  simp only
  rw [h2]
  simp only
  rw [← h3]
section
variable {tg : Tgt} {dead : List Nat} {body : DenS} {st : List D → Dn.Env × Store} {P : Tre → D → Prop} {Q : Tre → Prop} {B : Nat}
mutual
theorem fold_rows (hQ : ∀ k ts, Q (.node k ts) → ∀ t ∈ ts, Q t)
    (hl : ∀ L i b, Q (.leaf i) → L.length < B → ∃ v, StepOk tg dead body st L (Tre.row b (.leaf i)) v ∧ P (.leaf i) v)
    (hn : ∀ L k ts b vs, Q (.node k ts) → L.length < B → F2 (fun (n : Nat) v => L[n]? = some v) (Tre.roots b ts) vs → F2 P ts vs → ∃ v, StepOk tg dead body st L (Tre.row b (.node k ts)) v ∧ P (.node k ts) v) :
    ∀ (t : Tre) (L rest : List D), Q t → L.length + t.size ≤ B → ∃ (vs : List D) (v : D), forD tg dead body none (Tre.rows L.length t ++ rest) (st L).1 (st L).2 = forD tg dead body none rest (st (L ++ vs)).1 (st (L ++ vs)).2 ∧ vs.length = t.size ∧ vs.getLast? = some v ∧ P t v
  | .leaf i, L, rest, q, hB => by
    rw [Tre.size] at hB
    obtain ⟨v, h, p⟩ := hl L i L.length q (by omega)
    refine ⟨[v], v, ?_, by rw [Tre.size]; rfl, rfl, p⟩
    rw [Tre.rows, List.singleton_append]
    exact forD_step h
  | .node k ts, L, rest, q, hB => by
    rw [Tre.size] at hB
    rw [Tre.rows, List.append_assoc]
    obtain ⟨Vs, vs, e, hlen, hg, hp⟩ := fold_rowss hQ hl hn ts L ([Tre.row L.length (.node k ts)] ++ rest) (hQ k ts q) (by omega)
    obtain ⟨v, h, p⟩ := hn (L ++ Vs) k ts L.length vs q (by rw [List.length_append]; omega) hg hp
    refine ⟨Vs ++ [v], v, ?_, by rw [Tre.size, List.length_append, hlen]; rfl, by simp, p⟩
    rw [e, List.singleton_append, forD_step h, List.append_assoc]
theorem fold_rowss (hQ : ∀ k ts, Q (.node k ts) → ∀ t ∈ ts, Q t)
    (hl : ∀ L i b, Q (.leaf i) → L.length < B → ∃ v, StepOk tg dead body st L (Tre.row b (.leaf i)) v ∧ P (.leaf i) v)
    (hn : ∀ L k ts b vs, Q (.node k ts) → L.length < B → F2 (fun (n : Nat) v => L[n]? = some v) (Tre.roots b ts) vs → F2 P ts vs → ∃ v, StepOk tg dead body st L (Tre.row b (.node k ts)) v ∧ P (.node k ts) v) :
    ∀ (ts : List Tre) (L rest : List D), (∀ t ∈ ts, Q t) → L.length + Tre.sizes ts ≤ B → ∃ (Vs vs : List D), forD tg dead body none (Tre.rowss L.length ts ++ rest) (st L).1 (st L).2 = forD tg dead body none rest (st (L ++ Vs)).1 (st (L ++ Vs)).2 ∧ Vs.length = Tre.sizes ts ∧ F2 (fun (n : Nat) v => (L ++ Vs)[n]? = some v) (Tre.roots L.length ts) vs ∧ F2 P ts vs
  | [], L, rest, q, hB => ⟨[], [], by rw [Tre.rowss, List.append_nil]; rfl, by rw [Tre.sizes]; rfl, .nil, .nil⟩
  | t :: ts, L, rest, q, hB => by
    rw [Tre.sizes] at hB
    obtain ⟨V1, v, e1, l1, g1, p1⟩ := fold_rows hQ hl hn t L (Tre.rowss (L.length + t.size) ts ++ rest) (q t List.mem_cons_self) (by omega)
    have hl1 : (L ++ V1).length = L.length + t.size := by rw [List.length_append, l1]
    obtain ⟨V2, vs, e2, l2, g2, p2⟩ := fold_rowss hQ hl hn ts (L ++ V1) rest (fun u hu => q u (List.mem_cons_of_mem _ hu)) (by omega)
    rw [hl1] at e2 g2
    refine ⟨V1 ++ V2, v :: vs, ?_, by rw [Tre.sizes, List.length_append, l1, l2], ?_, .cons p1 p2⟩
    · rw [Tre.rowss, List.append_assoc, e1, e2, List.append_assoc]
    · rw [Tre.roots, ← List.append_assoc]
      refine .cons ?_ g2
      have hs := t.size_pos
      rw [List.getElem?_append_left (by omega), List.getElem?_append_right (by omega), show L.length + t.size - 1 - L.length = V1.length - 1 by omega]
      rw [← List.getLast?_eq_getElem?]
      exact g1
end
end
end Cm

set_option maxHeartbeats 1000000
namespace Tre
mutual
def ok (n : Nat) : Tre → Prop
  | .leaf i => i < n
  | .node k ts => (k = "row" ∨ k = "side") ∧ ts ≠ [] ∧ oks n ts
def oks (n : Nat) : List Tre → Prop
  | [] => True
  | t :: ts => ok n t ∧ oks n ts
end
theorem oks_mem {n : Nat} : ∀ {ts : List Tre}, oks n ts → ∀ t ∈ ts, ok n t
  | t :: ts, h, u, hu => by
    rw [oks] at h
    rcases List.mem_cons.mp hu with rfl | hu
    · exact h.1
    · exact oks_mem h.2 u hu
theorem leaves_le {ts : List Tre} {t : Tre} (h : t ∈ ts) : t.leaves.length ≤ (leavess ts).length := by
  rw [leavess_eq]
  induction ts with
  | nil => cases h
  | cons u ts ih =>
    rw [List.flatMap_cons, List.length_append]
    rcases List.mem_cons.mp h with rfl | h
    · omega
    · have := ih h; omega
end Tre
namespace Cm
open PySem PySem.Spec PyProof.Rows L2 Dn Mt
def opN (k : Str) (a b : Nat) : Nat := if k = "row" then min a b else a + b
theorem str_row : PyData.strOk "row" = true := by decide +kernel
theorem str_side : PyData.strOk "side" = true := by decide +kernel
theorem ne_side_row : ¬ (("side" : Str) = "row") := by decide +kernel
theorem gEq_kind {k : Str} (h : k = "row" ∨ k = "side") {S : Store} : gEq false (.str k) c_ROW S = .ok (.bl (decide (k = "row"))) S := by
  rcases h with rfl | rfl
  · exact gEq_str str_row str_row
  · exact gEq_str str_side str_row
section
variable {Ms : Nat → Nat} {cs : Nat → List Nat} {n : Nat}
def prodL (Ms : Nat → Nat) (ls : List Nat) : Nat := (ls.map Ms).prod
theorem prodL_app (a b : List Nat) : prodL Ms (a ++ b) = prodL Ms a * prodL Ms b := by unfold prodL; rw [List.map_append, List.prod_append]
theorem prodL_pos (h : ∀ i, Ms i ≠ 0) : ∀ ls : List Nat, prodL Ms ls ≠ 0
  | [] => by simp [prodL]
  | i :: ls => by
    have := prodL_pos h ls
    unfold prodL at this ⊢
    rw [List.map_cons, List.prod_cons]
    exact Nat.mul_ne_zero (h i) this
theorem prodL_le (h : ∀ i, Ms i ≤ 60) : ∀ ls : List Nat, prodL Ms ls ≤ 60 ^ ls.length
  | [] => by simp [prodL]
  | i :: ls => by
    have := prodL_le h ls
    unfold prodL at this ⊢
    rw [List.map_cons, List.prod_cons, List.length_cons, Nat.pow_succ, Nat.mul_comm]
    exact Nat.mul_le_mul this (h i)
theorem prodL_small (h : ∀ i, Ms i ≤ 60) {ls : List Nat} (hl : ls.length ≤ 5) : prodL Ms ls < 4294967296 := by
  refine Nat.lt_of_le_of_lt (prodL_le h ls) ?_
  refine Nat.lt_of_le_of_lt (Nat.pow_le_pow_right (by omega) hl) (by decide)
structure Vec (Ms : Nat → Nat) (cs : Nat → List Nat) (t : Tre) (A : List Nat) : Prop where
  ne : A ≠ []
  sum : A.sum = prodL Ms t.leaves
  len : A.length ≤ 10 * t.leaves.length
  tr : trimV A = A
  dt : ∀ f, dot A f = Tre.I opN cs t f
def VecP (Ms : Nat → Nat) (cs : Nat → List Nat) (t : Tre) (v : D) : Prop := ∃ A, v = .tup (mks (prodL Ms t.leaves) A) ∧ Vec Ms cs t A
noncomputable def ncB : DenS := sSet 6 (dIf (xOf (dBin (gEq false) (dVar 3) (dC c_ROW))) (dCall F_least_row [] (aCons (dVar 6) (aCons (dBin gIdx (dVar 2) (dVar 7)) (aNil)))) (dCall F_summed_row [] (aCons (dVar 6) (aCons (dBin gIdx (dVar 2) (dVar 7)) (aNil)))))
theorem sum_ne {A : List Nat} {M : Nat} (h : A.sum = M) (hM : M ≠ 0) : A ≠ [] := fun z => by subst z; exact hM h.symm
theorem nc_loop {e0 e1 e4 e5 : Option D} {S : List O} {L : List D} {k : Str} (hk : k = "row" ∨ k = "side") (h0 : ∀ i, Ms i ≠ 0) (h60 : ∀ i, Ms i ≤ 60) : ∀ (ns : List Nat) (us : List Tre) (vs : List D), F2 (fun (n : Nat) v => L[n]? = some v) ns vs → F2 (VecP Ms cs) us vs →
    ∀ (ls A : List Nat), A.sum = prodL Ms ls → ls.length + (Tre.leavess us).length ≤ 5 → A.length + 10 * (Tre.leavess us).length ≤ 100 →
    ∃ A', forD (.nm 7) [7] ncB none (ns.map fun (n : Nat) => D.int (n : Nat)) [e0, e1, some (.ref S.length), some (.str k), e4, e5, some (.tup (mks (prodL Ms ls) A)), none] (S ++ [.lst L])
      = .nx [e0, e1, some (.ref S.length), some (.str k), e4, e5, some (.tup (mks (prodL Ms (ls ++ Tre.leavess us)) A')), none] (S ++ [.lst L]) ∧ A'.sum = prodL Ms (ls ++ Tre.leavess us) ∧ A'.length ≤ A.length + 10 * (Tre.leavess us).length ∧ ∀ f, dot A' f = dot A (fun a => Tre.If opN cs k us a f)
  | [], us, vs, hg, hp, ls, A, hs, hl, hA => by
    cases hg
    cases hp
    rw [Tre.leavess, List.append_nil]
    exact ⟨A, by rw [List.map_nil, forD_nil], hs, by simp, fun f => dot_congr (fun a => by rw [Tre.If]) _⟩
  | m :: ns, us, vs, hg, hp, ls, A, hs, hl, hA => by
    cases hg with
    | @cons _ v _ vs hm hg =>
      cases hp with
      | @cons u _ us _ hu hp =>
        obtain ⟨B, rfl, hB⟩ := hu
        have hlu : (Tre.leavess (u :: us)).length = u.leaves.length + (Tre.leavess us).length := by rw [Tre.leavess, List.length_append]
        have hB2 := hB.len
        have M0 := prodL_pos h0 ls
        have N0 := prodL_pos h0 u.leaves
        have hMN : prodL Ms ls * prodL Ms u.leaves < 4294967296 := by
          rw [← prodL_app]
          exact prodL_small h60 (by rw [List.length_append]; omega)
        have g1 : gIdx (.ref S.length) (.int (m : Nat)) (S ++ [.lst L]) = .ok (.tup (mks (prodL Ms u.leaves) B)) (S ++ [.lst L]) := gIdx_of (asQ_ref get_last) hm
        have key : ∃ C : List Nat, ncB [e0, e1, some (.ref S.length), some (.str k), e4, e5, some (.tup (mks (prodL Ms ls) A)), some (.int (m : Nat))] (S ++ [.lst L]) = .nx [e0, e1, some (.ref S.length), some (.str k), e4, e5, some (.tup (mks (prodL Ms (ls ++ u.leaves)) C)), some (.int (m : Nat))] (S ++ [.lst L]) ∧
            C.length ≤ A.length + B.length ∧ ∀ f, dot C f = dot A (fun a => dot B (fun b => f (opN k a b))) := by
          rcases hk with rfl | rfl
          · refine ⟨minV A B, ?_, by rw [min_len]; omega, fun f => by rw [min_dot]; rfl⟩
            have e1 := ev_least (S := S ++ [O.lst L]) M0 N0 hMN (by rw [hs]; exact Nat.le_refl _) (by rw [hB.sum]; exact Nat.le_refl _) (sum_ne hs M0) hB.ne (by omega)
            have g2 : ∀ S, gEq false (.str "row") c_ROW S = .ok (.bl true) S := fun S => gEq_kind (.inl rfl)
            simp -implicitDefEqProofs only [Dn.rbind_ok, Dn.rbind_bad, Dn.rbind_exc, Dn.obind_ok, Dn.obind_bad, Dn.nox_ok, Dn.dVar_zero, Dn.dVar_succ, Dn.dC_eq, Dn.dUn_eq, Dn.dBin_eq, Dn.dBl_eq, Dn.xOf_eq, Dn.xAnd_eq, Dn.xOr_eq, Dn.xNot_eq, Dn.xYes_eq, Dn.dAnd_eq, Dn.dOr_eq, Dn.dNot_eq, Dn.dIf_eq, Dn.aNil_eq, Dn.aCons_eq, Dn.dApp_eq, Dn.dTup_eq, Dn.dLst_eq, Dn.nLst_eq, Dn.dCall_eq, Dn.dChain_eq, Dn.sSet_eq, Dn.sRet_eq, Dn.sRetN_eq, Dn.sDrop_eq, Dn.sIf_eq, Dn.sNext_eq, Dn.sBrk_eq, Dn.sCnt_eq, Dn.sPar_eq, Dn.sPar3_eq, Dn.sAsg_eq, Dn.tset_nm, Dn.tset_tp, Dn.tsets_nil, Dn.tsets_cons, Dn.grd_none, Dn.wipeE_nil, Dn.wipeE_cons, Dn.gEq_int, Dn.gIsN_non, Dn.gIsN_int, Dn.gIsN_str, Dn.gIsN_tup, Dn.gIsN_bl, Dn.gIsN_ib, Dn.gIsN_nb, Dn.gIsN_sb, Dn.gIsN_tb, Dn.gAdd_int, Dn.gAugAdd_int, Dn.gSubI_int, Dn.gLt_int, Dn.gLe_int, Dn.gGt_int, Dn.gGe_int, Dn.gNeg_int, Dn.gAbs_int, Dn.gInt_int, Dn.gMax2_int, Dn.gMin2_int, Dn.asQ_tup, Dn.asQ_lst, Dn.asL_lst, Dn.gIdx_tup0, Dn.gIdx_tup1, Dn.gIdx_tup2, Dn.gLen_tup, Dn.gLen_lst, Dn.gLen_rol, Dn.gTuple_tup, Dn.gTuple_lst, Dn.gList_tup, Dn.gList_lst, Dn.sSetI_eq, Dn.dMtL_eq, Dn.iSeq_lst, Dn.iSeq_tup, Dn.sSeq_eq, Dn.startE, List.set_cons_zero, List.set_cons_succ, List.map_cons, List.map_nil, List.length_cons, List.length_nil, List.cons_append, List.nil_append, List.append_nil, List.replicate_succ, List.replicate_zero, if_true, if_false, ite_true, ite_false, Bool.false_eq_true, decide_true, decide_false, Nat.reduceSub, Nat.reduceAdd, Nat.reduceLeDiff, Bool.not_true, Bool.not_false, reduceIte, reduceCtorEq, Nat.zero_add, Nat.add_zero, ncB, g2, g1, e1, prodL_app]
          · refine ⟨convV A B, ?_, by rw [conv_len]; omega, fun f => by
              rw [conv_dot]
              refine dot_congr (fun a => dot_congr (fun b => ?_) _) _
              unfold opN
              rw [if_neg ne_side_row]⟩
            have e1 := ev_summed (S := S ++ [O.lst L]) M0 N0 hMN (by rw [hs]; exact Nat.le_refl _) (by rw [hB.sum]; exact Nat.le_refl _) (sum_ne hs M0) hB.ne (by omega)
            have g2 : ∀ S, gEq false (.str "side") c_ROW S = .ok (.bl false) S := fun S => by rw [gEq_kind (.inr rfl), decide_eq_false ne_side_row]
            simp -implicitDefEqProofs only [Dn.rbind_ok, Dn.rbind_bad, Dn.rbind_exc, Dn.obind_ok, Dn.obind_bad, Dn.nox_ok, Dn.dVar_zero, Dn.dVar_succ, Dn.dC_eq, Dn.dUn_eq, Dn.dBin_eq, Dn.dBl_eq, Dn.xOf_eq, Dn.xAnd_eq, Dn.xOr_eq, Dn.xNot_eq, Dn.xYes_eq, Dn.dAnd_eq, Dn.dOr_eq, Dn.dNot_eq, Dn.dIf_eq, Dn.aNil_eq, Dn.aCons_eq, Dn.dApp_eq, Dn.dTup_eq, Dn.dLst_eq, Dn.nLst_eq, Dn.dCall_eq, Dn.dChain_eq, Dn.sSet_eq, Dn.sRet_eq, Dn.sRetN_eq, Dn.sDrop_eq, Dn.sIf_eq, Dn.sNext_eq, Dn.sBrk_eq, Dn.sCnt_eq, Dn.sPar_eq, Dn.sPar3_eq, Dn.sAsg_eq, Dn.tset_nm, Dn.tset_tp, Dn.tsets_nil, Dn.tsets_cons, Dn.grd_none, Dn.wipeE_nil, Dn.wipeE_cons, Dn.gEq_int, Dn.gIsN_non, Dn.gIsN_int, Dn.gIsN_str, Dn.gIsN_tup, Dn.gIsN_bl, Dn.gIsN_ib, Dn.gIsN_nb, Dn.gIsN_sb, Dn.gIsN_tb, Dn.gAdd_int, Dn.gAugAdd_int, Dn.gSubI_int, Dn.gLt_int, Dn.gLe_int, Dn.gGt_int, Dn.gGe_int, Dn.gNeg_int, Dn.gAbs_int, Dn.gInt_int, Dn.gMax2_int, Dn.gMin2_int, Dn.asQ_tup, Dn.asQ_lst, Dn.asL_lst, Dn.gIdx_tup0, Dn.gIdx_tup1, Dn.gIdx_tup2, Dn.gLen_tup, Dn.gLen_lst, Dn.gLen_rol, Dn.gTuple_tup, Dn.gTuple_lst, Dn.gList_tup, Dn.gList_lst, Dn.sSetI_eq, Dn.dMtL_eq, Dn.iSeq_lst, Dn.iSeq_tup, Dn.sSeq_eq, Dn.startE, List.set_cons_zero, List.set_cons_succ, List.map_cons, List.map_nil, List.length_cons, List.length_nil, List.cons_append, List.nil_append, List.append_nil, List.replicate_succ, List.replicate_zero, if_true, if_false, ite_true, ite_false, Bool.false_eq_true, decide_true, decide_false, Nat.reduceSub, Nat.reduceAdd, Nat.reduceLeDiff, Bool.not_true, Bool.not_false, reduceIte, reduceCtorEq, Nat.zero_add, Nat.add_zero, ncB, g2, g1, e1, prodL_app]
        obtain ⟨C, e1', hCl, hC⟩ := key
        have hCs : C.sum = prodL Ms (ls ++ u.leaves) := by
          rw [← dot_one, hC]
          have : (fun a => dot B fun b => 1) = fun _ : Nat => B.sum := by funext a; exact dot_one B
          rw [this, prodL_app, ← hs, ← hB.sum]
          have := dotF_mul (f := fun _ => 1) (c := B.sum) A 0
          rw [dotF_one] at this
          simp only [Nat.mul_one] at this
          show dotF 0 A _ = _
          rw [this, Nat.mul_comm]
        obtain ⟨A', e2, s2, l2, d2⟩ := nc_loop (e0 := e0) (e1 := e1) (e4 := e4) (e5 := e5) (S := S) hk h0 h60 ns us vs hg hp (ls ++ u.leaves) C hCs (by rw [List.length_append]; omega) (by omega)
        refine ⟨A', ?_, by rw [s2, Tre.leavess, List.append_assoc], by omega, fun f => ?_⟩
        · rw [List.map_cons, forD_cons]
          simp -implicitDefEqProofs only [tset_nm, List.set_cons_succ, List.set_cons_zero, e1', wipeE_cons, wipeE_nil]
          rw [e2, Tre.leavess, List.append_assoc]
        · rw [d2, hC]
          refine dot_congr (fun a => ?_) _
          rw [Tre.If, hB.dt]
def ncS (t rows : D) (S : List O) (L : List D) : Dn.Env × Store := ([some t, some rows, some (.ref S.length), none, none, none, none, none], S ++ [.lst L])
noncomputable def ncR : DenS := (sSeq (sSet 6 (dIf (xOf (dBin (gIsN false) (dVar 3) (dC .non))) (dBin gIdx (dVar 1) (dBin gIdx (dVar 5) (dC (.int 0)))) (dBin gIdx (dVar 2) (dBin gIdx (dVar 4) (dC (.int 0)))))) (sSeq (sFor (iSeq (dSl (dVar 4) (oSome (dC (.int 1))) (oNone))) (.nm 7) [7] ncB) (sDrop (dMtL gAppend (dVar 2) (aCons (dCall F_trimmed_row [] (aCons (dVar 6) (aNil))) (aNil))))))
theorem number_body : B_number_chances = sSeq (sSet 2 (nLst (aNil))) (sSeq (sFor (iSeq (dCall F_term_rows [] (aCons (dVar 0) (aNil)))) (.tp [.nm 3, .nm 4, .nm 5]) [3, 4, 5, 6, 7] ncR) (sRet (dBin gIdx (dVar 2) (dUn gNeg (dC (.int 1)))))) := rfl
/-- what ends a turn -/
theorem nc_end {t rows : D} {S : List O} {L : List D} {e3 e4 e5 : Option D} {ls A : List Nat} (h0 : ∀ i, Ms i ≠ 0) (hs : A.sum = prodL Ms ls) (hL : L.length < 1000) :
    sDrop (dMtL gAppend (dVar 2) (aCons (dCall F_trimmed_row [] (aCons (dVar 6) (aNil))) (aNil))) [some t, some rows, some (.ref S.length), e3, e4, e5, some (.tup (mks (prodL Ms ls) A)), none] (S ++ [.lst L])
      = .nx [some t, some rows, some (.ref S.length), e3, e4, e5, some (.tup (mks (prodL Ms ls) A)), none] (S ++ [.lst (L ++ [.tup (mks (prodL Ms ls) (trimV A))])]) := by
  have g0 : asL (S ++ [O.lst L]) (.ref S.length) = some L := asL_ref get_last
  have g1 : F_trimmed_row [.tup (mks (prodL Ms ls) A)] (S ++ [.lst L]) = .ok (.tup (mks (prodL Ms ls) (trimV A))) (S ++ [.lst L]) := ev_trimmed (prodL_pos h0 ls) (by rw [hs]; exact prodL_pos h0 ls)
  have g2 : gAppend (.ref S.length) [.tup (mks (prodL Ms ls) (trimV A))] (S ++ [.lst L]) = .ok .non (S ++ [.lst (L ++ [.tup (mks (prodL Ms ls) (trimV A))])]) := by
    rw [gAppend_of get_last (small_lt (by omega)), set_last]
  simp -implicitDefEqProofs only [Dn.rbind_ok, Dn.rbind_bad, Dn.rbind_exc, Dn.obind_ok, Dn.obind_bad, Dn.nox_ok, Dn.dVar_zero, Dn.dVar_succ, Dn.dC_eq, Dn.dUn_eq, Dn.dBin_eq, Dn.dBl_eq, Dn.xOf_eq, Dn.xAnd_eq, Dn.xOr_eq, Dn.xNot_eq, Dn.xYes_eq, Dn.dAnd_eq, Dn.dOr_eq, Dn.dNot_eq, Dn.dIf_eq, Dn.aNil_eq, Dn.aCons_eq, Dn.dApp_eq, Dn.dTup_eq, Dn.dLst_eq, Dn.nLst_eq, Dn.dCall_eq, Dn.dChain_eq, Dn.sSet_eq, Dn.sRet_eq, Dn.sRetN_eq, Dn.sDrop_eq, Dn.sIf_eq, Dn.sNext_eq, Dn.sBrk_eq, Dn.sCnt_eq, Dn.sPar_eq, Dn.sPar3_eq, Dn.sAsg_eq, Dn.tset_nm, Dn.tset_tp, Dn.tsets_nil, Dn.tsets_cons, Dn.grd_none, Dn.wipeE_nil, Dn.wipeE_cons, Dn.gEq_int, Dn.gIsN_non, Dn.gIsN_int, Dn.gIsN_str, Dn.gIsN_tup, Dn.gIsN_bl, Dn.gIsN_ib, Dn.gIsN_nb, Dn.gIsN_sb, Dn.gIsN_tb, Dn.gAdd_int, Dn.gAugAdd_int, Dn.gSubI_int, Dn.gLt_int, Dn.gLe_int, Dn.gGt_int, Dn.gGe_int, Dn.gNeg_int, Dn.gAbs_int, Dn.gInt_int, Dn.gMax2_int, Dn.gMin2_int, Dn.asQ_tup, Dn.asQ_lst, Dn.asL_lst, Dn.gIdx_tup0, Dn.gIdx_tup1, Dn.gIdx_tup2, Dn.gLen_tup, Dn.gLen_lst, Dn.gLen_rol, Dn.gTuple_tup, Dn.gTuple_lst, Dn.gList_tup, Dn.gList_lst, Dn.sSetI_eq, Dn.dMtL_eq, Dn.iSeq_lst, Dn.iSeq_tup, Dn.sSeq_eq, Dn.startE, List.set_cons_zero, List.set_cons_succ, List.map_cons, List.map_nil, List.length_cons, List.length_nil, List.cons_append, List.nil_append, List.append_nil, List.replicate_succ, List.replicate_zero, if_true, if_false, ite_true, ite_false, Bool.false_eq_true, decide_true, decide_false, Nat.reduceSub, Nat.reduceAdd, Nat.reduceLeDiff, Bool.not_true, Bool.not_false, reduceIte, reduceCtorEq, Nat.zero_add, Nat.add_zero, g0, g1, g2]
theorem vec_trim {t : Tre} {A : List Nat} (h0 : ∀ i, Ms i ≠ 0) (hs : A.sum = prodL Ms t.leaves) (hl : A.length ≤ 10 * t.leaves.length) (hd : ∀ f, dot A f = Tre.I opN cs t f) : Vec Ms cs t (trimV A) where
  ne := sum_ne ((trim_sum A).trans hs) (prodL_pos h0 _)
  sum := (trim_sum A).trans hs
  len := Nat.le_trans (trim_le A) hl
  tr := trim_idem A
  dt := fun f => by rw [← hd]; exact trim_dot A 0
def RowsOk (Ms : Nat → Nat) (cs : Nat → List Nat) (n : Nat) (rows : List D) : Prop := ∀ i, i < n → rows[i]? = some (.tup (mks (Ms i) (cs i))) ∧ (cs i).sum = Ms i ∧ (cs i).length ≤ 10
theorem ev_number {t : Tre} {rows : List D} {S : List O} (h0 : ∀ i, Ms i ≠ 0) (h60 : ∀ i, Ms i ≤ 60) (hr : RowsOk Ms cs n rows) (hok : t.ok n) (h5 : t.leaves.length ≤ 5) (hsz : t.size < 900) :
    ∃ A, F_number_chances [t.val, .tup rows] S = .ok (.tup (mks (prodL Ms t.leaves) A)) S ∧ Vec Ms cs t A := by
  have fr := fold_rows (tg := .tp [.nm 3, .nm 4, .nm 5]) (dead := [3, 4, 5, 6, 7]) (body := ncR) (st := ncS t.val (.tup rows) S) (P := VecP Ms cs) (Q := fun t => t.ok n ∧ t.leaves.length ≤ 5) (B := 900)
    (fun k ts q u hu => ⟨Tre.oks_mem (by have := q.1; rw [Tre.ok] at this; exact this.2.2) u hu, Nat.le_trans (Tre.leaves_le hu) (by have := q.2; rw [Tre.leaves] at this; exact this)⟩)
    (fun L i b q hL => by
      obtain ⟨q1, q2⟩ := q
      rw [Tre.ok] at q1
      obtain ⟨r1, r2, r3⟩ := hr i q1
      have hp : prodL Ms [i] = Ms i := by simp [prodL]
      have hlv : (Tre.leaf i).leaves = [i] := by rw [Tre.leaves]
      refine ⟨.tup (mks (prodL Ms [i]) (trimV (cs i))), ⟨[some t.val, some (.tup rows), some (.ref S.length), some .non, some (.tup []), some (mkT [(i : Int)]), none, none], [some t.val, some (.tup rows), some (.ref S.length), some .non, some (.tup []), some (mkT [(i : Int)]), some (.tup (mks (prodL Ms [i]) (cs i))), none], S ++ [.lst (L ++ [.tup (mks (prodL Ms [i]) (trimV (cs i)))])], tset_tp.trans ?_, ?_, ?_⟩, ⟨trimV (cs i), by rw [hlv], ?_⟩⟩
      · simp -implicitDefEqProofs only [Dn.rbind_ok, Dn.rbind_bad, Dn.rbind_exc, Dn.obind_ok, Dn.obind_bad, Dn.nox_ok, Dn.dVar_zero, Dn.dVar_succ, Dn.dC_eq, Dn.dUn_eq, Dn.dBin_eq, Dn.dBl_eq, Dn.xOf_eq, Dn.xAnd_eq, Dn.xOr_eq, Dn.xNot_eq, Dn.xYes_eq, Dn.dAnd_eq, Dn.dOr_eq, Dn.dNot_eq, Dn.dIf_eq, Dn.aNil_eq, Dn.aCons_eq, Dn.dApp_eq, Dn.dTup_eq, Dn.dLst_eq, Dn.nLst_eq, Dn.dCall_eq, Dn.dChain_eq, Dn.sSet_eq, Dn.sRet_eq, Dn.sRetN_eq, Dn.sDrop_eq, Dn.sIf_eq, Dn.sNext_eq, Dn.sBrk_eq, Dn.sCnt_eq, Dn.sPar_eq, Dn.sPar3_eq, Dn.sAsg_eq, Dn.tset_nm, Dn.tset_tp, Dn.tsets_nil, Dn.tsets_cons, Dn.grd_none, Dn.wipeE_nil, Dn.wipeE_cons, Dn.gEq_int, Dn.gIsN_non, Dn.gIsN_int, Dn.gIsN_str, Dn.gIsN_tup, Dn.gIsN_bl, Dn.gIsN_ib, Dn.gIsN_nb, Dn.gIsN_sb, Dn.gIsN_tb, Dn.gAdd_int, Dn.gAugAdd_int, Dn.gSubI_int, Dn.gLt_int, Dn.gLe_int, Dn.gGt_int, Dn.gGe_int, Dn.gNeg_int, Dn.gAbs_int, Dn.gInt_int, Dn.gMax2_int, Dn.gMin2_int, Dn.asQ_tup, Dn.asQ_lst, Dn.asL_lst, Dn.gIdx_tup0, Dn.gIdx_tup1, Dn.gIdx_tup2, Dn.gLen_tup, Dn.gLen_lst, Dn.gLen_rol, Dn.gTuple_tup, Dn.gTuple_lst, Dn.gList_tup, Dn.gList_lst, Dn.sSetI_eq, Dn.dMtL_eq, Dn.iSeq_lst, Dn.iSeq_tup, Dn.sSeq_eq, Dn.startE, List.set_cons_zero, List.set_cons_succ, List.map_cons, List.map_nil, List.length_cons, List.length_nil, List.cons_append, List.nil_append, List.append_nil, List.replicate_succ, List.replicate_zero, if_true, if_false, ite_true, ite_false, Bool.false_eq_true, decide_true, decide_false, Nat.reduceSub, Nat.reduceAdd, Nat.reduceLeDiff, Bool.not_true, Bool.not_false, reduceIte, reduceCtorEq, Nat.zero_add, Nat.add_zero, ncS]
      · have g1 : ∀ S, gIdx (mkT [(i : Int)]) (.int 0) S = .ok (.int (i : Nat)) S := fun S => gIdx_tup0
        have g2 : gIdx (.tup rows) (.int (i : Nat)) (S ++ [.lst L]) = .ok (.tup (mks (prodL Ms [i]) (cs i))) (S ++ [.lst L]) := by rw [hp]; exact gIdx_of rfl r1
        have g3 : dSl (dVar 4) (oSome (dC (.int 1))) (oNone) [some t.val, some (.tup rows), some (.ref S.length), some .non, some (.tup []), some (mkT [(i : Int)]), some (.tup (mks (prodL Ms [i]) (cs i))), none] (S ++ [.lst L]) = .ok (.tup []) (S ++ [.lst L]) := tl_drop (xs := []) (k := 1) rfl rfl
        have i1 := iSeq_tup g3
        have f0 : forD (.nm 7) [7] ncB none [] [some t.val, some (.tup rows), some (.ref S.length), some .non, some (.tup []), some (mkT [(i : Int)]), some (.tup (mks (prodL Ms [i]) (cs i))), none] (S ++ [.lst L]) = _ := forD_nil
        have g4 := nc_end (t := t.val) (rows := .tup rows) (S := S) (L := L) (e3 := some .non) (e4 := some (.tup [])) (e5 := some (mkT [(i : Int)])) (ls := [i]) (A := cs i) h0 (by rw [hp]; exact r2) (by omega)
        have n1 : (ncS t.val (.tup rows) S L).2 = S ++ [.lst L] := rfl
        rw [n1]
        unfold ncR
        rw [sSeq_eq]
        have s1 : sSet 6 (dIf (xOf (dBin (gIsN false) (dVar 3) (dC .non))) (dBin gIdx (dVar 1) (dBin gIdx (dVar 5) (dC (.int 0)))) (dBin gIdx (dVar 2) (dBin gIdx (dVar 4) (dC (.int 0))))) [some t.val, some (.tup rows), some (.ref S.length), some .non, some (.tup []), some (mkT [(i : Int)]), none, none] (S ++ [.lst L]) = .nx [some t.val, some (.tup rows), some (.ref S.length), some .non, some (.tup []), some (mkT [(i : Int)]), some (.tup (mks (prodL Ms [i]) (cs i))), none] (S ++ [.lst L]) := by
          simp -implicitDefEqProofs only [Dn.rbind_ok, Dn.rbind_bad, Dn.rbind_exc, Dn.obind_ok, Dn.obind_bad, Dn.nox_ok, Dn.dVar_zero, Dn.dVar_succ, Dn.dC_eq, Dn.dUn_eq, Dn.dBin_eq, Dn.dBl_eq, Dn.xOf_eq, Dn.xAnd_eq, Dn.xOr_eq, Dn.xNot_eq, Dn.xYes_eq, Dn.dAnd_eq, Dn.dOr_eq, Dn.dNot_eq, Dn.dIf_eq, Dn.aNil_eq, Dn.aCons_eq, Dn.dApp_eq, Dn.dTup_eq, Dn.dLst_eq, Dn.nLst_eq, Dn.dCall_eq, Dn.dChain_eq, Dn.sSet_eq, Dn.sRet_eq, Dn.sRetN_eq, Dn.sDrop_eq, Dn.sIf_eq, Dn.sNext_eq, Dn.sBrk_eq, Dn.sCnt_eq, Dn.sPar_eq, Dn.sPar3_eq, Dn.sAsg_eq, Dn.tset_nm, Dn.tset_tp, Dn.tsets_nil, Dn.tsets_cons, Dn.grd_none, Dn.wipeE_nil, Dn.wipeE_cons, Dn.gEq_int, Dn.gIsN_non, Dn.gIsN_int, Dn.gIsN_str, Dn.gIsN_tup, Dn.gIsN_bl, Dn.gIsN_ib, Dn.gIsN_nb, Dn.gIsN_sb, Dn.gIsN_tb, Dn.gAdd_int, Dn.gAugAdd_int, Dn.gSubI_int, Dn.gLt_int, Dn.gLe_int, Dn.gGt_int, Dn.gGe_int, Dn.gNeg_int, Dn.gAbs_int, Dn.gInt_int, Dn.gMax2_int, Dn.gMin2_int, Dn.asQ_tup, Dn.asQ_lst, Dn.asL_lst, Dn.gIdx_tup0, Dn.gIdx_tup1, Dn.gIdx_tup2, Dn.gLen_tup, Dn.gLen_lst, Dn.gLen_rol, Dn.gTuple_tup, Dn.gTuple_lst, Dn.gList_tup, Dn.gList_lst, Dn.sSetI_eq, Dn.dMtL_eq, Dn.iSeq_lst, Dn.iSeq_tup, Dn.sSeq_eq, Dn.startE, List.set_cons_zero, List.set_cons_succ, List.map_cons, List.map_nil, List.length_cons, List.length_nil, List.cons_append, List.nil_append, List.append_nil, List.replicate_succ, List.replicate_zero, if_true, if_false, ite_true, ite_false, Bool.false_eq_true, decide_true, decide_false, Nat.reduceSub, Nat.reduceAdd, Nat.reduceLeDiff, Bool.not_true, Bool.not_false, reduceIte, reduceCtorEq, Nat.zero_add, Nat.add_zero, g1, g2]
        rw [s1]
        simp only
        rw [sSeq_eq, sFor_eq, i1, obind_ok, f0]
        exact g4
      · rfl
      · exact vec_trim h0 (by rw [hlv, hp]; exact r2) (by rw [hlv]; exact r3) (fun f => by rw [Tre.I]))
    (fun L k ts b vs q hL hg hp => by
      obtain ⟨q1, q2⟩ := q
      rw [Tre.ok] at q1
      obtain ⟨hk, hne, hoks⟩ := q1
      rw [Tre.leaves] at q2
      cases ts with
      | nil => exact absurd rfl hne
      | cons u us =>
        rw [Tre.roots] at hg
        cases hg with
        | @cons _ v _ ws hm hg =>
          cases hp with
          | cons hu hp =>
            obtain ⟨A, rfl, hA⟩ := hu
            rw [Tre.leavess, List.length_append] at q2
            have hAl := hA.len
            obtain ⟨A', e1, s1, l1, d1⟩ := nc_loop (Ms := Ms) (cs := cs) (e0 := some t.val) (e1 := some (.tup rows)) (e4 := some (.tup ((Tre.roots b (u :: us)).map fun (n : Nat) => D.int (n : Nat)))) (e5 := some (mkT (Tre.things (.node k (u :: us))))) (S := S) (L := L) hk h0 h60 _ us ws hg hp u.leaves A hA.sum (by omega) (by omega)
            have hlv : (Tre.node k (u :: us)).leaves = u.leaves ++ Tre.leavess us := by rw [Tre.leaves, Tre.leavess]
            refine ⟨.tup (mks (prodL Ms (u.leaves ++ Tre.leavess us)) (trimV A')), ⟨[some t.val, some (.tup rows), some (.ref S.length), some (.str k), some (.tup ((Tre.roots b (u :: us)).map fun (n : Nat) => D.int (n : Nat))), some (mkT (Tre.things (.node k (u :: us)))), none, none], [some t.val, some (.tup rows), some (.ref S.length), some (.str k), some (.tup ((Tre.roots b (u :: us)).map fun (n : Nat) => D.int (n : Nat))), some (mkT (Tre.things (.node k (u :: us)))), some (.tup (mks (prodL Ms (u.leaves ++ Tre.leavess us)) A')), none], S ++ [.lst (L ++ [.tup (mks (prodL Ms (u.leaves ++ Tre.leavess us)) (trimV A'))])], tset_tp.trans ?_, ?_, ?_⟩, ⟨trimV A', by rw [hlv], ?_⟩⟩
            · simp -implicitDefEqProofs only [Dn.rbind_ok, Dn.rbind_bad, Dn.rbind_exc, Dn.obind_ok, Dn.obind_bad, Dn.nox_ok, Dn.dVar_zero, Dn.dVar_succ, Dn.dC_eq, Dn.dUn_eq, Dn.dBin_eq, Dn.dBl_eq, Dn.xOf_eq, Dn.xAnd_eq, Dn.xOr_eq, Dn.xNot_eq, Dn.xYes_eq, Dn.dAnd_eq, Dn.dOr_eq, Dn.dNot_eq, Dn.dIf_eq, Dn.aNil_eq, Dn.aCons_eq, Dn.dApp_eq, Dn.dTup_eq, Dn.dLst_eq, Dn.nLst_eq, Dn.dCall_eq, Dn.dChain_eq, Dn.sSet_eq, Dn.sRet_eq, Dn.sRetN_eq, Dn.sDrop_eq, Dn.sIf_eq, Dn.sNext_eq, Dn.sBrk_eq, Dn.sCnt_eq, Dn.sPar_eq, Dn.sPar3_eq, Dn.sAsg_eq, Dn.tset_nm, Dn.tset_tp, Dn.tsets_nil, Dn.tsets_cons, Dn.grd_none, Dn.wipeE_nil, Dn.wipeE_cons, Dn.gEq_int, Dn.gIsN_non, Dn.gIsN_int, Dn.gIsN_str, Dn.gIsN_tup, Dn.gIsN_bl, Dn.gIsN_ib, Dn.gIsN_nb, Dn.gIsN_sb, Dn.gIsN_tb, Dn.gAdd_int, Dn.gAugAdd_int, Dn.gSubI_int, Dn.gLt_int, Dn.gLe_int, Dn.gGt_int, Dn.gGe_int, Dn.gNeg_int, Dn.gAbs_int, Dn.gInt_int, Dn.gMax2_int, Dn.gMin2_int, Dn.asQ_tup, Dn.asQ_lst, Dn.asL_lst, Dn.gIdx_tup0, Dn.gIdx_tup1, Dn.gIdx_tup2, Dn.gLen_tup, Dn.gLen_lst, Dn.gLen_rol, Dn.gTuple_tup, Dn.gTuple_lst, Dn.gList_tup, Dn.gList_lst, Dn.sSetI_eq, Dn.dMtL_eq, Dn.iSeq_lst, Dn.iSeq_tup, Dn.sSeq_eq, Dn.startE, List.set_cons_zero, List.set_cons_succ, List.map_cons, List.map_nil, List.length_cons, List.length_nil, List.cons_append, List.nil_append, List.append_nil, List.replicate_succ, List.replicate_zero, if_true, if_false, ite_true, ite_false, Bool.false_eq_true, decide_true, decide_false, Nat.reduceSub, Nat.reduceAdd, Nat.reduceLeDiff, Bool.not_true, Bool.not_false, reduceIte, reduceCtorEq, Nat.zero_add, Nat.add_zero, ncS]
            · have g1 : ∀ S, gIdx (.tup ((Tre.roots b (u :: us)).map fun (n : Nat) => D.int (n : Nat))) (.int 0) S = .ok (.int ((b + u.size - 1 : Nat) : Int)) S := fun S => gIdx_tup0
              have g2 : gIdx (.ref S.length) (.int ((b + u.size - 1 : Nat) : Int)) (S ++ [.lst L]) = .ok (.tup (mks (prodL Ms u.leaves) A)) (S ++ [.lst L]) := gIdx_of (asQ_ref get_last) hm
              have g3 : dSl (dVar 4) (oSome (dC (.int 1))) (oNone) [some t.val, some (.tup rows), some (.ref S.length), some (.str k), some (.tup ((Tre.roots b (u :: us)).map fun (n : Nat) => D.int (n : Nat))), some (mkT (Tre.things (.node k (u :: us)))), some (.tup (mks (prodL Ms u.leaves) A)), none] (S ++ [.lst L]) = .ok (.tup ((Tre.roots (b + u.size) us).map fun (n : Nat) => D.int (n : Nat))) (S ++ [.lst L]) := tl_drop (xs := (Tre.roots b (u :: us)).map fun (n : Nat) => D.int (n : Nat)) (k := 1) rfl rfl
              have i1 := iSeq_tup g3
              have g4 := nc_end (t := t.val) (rows := .tup rows) (S := S) (L := L) (e3 := some (.str k)) (e4 := some (.tup ((Tre.roots b (u :: us)).map fun (n : Nat) => D.int (n : Nat)))) (e5 := some (mkT (Tre.things (.node k (u :: us))))) (ls := u.leaves ++ Tre.leavess us) (A := A') h0 s1 (by omega)
              have n1 : (ncS t.val (.tup rows) S L).2 = S ++ [.lst L] := rfl
              rw [n1]
              unfold ncR
              rw [sSeq_eq]
              have s1 : sSet 6 (dIf (xOf (dBin (gIsN false) (dVar 3) (dC .non))) (dBin gIdx (dVar 1) (dBin gIdx (dVar 5) (dC (.int 0)))) (dBin gIdx (dVar 2) (dBin gIdx (dVar 4) (dC (.int 0))))) [some t.val, some (.tup rows), some (.ref S.length), some (.str k), some (.tup ((Tre.roots b (u :: us)).map fun (n : Nat) => D.int (n : Nat))), some (mkT (Tre.things (.node k (u :: us)))), none, none] (S ++ [.lst L]) = .nx [some t.val, some (.tup rows), some (.ref S.length), some (.str k), some (.tup ((Tre.roots b (u :: us)).map fun (n : Nat) => D.int (n : Nat))), some (mkT (Tre.things (.node k (u :: us)))), some (.tup (mks (prodL Ms u.leaves) A)), none] (S ++ [.lst L]) := by
                simp -implicitDefEqProofs only [Dn.rbind_ok, Dn.rbind_bad, Dn.rbind_exc, Dn.obind_ok, Dn.obind_bad, Dn.nox_ok, Dn.dVar_zero, Dn.dVar_succ, Dn.dC_eq, Dn.dUn_eq, Dn.dBin_eq, Dn.dBl_eq, Dn.xOf_eq, Dn.xAnd_eq, Dn.xOr_eq, Dn.xNot_eq, Dn.xYes_eq, Dn.dAnd_eq, Dn.dOr_eq, Dn.dNot_eq, Dn.dIf_eq, Dn.aNil_eq, Dn.aCons_eq, Dn.dApp_eq, Dn.dTup_eq, Dn.dLst_eq, Dn.nLst_eq, Dn.dCall_eq, Dn.dChain_eq, Dn.sSet_eq, Dn.sRet_eq, Dn.sRetN_eq, Dn.sDrop_eq, Dn.sIf_eq, Dn.sNext_eq, Dn.sBrk_eq, Dn.sCnt_eq, Dn.sPar_eq, Dn.sPar3_eq, Dn.sAsg_eq, Dn.tset_nm, Dn.tset_tp, Dn.tsets_nil, Dn.tsets_cons, Dn.grd_none, Dn.wipeE_nil, Dn.wipeE_cons, Dn.gEq_int, Dn.gIsN_non, Dn.gIsN_int, Dn.gIsN_str, Dn.gIsN_tup, Dn.gIsN_bl, Dn.gIsN_ib, Dn.gIsN_nb, Dn.gIsN_sb, Dn.gIsN_tb, Dn.gAdd_int, Dn.gAugAdd_int, Dn.gSubI_int, Dn.gLt_int, Dn.gLe_int, Dn.gGt_int, Dn.gGe_int, Dn.gNeg_int, Dn.gAbs_int, Dn.gInt_int, Dn.gMax2_int, Dn.gMin2_int, Dn.asQ_tup, Dn.asQ_lst, Dn.asL_lst, Dn.gIdx_tup0, Dn.gIdx_tup1, Dn.gIdx_tup2, Dn.gLen_tup, Dn.gLen_lst, Dn.gLen_rol, Dn.gTuple_tup, Dn.gTuple_lst, Dn.gList_tup, Dn.gList_lst, Dn.sSetI_eq, Dn.dMtL_eq, Dn.iSeq_lst, Dn.iSeq_tup, Dn.sSeq_eq, Dn.startE, List.set_cons_zero, List.set_cons_succ, List.map_cons, List.map_nil, List.length_cons, List.length_nil, List.cons_append, List.nil_append, List.append_nil, List.replicate_succ, List.replicate_zero, if_true, if_false, ite_true, ite_false, Bool.false_eq_true, decide_true, decide_false, Nat.reduceSub, Nat.reduceAdd, Nat.reduceLeDiff, Bool.not_true, Bool.not_false, reduceIte, reduceCtorEq, Nat.zero_add, Nat.add_zero, g1, g2]
              rw [s1]
              simp only
              rw [sSeq_eq, sFor_eq, i1, obind_ok, e1]
              exact g4
            · rfl
            · refine vec_trim h0 (by rw [hlv]; exact s1) (by rw [hlv, List.length_append]; omega) (fun f => ?_)
              rw [d1, Tre.I, Tre.Is, hA.dt])
    t [] [] ⟨hok, h5⟩ (by simp; omega)
  obtain ⟨vs, v, e, hvl, hlast, A, rfl, hA⟩ := fr
  rw [List.append_nil, List.nil_append] at e
  refine ⟨A, ?_, hA⟩
  have e0 : F_term_rows [t.val] (S ++ [.lst []]) = .ok (.tup (Tre.rows 0 t)) (S ++ [.lst []]) := ev_term_rows (by omega) (by omega)
  have i1 : iSeq (dCall F_term_rows [] (aCons (dVar 0) (aNil))) [some t.val, some (.tup rows), some (.ref S.length), none, none, none, none, none] (S ++ [.lst []]) = .ok ⟨Tre.rows 0 t, none⟩ (S ++ [.lst []]) := by
    refine iSeq_tup ?_
    simp -implicitDefEqProofs only [Dn.rbind_ok, Dn.rbind_bad, Dn.rbind_exc, Dn.obind_ok, Dn.obind_bad, Dn.nox_ok, Dn.dVar_zero, Dn.dVar_succ, Dn.dC_eq, Dn.dUn_eq, Dn.dBin_eq, Dn.dBl_eq, Dn.xOf_eq, Dn.xAnd_eq, Dn.xOr_eq, Dn.xNot_eq, Dn.xYes_eq, Dn.dAnd_eq, Dn.dOr_eq, Dn.dNot_eq, Dn.dIf_eq, Dn.aNil_eq, Dn.aCons_eq, Dn.dApp_eq, Dn.dTup_eq, Dn.dLst_eq, Dn.nLst_eq, Dn.dCall_eq, Dn.dChain_eq, Dn.sSet_eq, Dn.sRet_eq, Dn.sRetN_eq, Dn.sDrop_eq, Dn.sIf_eq, Dn.sNext_eq, Dn.sBrk_eq, Dn.sCnt_eq, Dn.sPar_eq, Dn.sPar3_eq, Dn.sAsg_eq, Dn.tset_nm, Dn.tset_tp, Dn.tsets_nil, Dn.tsets_cons, Dn.grd_none, Dn.wipeE_nil, Dn.wipeE_cons, Dn.gEq_int, Dn.gIsN_non, Dn.gIsN_int, Dn.gIsN_str, Dn.gIsN_tup, Dn.gIsN_bl, Dn.gIsN_ib, Dn.gIsN_nb, Dn.gIsN_sb, Dn.gIsN_tb, Dn.gAdd_int, Dn.gAugAdd_int, Dn.gSubI_int, Dn.gLt_int, Dn.gLe_int, Dn.gGt_int, Dn.gGe_int, Dn.gNeg_int, Dn.gAbs_int, Dn.gInt_int, Dn.gMax2_int, Dn.gMin2_int, Dn.asQ_tup, Dn.asQ_lst, Dn.asL_lst, Dn.gIdx_tup0, Dn.gIdx_tup1, Dn.gIdx_tup2, Dn.gLen_tup, Dn.gLen_lst, Dn.gLen_rol, Dn.gTuple_tup, Dn.gTuple_lst, Dn.gList_tup, Dn.gList_lst, Dn.sSetI_eq, Dn.dMtL_eq, Dn.iSeq_lst, Dn.iSeq_tup, Dn.sSeq_eq, Dn.startE, List.set_cons_zero, List.set_cons_succ, List.map_cons, List.map_nil, List.length_cons, List.length_nil, List.cons_append, List.nil_append, List.append_nil, List.replicate_succ, List.replicate_zero, if_true, if_false, ite_true, ite_false, Bool.false_eq_true, decide_true, decide_false, Nat.reduceSub, Nat.reduceAdd, Nat.reduceLeDiff, Bool.not_true, Bool.not_false, reduceIte, reduceCtorEq, Nat.zero_add, Nat.add_zero, e0]
  have e2 : forD (.tp [.nm 3, .nm 4, .nm 5]) [3, 4, 5, 6, 7] ncR none (Tre.rows 0 t) [some t.val, some (.tup rows), some (.ref S.length), none, none, none, none, none] (S ++ [.lst []]) = .nx [some t.val, some (.tup rows), some (.ref S.length), none, none, none, none, none] (S ++ [.lst vs]) := e.trans forD_nil
  have z0 : (0 : Nat) ≤ sizeLine := Nat.zero_le _
  have g1 : gIdx (.ref S.length) (.int (-1)) (S ++ [.lst vs]) = .ok (.tup (mks (prodL Ms t.leaves) A)) (S ++ [.lst vs]) := gIdx_last (asQ_ref get_last) hlast
  refine def_end (S2 := S ++ [.lst vs]) (d := .tup (mks (prodL Ms t.leaves) A)) rfl ?_ (frzD_low _ (low_pure _ _ (by simpa [pureD] using pure_mks _ _))) (fun i o hi ho => .inl (by rwa [List.getElem?_append_left hi] at ho)) (by simp)
  rw [number_body]
  simp -implicitDefEqProofs only [Dn.rbind_ok, Dn.rbind_bad, Dn.rbind_exc, Dn.obind_ok, Dn.obind_bad, Dn.nox_ok, Dn.dVar_zero, Dn.dVar_succ, Dn.dC_eq, Dn.dUn_eq, Dn.dBin_eq, Dn.dBl_eq, Dn.xOf_eq, Dn.xAnd_eq, Dn.xOr_eq, Dn.xNot_eq, Dn.xYes_eq, Dn.dAnd_eq, Dn.dOr_eq, Dn.dNot_eq, Dn.dIf_eq, Dn.aNil_eq, Dn.aCons_eq, Dn.dApp_eq, Dn.dTup_eq, Dn.dLst_eq, Dn.nLst_eq, Dn.dCall_eq, Dn.dChain_eq, Dn.sSet_eq, Dn.sRet_eq, Dn.sRetN_eq, Dn.sDrop_eq, Dn.sIf_eq, Dn.sNext_eq, Dn.sBrk_eq, Dn.sCnt_eq, Dn.sPar_eq, Dn.sPar3_eq, Dn.sAsg_eq, Dn.tset_nm, Dn.tset_tp, Dn.tsets_nil, Dn.tsets_cons, Dn.grd_none, Dn.wipeE_nil, Dn.wipeE_cons, Dn.gEq_int, Dn.gIsN_non, Dn.gIsN_int, Dn.gIsN_str, Dn.gIsN_tup, Dn.gIsN_bl, Dn.gIsN_ib, Dn.gIsN_nb, Dn.gIsN_sb, Dn.gIsN_tb, Dn.gAdd_int, Dn.gAugAdd_int, Dn.gSubI_int, Dn.gLt_int, Dn.gLe_int, Dn.gGt_int, Dn.gGe_int, Dn.gNeg_int, Dn.gAbs_int, Dn.gInt_int, Dn.gMax2_int, Dn.gMin2_int, Dn.asQ_tup, Dn.asQ_lst, Dn.asL_lst, Dn.gIdx_tup0, Dn.gIdx_tup1, Dn.gIdx_tup2, Dn.gLen_tup, Dn.gLen_lst, Dn.gLen_rol, Dn.gTuple_tup, Dn.gTuple_lst, Dn.gList_tup, Dn.gList_lst, Dn.sSetI_eq, Dn.dMtL_eq, Dn.iSeq_lst, Dn.iSeq_tup, Dn.sSeq_eq, Dn.startE, List.set_cons_zero, List.set_cons_succ, List.map_cons, List.map_nil, List.length_cons, List.length_nil, List.cons_append, List.nil_append, List.append_nil, List.replicate_succ, List.replicate_zero, if_true, if_false, ite_true, ite_false, Bool.false_eq_true, decide_true, decide_false, Nat.reduceSub, Nat.reduceAdd, Nat.reduceLeDiff, Bool.not_true, Bool.not_false, reduceIte, reduceCtorEq, Nat.zero_add, Nat.add_zero, z0, sFor_eq, i1, e2, g1]
end
end Cm

set_option maxHeartbeats 1000000
namespace Cm
open PySem PySem.Spec PyProof.Rows L2 Dn Mt
/-! ### what _law_once makes, as a tree -/
structure TreOf (n : Nat) (t : D) (ls : List Int) (T : Tre) : Prop where
  val : T.val = t
  ok : T.ok n
  lv : (T.leaves.map fun (i : Nat) => (i : Int)).Perm ls
  sz : T.size + 1 ≤ 2 * T.leaves.length
theorem Tre.oks_of {n : Nat} : ∀ {ts : List Tre}, (∀ t ∈ ts, t.ok n) → Tre.oks n ts
  | [], _ => by rw [Tre.oks]; trivial
  | t :: ts, h => by
    rw [Tre.oks]
    exact ⟨h t List.mem_cons_self, Tre.oks_of fun u hu => h u (List.mem_cons_of_mem _ hu)⟩
theorem trees_of {n : Nat} : ∀ (ps : List (Pt × List Int)), (∀ p ∈ ps, ∃ T, TreOf n p.1.1 p.2 T) → ∃ Ts : List Tre, Ts.map Tre.val = ps.map (fun p => p.1.1) ∧ (∀ T ∈ Ts, T.ok n) ∧ ((Tre.leavess Ts).map fun (i : Nat) => (i : Int)).Perm (ps.flatMap (·.2)) ∧ Tre.sizes Ts + Ts.length ≤ 2 * (Tre.leavess Ts).length
  | [], _ => ⟨[], rfl, by simp, by rw [Tre.leavess]; exact .nil, by rw [Tre.sizes]; simp⟩
  | p :: ps, h => by
    obtain ⟨T, hT⟩ := h p List.mem_cons_self
    obtain ⟨Ts, h1, h2, h3, h4⟩ := trees_of ps fun q hq => h q (List.mem_cons_of_mem _ hq)
    refine ⟨T :: Ts, by rw [List.map_cons, List.map_cons, h1, hT.val], fun U hU => ?_, ?_, ?_⟩
    · rcases List.mem_cons.mp hU with rfl | hU
      · exact hT.ok
      · exact h2 U hU
    · rw [Tre.leavess, List.map_append, List.flatMap_cons]
      exact hT.lv.append h3
    · have := hT.sz
      rw [Tre.sizes, Tre.leavess, List.length_append, List.length_cons]
      omega
theorem leavess_perm {Ts Us : List Tre} (p : Ts.Perm Us) : (Tre.leavess Ts).Perm (Tre.leavess Us) := by
  rw [Tre.leavess_eq, Tre.leavess_eq]
  exact p.flatMap_right _
theorem sizes_eq : ∀ Ts : List Tre, Tre.sizes Ts = (Ts.map Tre.size).sum
  | [] => by rw [Tre.sizes]; rfl
  | T :: Ts => by rw [Tre.sizes, sizes_eq Ts]; rfl
theorem sizes_perm {Ts Us : List Tre} (p : Ts.Perm Us) : Tre.sizes Ts = Tre.sizes Us := by
  rw [sizes_eq, sizes_eq]
  exact (p.map _).sum_nat
theorem Good.tree {most n : Nat} {t : D} {W : List (List Int)} {ls : List Int} (h : Good most t W ls) : (∀ i ∈ ls, 0 ≤ i ∧ i < (n : Int)) → ∃ T, TreOf n t ls T := by
  have mk : ∀ (k : Str) (ps : List (Pt × List Int)) (ts : List D), (k = "row" ∨ k = "side") → (∀ p ∈ ps, ∃ T, TreOf n p.1.1 p.2 T) → ts.Perm (ps.map fun p => p.1.1) → 2 ≤ ps.length → ∃ T, TreOf n (.tup [.str k, .tup ts]) (ps.flatMap (·.2)) T := by
    intro k ps ts hk hT hp h2
    obtain ⟨Ts, h1, h3, h4, h5⟩ := trees_of ps hT
    obtain ⟨Us, pu, rfl⟩ := perm_lift Tre.val hp Ts h1.symm
    have hlen : Us.length = ps.length := by
      rw [pu.length_eq]
      have := congrArg List.length h1
      simpa using this
    refine ⟨.node k Us, ?_, ?_, ?_, ?_⟩
    · rw [Tre.val, Tre.vals_eq]
    · rw [Tre.ok]
      refine ⟨hk, fun z => ?_, Tre.oks_of fun U hU => h3 U (pu.mem_iff.mp hU)⟩
      rw [z] at hlen
      simp at hlen
      omega
    · rw [Tre.leaves]
      exact ((leavess_perm pu).map _).trans h4
    · rw [Tre.size, Tre.leaves, sizes_perm pu, (leavess_perm pu).length_eq]
      have := pu.length_eq
      omega
  induction h with
  | leaf i =>
    intro hb
    obtain ⟨b1, b2⟩ := hb i (by simp)
    refine ⟨.leaf i.toNat, ?_, ?_, ?_, ?_⟩
    · rw [Tre.val]
      congr 1
      omega
    · rw [Tre.ok]; omega
    · rw [Tre.leaves]
      have : [i.toNat].map (fun (i : Nat) => (i : Int)) = [i] := by
        simp
        omega
      rw [this]
    · rw [Tre.size, Tre.leaves]; simp
  | @row ps ts h hp h2 hm ih =>
    intro hb
    exact mk _ ps ts (.inl rfl) (fun p hpm => ih p hpm fun i hi => hb i (List.mem_flatMap.mpr ⟨p, hpm, hi⟩)) hp h2
  | @side ps ts h hp h2 ih =>
    intro hb
    exact mk _ ps ts (.inr rfl) (fun p hpm => ih p hpm fun i hi => hb i (List.mem_flatMap.mpr ⟨p, hpm, hi⟩)) hp h2
/-! ### rows of chances drawn -/
theorem iZip_lst {f1 f2 : Den} {ρ : Dn.Env} {xs ys : List D} {S S1 S2 : Store} (h1 : f1 ρ S = .ok (.lst xs) S1) (h2 : f2 ρ S1 = .ok (.lst ys) S2) : Dn.iZip f1 f2 ρ S = .ok ⟨zipL xs ys, none⟩ S2 := by
  unfold Dn.iZip
  rw [h1, rbind_ok, h2]
  rfl
def dif (lo : Int) : List Int → Int → List Nat
  | [], hi => [(hi - lo).toNat]
  | z :: zs, hi => (z - lo).toNat :: dif z zs hi
theorem dif_len : ∀ (zs : List Int) (lo hi : Int), (dif lo zs hi).length = zs.length + 1
  | [], lo, hi => rfl
  | z :: zs, lo, hi => by rw [dif, List.length_cons, dif_len zs, List.length_cons]
theorem dif_sum : ∀ (zs : List Int) (lo hi : Int), lo ≤ hi → zs.Pairwise (· ≤ ·) → (∀ z ∈ zs, lo ≤ z ∧ z ≤ hi) → (((dif lo zs hi).sum : Nat) : Int) = hi - lo
  | [], lo, hi, h, _, _ => by rw [dif]; simp; omega
  | z :: zs, lo, hi, h, hp, hb => by
    obtain ⟨p1, p2⟩ := List.pairwise_cons.mp hp
    obtain ⟨b1, b2⟩ := hb z List.mem_cons_self
    have ih := dif_sum zs z hi b2 p2 fun y hy => ⟨p1 y hy, (hb y (List.mem_cons_of_mem _ hy)).2⟩
    rw [dif, List.sum_cons]
    omega
theorem split_loop {n m : Nat} {e1 e3 : Option D} {S : List O} {M : Nat} (hM : M ≠ 0) (hM2 : M < 1000) : ∀ (zs : List Int) (lo : Int) (acc : List Nat), lo ≤ (M : Int) → zs.Pairwise (· ≤ ·) → (∀ z ∈ zs, lo ≤ z ∧ z ≤ (M : Int)) → acc.length + zs.length < 1000 →
    forD (.tp [.nm 5, .nm 6]) [5, 6] (sDrop (dMtL gAppend (dVar 4) (aCons (dCall F__law_lowest [] (aCons (dBin gSubI (dVar 6) (dVar 5)) (aCons (dVar 2) (aNil)))) (aNil)))) none (zipL (D.int lo :: zs.map D.int) (zs.map D.int ++ [D.int (M : Nat)])) [some (.ref n), e1, some (.int (M : Nat)), e3, some (.ref S.length), none, none, none] (S ++ [.lst (mks M acc)])
      = .nx [some (.ref n), e1, some (.int (M : Nat)), e3, some (.ref S.length), none, none, none] (S ++ [.lst (mks M (acc ++ dif lo zs (M : Nat)))]) := by
  have step : ∀ (lo hi : Int) (acc : List Nat) (rest : List D), lo ≤ hi → acc.length < 1000 → forD (.tp [.nm 5, .nm 6]) [5, 6] (sDrop (dMtL gAppend (dVar 4) (aCons (dCall F__law_lowest [] (aCons (dBin gSubI (dVar 6) (dVar 5)) (aCons (dVar 2) (aNil)))) (aNil)))) none (.tup [.int lo, .int hi] :: rest) [some (.ref n), e1, some (.int (M : Nat)), e3, some (.ref S.length), none, none, none] (S ++ [.lst (mks M acc)])
      = forD (.tp [.nm 5, .nm 6]) [5, 6] (sDrop (dMtL gAppend (dVar 4) (aCons (dCall F__law_lowest [] (aCons (dBin gSubI (dVar 6) (dVar 5)) (aCons (dVar 2) (aNil)))) (aNil)))) none rest [some (.ref n), e1, some (.int (M : Nat)), e3, some (.ref S.length), none, none, none] (S ++ [.lst (mks M (acc ++ [(hi - lo).toNat]))]) := by
    intro lo hi acc rest h hl
    rw [forD_cons]
    have t1 : tset (.tp [.nm 5, .nm 6]) (.tup [.int lo, .int hi]) [some (.ref n), e1, some (.int (M : Nat)), e3, some (.ref S.length), none, none, none] = some [some (.ref n), e1, some (.int (M : Nat)), e3, some (.ref S.length), some (.int lo), some (.int hi), none] := by
      simp -implicitDefEqProofs only [Dn.rbind_ok, Dn.rbind_bad, Dn.rbind_exc, Dn.obind_ok, Dn.obind_bad, Dn.nox_ok, Dn.dVar_zero, Dn.dVar_succ, Dn.dC_eq, Dn.dUn_eq, Dn.dBin_eq, Dn.dBl_eq, Dn.xOf_eq, Dn.xAnd_eq, Dn.xOr_eq, Dn.xNot_eq, Dn.xYes_eq, Dn.dAnd_eq, Dn.dOr_eq, Dn.dNot_eq, Dn.dIf_eq, Dn.aNil_eq, Dn.aCons_eq, Dn.dApp_eq, Dn.dTup_eq, Dn.dLst_eq, Dn.nLst_eq, Dn.dCall_eq, Dn.dChain_eq, Dn.sSet_eq, Dn.sRet_eq, Dn.sRetN_eq, Dn.sDrop_eq, Dn.sIf_eq, Dn.sNext_eq, Dn.sBrk_eq, Dn.sCnt_eq, Dn.sPar_eq, Dn.sPar3_eq, Dn.sAsg_eq, Dn.tset_nm, Dn.tset_tp, Dn.tsets_nil, Dn.tsets_cons, Dn.grd_none, Dn.wipeE_nil, Dn.wipeE_cons, Dn.gEq_int, Dn.gIsN_non, Dn.gIsN_int, Dn.gIsN_str, Dn.gIsN_tup, Dn.gIsN_bl, Dn.gIsN_ib, Dn.gIsN_nb, Dn.gIsN_sb, Dn.gIsN_tb, Dn.gAdd_int, Dn.gAugAdd_int, Dn.gSubI_int, Dn.gLt_int, Dn.gLe_int, Dn.gGt_int, Dn.gGe_int, Dn.gNeg_int, Dn.gAbs_int, Dn.gInt_int, Dn.gMax2_int, Dn.gMin2_int, Dn.asQ_tup, Dn.asQ_lst, Dn.asL_lst, Dn.gIdx_tup0, Dn.gIdx_tup1, Dn.gIdx_tup2, Dn.gLen_tup, Dn.gLen_lst, Dn.gLen_rol, Dn.gTuple_tup, Dn.gTuple_lst, Dn.gList_tup, Dn.gList_lst, Dn.sSetI_eq, Dn.dMtL_eq, Dn.iSeq_lst, Dn.iSeq_tup, Dn.sSeq_eq, Dn.startE, List.set_cons_zero, List.set_cons_succ, List.map_cons, List.map_nil, List.length_cons, List.length_nil, List.cons_append, List.nil_append, List.append_nil, List.replicate_succ, List.replicate_zero, if_true, if_false, ite_true, ite_false, Bool.false_eq_true, decide_true, decide_false, Nat.reduceSub, Nat.reduceAdd, Nat.reduceLeDiff, Bool.not_true, Bool.not_false, reduceIte, reduceCtorEq, Nat.zero_add, Nat.add_zero]
    have g0 : asL (S ++ [O.lst (mks M acc)]) (.ref S.length) = some (mks M acc) := asL_ref get_last
    have g1 : ∀ S, F__law_lowest [.int (hi - lo), .int (M : Nat)] S = .ok (fr (mkRat (((hi - lo).toNat : Nat) : Int) M)) S := fun S => by
      rw [ev_lowest hM (by omega)]
      rw [show ((((hi - lo).toNat : Nat) : Int)) = hi - lo by omega]
    have g2 : gAppend (.ref S.length) [fr (mkRat (((hi - lo).toNat : Nat) : Int) M)] (S ++ [.lst (mks M acc)]) = .ok .non (S ++ [.lst (mks M (acc ++ [(hi - lo).toNat]))]) := by
      rw [gAppend_of get_last (small_lt (by rw [mks_len]; omega)), set_last]
      unfold mks
      rw [List.map_append]
      rfl
    rw [t1]
    simp -implicitDefEqProofs only [Dn.rbind_ok, Dn.rbind_bad, Dn.rbind_exc, Dn.obind_ok, Dn.obind_bad, Dn.nox_ok, Dn.dVar_zero, Dn.dVar_succ, Dn.dC_eq, Dn.dUn_eq, Dn.dBin_eq, Dn.dBl_eq, Dn.xOf_eq, Dn.xAnd_eq, Dn.xOr_eq, Dn.xNot_eq, Dn.xYes_eq, Dn.dAnd_eq, Dn.dOr_eq, Dn.dNot_eq, Dn.dIf_eq, Dn.aNil_eq, Dn.aCons_eq, Dn.dApp_eq, Dn.dTup_eq, Dn.dLst_eq, Dn.nLst_eq, Dn.dCall_eq, Dn.dChain_eq, Dn.sSet_eq, Dn.sRet_eq, Dn.sRetN_eq, Dn.sDrop_eq, Dn.sIf_eq, Dn.sNext_eq, Dn.sBrk_eq, Dn.sCnt_eq, Dn.sPar_eq, Dn.sPar3_eq, Dn.sAsg_eq, Dn.tset_nm, Dn.tset_tp, Dn.tsets_nil, Dn.tsets_cons, Dn.grd_none, Dn.wipeE_nil, Dn.wipeE_cons, Dn.gEq_int, Dn.gIsN_non, Dn.gIsN_int, Dn.gIsN_str, Dn.gIsN_tup, Dn.gIsN_bl, Dn.gIsN_ib, Dn.gIsN_nb, Dn.gIsN_sb, Dn.gIsN_tb, Dn.gAdd_int, Dn.gAugAdd_int, Dn.gSubI_int, Dn.gLt_int, Dn.gLe_int, Dn.gGt_int, Dn.gGe_int, Dn.gNeg_int, Dn.gAbs_int, Dn.gInt_int, Dn.gMax2_int, Dn.gMin2_int, Dn.asQ_tup, Dn.asQ_lst, Dn.asL_lst, Dn.gIdx_tup0, Dn.gIdx_tup1, Dn.gIdx_tup2, Dn.gLen_tup, Dn.gLen_lst, Dn.gLen_rol, Dn.gTuple_tup, Dn.gTuple_lst, Dn.gList_tup, Dn.gList_lst, Dn.sSetI_eq, Dn.dMtL_eq, Dn.iSeq_lst, Dn.iSeq_tup, Dn.sSeq_eq, Dn.startE, List.set_cons_zero, List.set_cons_succ, List.map_cons, List.map_nil, List.length_cons, List.length_nil, List.cons_append, List.nil_append, List.append_nil, List.replicate_succ, List.replicate_zero, if_true, if_false, ite_true, ite_false, Bool.false_eq_true, decide_true, decide_false, Nat.reduceSub, Nat.reduceAdd, Nat.reduceLeDiff, Bool.not_true, Bool.not_false, reduceIte, reduceCtorEq, Nat.zero_add, Nat.add_zero, g0, g1, g2]
  intro zs
  induction zs with
  | nil =>
    intro lo acc h hp hb hl
    have e : zipL (D.int lo :: ([] : List Int).map D.int) (([] : List Int).map D.int ++ [D.int (M : Nat)]) = [.tup [.int lo, .int (M : Nat)]] := rfl
    rw [e, step lo (M : Nat) acc [] h (by simpa using hl), forD_nil]
    rfl
  | cons z zs ih =>
    intro lo acc h hp hb hl
    obtain ⟨p1, p2⟩ := List.pairwise_cons.mp hp
    obtain ⟨b1, b2⟩ := hb z List.mem_cons_self
    have e : zipL (D.int lo :: (z :: zs).map D.int) ((z :: zs).map D.int ++ [D.int (M : Nat)]) = .tup [.int lo, .int z] :: zipL (D.int z :: zs.map D.int) (zs.map D.int ++ [D.int (M : Nat)]) := rfl
    rw [e, step lo z acc _ b1 (by simp at hl; omega), ih z (acc ++ [(z - lo).toNat]) b2 p2 (fun y hy => ⟨p1 y hy, (hb y (List.mem_cons_of_mem _ hy)).2⟩) (by simp at hl ⊢; omega), dif]
    simp
theorem f2_ints {α : Type} {Q : Int → Prop} {xs : List α} {ys : List D} (h : F2 (fun _ y => ∃ v : Int, y = .int v ∧ Q v) xs ys) : ∃ vs : List Int, ys = vs.map D.int ∧ vs.length = xs.length ∧ ∀ v ∈ vs, Q v := by
  induction h with
  | nil => exact ⟨[], rfl, rfl, by simp⟩
  | cons h t ih =>
    obtain ⟨v, rfl, q⟩ := h
    obtain ⟨vs, rfl, l, q'⟩ := ih
    refine ⟨v :: vs, rfl, by simp [l], fun u hu => ?_⟩
    rcases List.mem_cons.mp hu with rfl | hu
    · exact q
    · exact q' u hu
theorem ev_split {S : List O} {n m : Nat} (hb : ∃ g c, BoxAt S n g c) (hm : 1 ≤ m) (hm2 : m ≤ 100) :
    ∃ M cs S', F__law_split_row [.ref n, .int (m : Nat)] S = .ok (.tup (mks M cs)) S' ∧ Bx n S S' ∧ M ≠ 0 ∧ M ≤ 60 ∧ cs.length = m ∧ cs.sum = M := by
  have hn : n < S.length := by
    obtain ⟨g, c, h⟩ := hb
    exact (List.getElem?_eq_some_iff.mp h.at_).1
  obtain ⟨x, S1, e1, b1, hx⟩ := ev_pick (xs := [.int 2, .int 6, .int 12, .int 60]) hb rfl (by simp) (by simp)
  obtain ⟨M, rfl, hM0, hM60⟩ : ∃ M : Nat, x = .int (M : Nat) ∧ M ≠ 0 ∧ M ≤ 60 := by
    simp only [List.mem_cons, List.not_mem_nil, or_false] at hx
    rcases hx with rfl | rfl | rfl | rfl
    · exact ⟨2, rfl, by omega, by omega⟩
    · exact ⟨6, rfl, by omega, by omega⟩
    · exact ⟨12, rfl, by omega, by omega⟩
    · exact ⟨60, rfl, by omega, by omega⟩
  have i1 : iRange1 (dBin gSubI (dVar 1) (dC (.int 1))) [some (.ref n), some (.int (m : Nat)), some (.int (M : Nat)), none, none, none, none, none] S1 = .ok ⟨rangeL 0 (m - 1), none⟩ S1 := by
    refine iRange1_of (k := m - 1) ?_ (by omega)
    have : (m : Int) - 1 = ((m - 1 : Nat) : Int) := by omega
    simp -implicitDefEqProofs only [Dn.rbind_ok, Dn.rbind_bad, Dn.rbind_exc, Dn.obind_ok, Dn.obind_bad, Dn.nox_ok, Dn.dVar_zero, Dn.dVar_succ, Dn.dC_eq, Dn.dUn_eq, Dn.dBin_eq, Dn.dBl_eq, Dn.xOf_eq, Dn.xAnd_eq, Dn.xOr_eq, Dn.xNot_eq, Dn.xYes_eq, Dn.dAnd_eq, Dn.dOr_eq, Dn.dNot_eq, Dn.dIf_eq, Dn.aNil_eq, Dn.aCons_eq, Dn.dApp_eq, Dn.dTup_eq, Dn.dLst_eq, Dn.nLst_eq, Dn.dCall_eq, Dn.dChain_eq, Dn.sSet_eq, Dn.sRet_eq, Dn.sRetN_eq, Dn.sDrop_eq, Dn.sIf_eq, Dn.sNext_eq, Dn.sBrk_eq, Dn.sCnt_eq, Dn.sPar_eq, Dn.sPar3_eq, Dn.sAsg_eq, Dn.tset_nm, Dn.tset_tp, Dn.tsets_nil, Dn.tsets_cons, Dn.grd_none, Dn.wipeE_nil, Dn.wipeE_cons, Dn.gEq_int, Dn.gIsN_non, Dn.gIsN_int, Dn.gIsN_str, Dn.gIsN_tup, Dn.gIsN_bl, Dn.gIsN_ib, Dn.gIsN_nb, Dn.gIsN_sb, Dn.gIsN_tb, Dn.gAdd_int, Dn.gAugAdd_int, Dn.gSubI_int, Dn.gLt_int, Dn.gLe_int, Dn.gGt_int, Dn.gGe_int, Dn.gNeg_int, Dn.gAbs_int, Dn.gInt_int, Dn.gMax2_int, Dn.gMin2_int, Dn.asQ_tup, Dn.asQ_lst, Dn.asL_lst, Dn.gIdx_tup0, Dn.gIdx_tup1, Dn.gIdx_tup2, Dn.gLen_tup, Dn.gLen_lst, Dn.gLen_rol, Dn.gTuple_tup, Dn.gTuple_lst, Dn.gList_tup, Dn.gList_lst, Dn.sSetI_eq, Dn.dMtL_eq, Dn.iSeq_lst, Dn.iSeq_tup, Dn.sSeq_eq, Dn.startE, List.set_cons_zero, List.set_cons_succ, List.map_cons, List.map_nil, List.length_cons, List.length_nil, List.cons_append, List.nil_append, List.append_nil, List.replicate_succ, List.replicate_zero, if_true, if_false, ite_true, ite_false, Bool.false_eq_true, decide_true, decide_false, Nat.reduceSub, Nat.reduceAdd, Nat.reduceLeDiff, Bool.not_true, Bool.not_false, reduceIte, reduceCtorEq, Nat.zero_add, Nat.add_zero]
    rw [this]
  obtain ⟨ys, S2, e2, b2, f2⟩ := dLc_box (n := n) (it := iRange1 (dBin gSubI (dVar 1) (dC (.int 1)))) (vs := [7]) (t := .nm 7) (fe := dCall F__law_take [] (aCons (dVar 0) (aCons (dBin gAdd (dVar 2) (dC (.int 1))) (aNil)))) (P := fun _ y => ∃ v : Int, y = .int v ∧ 0 ≤ v ∧ v ≤ (M : Int)) i1 b1.box (by
    intro x hx S3 acc hl hb3
    obtain ⟨v, S4, e, b, v0, v1⟩ := ev_take (box_app (L := [O.lst acc]) hb3) (m := (M : Int) + 1) (by omega) (by omega)
    obtain ⟨S5, rfl, b5⟩ := b.cut (by rw [hl]; exact b1.lt)
    refine ⟨_, .int v, S5, tset_nm, ?_, b5, v, rfl, v0, by omega⟩
    simp -implicitDefEqProofs only [Dn.rbind_ok, Dn.rbind_bad, Dn.rbind_exc, Dn.obind_ok, Dn.obind_bad, Dn.nox_ok, Dn.dVar_zero, Dn.dVar_succ, Dn.dC_eq, Dn.dUn_eq, Dn.dBin_eq, Dn.dBl_eq, Dn.xOf_eq, Dn.xAnd_eq, Dn.xOr_eq, Dn.xNot_eq, Dn.xYes_eq, Dn.dAnd_eq, Dn.dOr_eq, Dn.dNot_eq, Dn.dIf_eq, Dn.aNil_eq, Dn.aCons_eq, Dn.dApp_eq, Dn.dTup_eq, Dn.dLst_eq, Dn.nLst_eq, Dn.dCall_eq, Dn.dChain_eq, Dn.sSet_eq, Dn.sRet_eq, Dn.sRetN_eq, Dn.sDrop_eq, Dn.sIf_eq, Dn.sNext_eq, Dn.sBrk_eq, Dn.sCnt_eq, Dn.sPar_eq, Dn.sPar3_eq, Dn.sAsg_eq, Dn.tset_nm, Dn.tset_tp, Dn.tsets_nil, Dn.tsets_cons, Dn.grd_none, Dn.wipeE_nil, Dn.wipeE_cons, Dn.gEq_int, Dn.gIsN_non, Dn.gIsN_int, Dn.gIsN_str, Dn.gIsN_tup, Dn.gIsN_bl, Dn.gIsN_ib, Dn.gIsN_nb, Dn.gIsN_sb, Dn.gIsN_tb, Dn.gAdd_int, Dn.gAugAdd_int, Dn.gSubI_int, Dn.gLt_int, Dn.gLe_int, Dn.gGt_int, Dn.gGe_int, Dn.gNeg_int, Dn.gAbs_int, Dn.gInt_int, Dn.gMax2_int, Dn.gMin2_int, Dn.asQ_tup, Dn.asQ_lst, Dn.asL_lst, Dn.gIdx_tup0, Dn.gIdx_tup1, Dn.gIdx_tup2, Dn.gLen_tup, Dn.gLen_lst, Dn.gLen_rol, Dn.gTuple_tup, Dn.gTuple_lst, Dn.gList_tup, Dn.gList_lst, Dn.sSetI_eq, Dn.dMtL_eq, Dn.iSeq_lst, Dn.iSeq_tup, Dn.sSeq_eq, Dn.startE, List.set_cons_zero, List.set_cons_succ, List.map_cons, List.map_nil, List.length_cons, List.length_nil, List.cons_append, List.nil_append, List.append_nil, List.replicate_succ, List.replicate_zero, if_true, if_false, ite_true, ite_false, Bool.false_eq_true, decide_true, decide_false, Nat.reduceSub, Nat.reduceAdd, Nat.reduceLeDiff, Bool.not_true, Bool.not_false, reduceIte, reduceCtorEq, Nat.zero_add, Nat.add_zero, wipeC, e]) (by rintro x y ⟨v, rfl, _⟩; rfl)
  obtain ⟨vs, rfl, hvl, hvq⟩ := f2_ints f2
  have hvl : vs.length = m - 1 := by rw [hvl]; unfold rangeL; simp
  have g3 : ∀ S, gSortA [.lst (vs.map D.int)] S = .ok (.lst ((sortI vs).map D.int)) S := fun S => gSortA_ints
  have hsl : (sortI vs).length = m - 1 := by unfold sortI; rw [List.length_mergeSort, hvl]
  have hsm : ∀ z ∈ sortI vs, 0 ≤ z ∧ z ≤ (M : Int) := fun z hz => hvq z ((List.mergeSort_perm _ _).mem_iff.mp hz)
  have hsp : (sortI vs).Pairwise (· ≤ ·) := by
    have := List.pairwise_mergeSort (le := fun a b : Int => decide (a ≤ b)) (fun a b c h1 h2 => by simp at *; omega) (fun a b => by simp; omega) vs
    exact this.imp fun h => by simpa using h
  have hn2 : n < S2.length := (b1.trans b2).lt
  have ml := split_loop (n := n) (m := m) (e1 := some (.int (m : Nat))) (e3 := some (.lst ((sortI vs).map D.int))) (S := S2) (M := M) hM0 (by omega) (sortI vs) 0 [] (by omega) hsp hsm (by simp; omega)
  have z1 : (1 : Nat) ≤ sizeLine := small_line (by omega)
  have z4 : (4 : Nat) ≤ sizeLine := small_line (by omega)
  have z0 : (0 : Nat) ≤ sizeLine := Nat.zero_le _
  have a1 : gAdd (.lst [.int 0]) (.lst ((sortI vs).map D.int)) (S2 ++ [.lst []]) = .ok (.lst (.int 0 :: (sortI vs).map D.int)) (S2 ++ [.lst []]) := gAdd_lst (small_line (by simp; omega))
  have a2 : gAdd (.lst ((sortI vs).map D.int)) (.lst [.int (M : Nat)]) (S2 ++ [.lst []]) = .ok (.lst ((sortI vs).map D.int ++ [.int (M : Nat)])) (S2 ++ [.lst []]) := gAdd_lst (small_line (by simp; omega))
  have iz : Dn.iZip (dBin gAdd (dLst (aCons (dC (.int 0)) (aNil))) (dVar 3)) (dBin gAdd (dVar 3) (dLst (aCons (dVar 2) (aNil)))) [some (.ref n), some (.int (m : Nat)), some (.int (M : Nat)), some (.lst ((sortI vs).map D.int)), some (.ref S2.length), none, none, none] (S2 ++ [.lst []])
      = .ok ⟨zipL (.int 0 :: (sortI vs).map D.int) ((sortI vs).map D.int ++ [.int (M : Nat)]), none⟩ (S2 ++ [.lst []]) := by
    refine iZip_lst (S1 := S2 ++ [.lst []]) ?_ ?_
    · simp -implicitDefEqProofs only [Dn.rbind_ok, Dn.rbind_bad, Dn.rbind_exc, Dn.obind_ok, Dn.obind_bad, Dn.nox_ok, Dn.dVar_zero, Dn.dVar_succ, Dn.dC_eq, Dn.dUn_eq, Dn.dBin_eq, Dn.dBl_eq, Dn.xOf_eq, Dn.xAnd_eq, Dn.xOr_eq, Dn.xNot_eq, Dn.xYes_eq, Dn.dAnd_eq, Dn.dOr_eq, Dn.dNot_eq, Dn.dIf_eq, Dn.aNil_eq, Dn.aCons_eq, Dn.dApp_eq, Dn.dTup_eq, Dn.dLst_eq, Dn.nLst_eq, Dn.dCall_eq, Dn.dChain_eq, Dn.sSet_eq, Dn.sRet_eq, Dn.sRetN_eq, Dn.sDrop_eq, Dn.sIf_eq, Dn.sNext_eq, Dn.sBrk_eq, Dn.sCnt_eq, Dn.sPar_eq, Dn.sPar3_eq, Dn.sAsg_eq, Dn.tset_nm, Dn.tset_tp, Dn.tsets_nil, Dn.tsets_cons, Dn.grd_none, Dn.wipeE_nil, Dn.wipeE_cons, Dn.gEq_int, Dn.gIsN_non, Dn.gIsN_int, Dn.gIsN_str, Dn.gIsN_tup, Dn.gIsN_bl, Dn.gIsN_ib, Dn.gIsN_nb, Dn.gIsN_sb, Dn.gIsN_tb, Dn.gAdd_int, Dn.gAugAdd_int, Dn.gSubI_int, Dn.gLt_int, Dn.gLe_int, Dn.gGt_int, Dn.gGe_int, Dn.gNeg_int, Dn.gAbs_int, Dn.gInt_int, Dn.gMax2_int, Dn.gMin2_int, Dn.asQ_tup, Dn.asQ_lst, Dn.asL_lst, Dn.gIdx_tup0, Dn.gIdx_tup1, Dn.gIdx_tup2, Dn.gLen_tup, Dn.gLen_lst, Dn.gLen_rol, Dn.gTuple_tup, Dn.gTuple_lst, Dn.gList_tup, Dn.gList_lst, Dn.sSetI_eq, Dn.dMtL_eq, Dn.iSeq_lst, Dn.iSeq_tup, Dn.sSeq_eq, Dn.startE, List.set_cons_zero, List.set_cons_succ, List.map_cons, List.map_nil, List.length_cons, List.length_nil, List.cons_append, List.nil_append, List.append_nil, List.replicate_succ, List.replicate_zero, if_true, if_false, ite_true, ite_false, Bool.false_eq_true, decide_true, decide_false, Nat.reduceSub, Nat.reduceAdd, Nat.reduceLeDiff, Bool.not_true, Bool.not_false, reduceIte, reduceCtorEq, Nat.zero_add, Nat.add_zero, z1, a1]
    · simp -implicitDefEqProofs only [Dn.rbind_ok, Dn.rbind_bad, Dn.rbind_exc, Dn.obind_ok, Dn.obind_bad, Dn.nox_ok, Dn.dVar_zero, Dn.dVar_succ, Dn.dC_eq, Dn.dUn_eq, Dn.dBin_eq, Dn.dBl_eq, Dn.xOf_eq, Dn.xAnd_eq, Dn.xOr_eq, Dn.xNot_eq, Dn.xYes_eq, Dn.dAnd_eq, Dn.dOr_eq, Dn.dNot_eq, Dn.dIf_eq, Dn.aNil_eq, Dn.aCons_eq, Dn.dApp_eq, Dn.dTup_eq, Dn.dLst_eq, Dn.nLst_eq, Dn.dCall_eq, Dn.dChain_eq, Dn.sSet_eq, Dn.sRet_eq, Dn.sRetN_eq, Dn.sDrop_eq, Dn.sIf_eq, Dn.sNext_eq, Dn.sBrk_eq, Dn.sCnt_eq, Dn.sPar_eq, Dn.sPar3_eq, Dn.sAsg_eq, Dn.tset_nm, Dn.tset_tp, Dn.tsets_nil, Dn.tsets_cons, Dn.grd_none, Dn.wipeE_nil, Dn.wipeE_cons, Dn.gEq_int, Dn.gIsN_non, Dn.gIsN_int, Dn.gIsN_str, Dn.gIsN_tup, Dn.gIsN_bl, Dn.gIsN_ib, Dn.gIsN_nb, Dn.gIsN_sb, Dn.gIsN_tb, Dn.gAdd_int, Dn.gAugAdd_int, Dn.gSubI_int, Dn.gLt_int, Dn.gLe_int, Dn.gGt_int, Dn.gGe_int, Dn.gNeg_int, Dn.gAbs_int, Dn.gInt_int, Dn.gMax2_int, Dn.gMin2_int, Dn.asQ_tup, Dn.asQ_lst, Dn.asL_lst, Dn.gIdx_tup0, Dn.gIdx_tup1, Dn.gIdx_tup2, Dn.gLen_tup, Dn.gLen_lst, Dn.gLen_rol, Dn.gTuple_tup, Dn.gTuple_lst, Dn.gList_tup, Dn.gList_lst, Dn.sSetI_eq, Dn.dMtL_eq, Dn.iSeq_lst, Dn.iSeq_tup, Dn.sSeq_eq, Dn.startE, List.set_cons_zero, List.set_cons_succ, List.map_cons, List.map_nil, List.length_cons, List.length_nil, List.cons_append, List.nil_append, List.append_nil, List.replicate_succ, List.replicate_zero, if_true, if_false, ite_true, ite_false, Bool.false_eq_true, decide_true, decide_false, Nat.reduceSub, Nat.reduceAdd, Nat.reduceLeDiff, Bool.not_true, Bool.not_false, reduceIte, reduceCtorEq, Nat.zero_add, Nat.add_zero, z1, a2]
  have g5 : gTuple [.ref S2.length] (S2 ++ [.lst (mks M (dif 0 (sortI vs) (M : Nat)))]) = .ok (.tup (mks M (dif 0 (sortI vs) (M : Nat)))) (S2 ++ [.lst (mks M (dif 0 (sortI vs) (M : Nat)))]) := gTuple_ref get_last
  have hB := b1.trans b2
  refine ⟨M, dif 0 (sortI vs) (M : Nat), S2, def_end (S2 := S2 ++ [.lst (mks M (dif 0 (sortI vs) (M : Nat)))]) (d := .tup (mks M (dif 0 (sortI vs) (M : Nat)))) rfl ?_ (frzD_low _ (low_pure _ _ (by simpa [pureD] using pure_mks _ _))) (keep_box hB) (take_box hB), hB, hM0, hM60, by rw [dif_len]; omega, ?_⟩
  · rw [List.nil_append] at ml
    have ml' : forD (.tp [.nm 5, .nm 6]) [5, 6] (sDrop (dMtL gAppend (dVar 4) (aCons (dCall F__law_lowest [] (aCons (dBin gSubI (dVar 6) (dVar 5)) (aCons (dVar 2) (aNil)))) (aNil)))) none (zipL (D.int 0 :: (sortI vs).map D.int) ((sortI vs).map D.int ++ [D.int (M : Nat)])) [some (.ref n), some (.int (m : Nat)), some (.int (M : Nat)), some (.lst ((sortI vs).map D.int)), some (.ref S2.length), none, none, none] (S2 ++ [.lst []]) = _ := ml
    simp -implicitDefEqProofs only [Dn.rbind_ok, Dn.rbind_bad, Dn.rbind_exc, Dn.obind_ok, Dn.obind_bad, Dn.nox_ok, Dn.dVar_zero, Dn.dVar_succ, Dn.dC_eq, Dn.dUn_eq, Dn.dBin_eq, Dn.dBl_eq, Dn.xOf_eq, Dn.xAnd_eq, Dn.xOr_eq, Dn.xNot_eq, Dn.xYes_eq, Dn.dAnd_eq, Dn.dOr_eq, Dn.dNot_eq, Dn.dIf_eq, Dn.aNil_eq, Dn.aCons_eq, Dn.dApp_eq, Dn.dTup_eq, Dn.dLst_eq, Dn.nLst_eq, Dn.dCall_eq, Dn.dChain_eq, Dn.sSet_eq, Dn.sRet_eq, Dn.sRetN_eq, Dn.sDrop_eq, Dn.sIf_eq, Dn.sNext_eq, Dn.sBrk_eq, Dn.sCnt_eq, Dn.sPar_eq, Dn.sPar3_eq, Dn.sAsg_eq, Dn.tset_nm, Dn.tset_tp, Dn.tsets_nil, Dn.tsets_cons, Dn.grd_none, Dn.wipeE_nil, Dn.wipeE_cons, Dn.gEq_int, Dn.gIsN_non, Dn.gIsN_int, Dn.gIsN_str, Dn.gIsN_tup, Dn.gIsN_bl, Dn.gIsN_ib, Dn.gIsN_nb, Dn.gIsN_sb, Dn.gIsN_tb, Dn.gAdd_int, Dn.gAugAdd_int, Dn.gSubI_int, Dn.gLt_int, Dn.gLe_int, Dn.gGt_int, Dn.gGe_int, Dn.gNeg_int, Dn.gAbs_int, Dn.gInt_int, Dn.gMax2_int, Dn.gMin2_int, Dn.asQ_tup, Dn.asQ_lst, Dn.asL_lst, Dn.gIdx_tup0, Dn.gIdx_tup1, Dn.gIdx_tup2, Dn.gLen_tup, Dn.gLen_lst, Dn.gLen_rol, Dn.gTuple_tup, Dn.gTuple_lst, Dn.gList_tup, Dn.gList_lst, Dn.sSetI_eq, Dn.dMtL_eq, Dn.iSeq_lst, Dn.iSeq_tup, Dn.sSeq_eq, Dn.startE, List.set_cons_zero, List.set_cons_succ, List.map_cons, List.map_nil, List.length_cons, List.length_nil, List.cons_append, List.nil_append, List.append_nil, List.replicate_succ, List.replicate_zero, if_true, if_false, ite_true, ite_false, Bool.false_eq_true, decide_true, decide_false, Nat.reduceSub, Nat.reduceAdd, Nat.reduceLeDiff, Bool.not_true, Bool.not_false, reduceIte, reduceCtorEq, Nat.zero_add, Nat.add_zero, B__law_split_row, z4, e1, e2, g3, z0, sFor_eq, iz, ml', g5]
  · have := dif_sum (sortI vs) 0 (M : Nat) (by omega) hsp hsm
    omega
end Cm

set_option maxHeartbeats 1000000
namespace Mt
/-! ### draws listed -/
abbrev Dw := List Nat × Nat
def drC (p : Dw) (j : Nat) : List Nat → List Dw
  | [] => []
  | c :: cs => (p.1 ++ [j], p.2 * c) :: drC p (j + 1) cs
def drS (L : List Dw) (c : List Nat) : List Dw := L.flatMap fun p => drC p 0 c
def drL : List Dw → List (List Nat) → List Dw
  | L, [] => L
  | L, c :: cs => drL (drS L c) cs
theorem drC_len {p : Dw} : ∀ (c : List Nat) (j : Nat), (drC p j c).length = c.length
  | [], _ => rfl
  | c :: cs, j => by rw [drC, List.length_cons, drC_len cs, List.length_cons]
theorem drS_len {c : List Nat} : ∀ L : List Dw, (drS L c).length = L.length * c.length
  | [] => by simp [drS]
  | p :: L => by
    have := drS_len (c := c) L
    unfold drS at this ⊢
    rw [List.flatMap_cons, List.length_append, drC_len, this, List.length_cons, Nat.succ_mul]
    omega
def SD (L : List Dw) (G : List Nat → Nat) : Nat := (L.map fun p => p.2 * G p.1).sum
theorem SD_app (L M : List Dw) (G : List Nat → Nat) : SD (L ++ M) G = SD L G + SD M G := by
  unfold SD; rw [List.map_append, List.sum_append_nat]
theorem SD_C {p : Dw} {G : List Nat → Nat} : ∀ (c : List Nat) (j : Nat), SD (drC p j c) G = p.2 * dotF j c (fun x => G (p.1 ++ [x]))
  | [], j => by simp [SD, drC, dotF]
  | c :: cs, j => by
    have := SD_C (p := p) (G := G) cs (j + 1)
    unfold SD at this ⊢
    rw [drC, List.map_cons, List.sum_cons, this, dotF, Nat.mul_add, Nat.mul_assoc]
theorem SD_S {c : List Nat} {G : List Nat → Nat} : ∀ L : List Dw, SD (drS L c) G = SD L (fun w => dot c (fun x => G (w ++ [x])))
  | [] => rfl
  | p :: L => by
    have h1 := SD_S (c := c) (G := G) L
    have h2 : drS (p :: L) c = drC p 0 c ++ drS L c := by unfold drS; rw [List.flatMap_cons]
    rw [h2, SD_app, SD_C, h1]
    unfold SD dot
    rw [List.map_cons, List.sum_cons]
def R : List (List Nat) → (List Nat → Nat) → List Nat → Nat
  | [], G, w => G w
  | c :: cs, G, w => dot c fun x => R cs G (w ++ [x])
theorem SD_L {G : List Nat → Nat} : ∀ (cs : List (List Nat)) (L : List Dw), SD (drL L cs) G = SD L (R cs G)
  | [], L => rfl
  | c :: cs, L => by rw [drL, SD_L cs, SD_S]; rfl
/-- draw by draw as listed -/
theorem E_R {cs : Nat → List Nat} {F : (Nat → Nat) → Nat} {G : List Nat → Nat} {n : Nat} (h : ∀ (σ : Nat → Nat) (w : List Nat), w.length = n → (∀ i (hi : i < w.length), σ i = w[i]) → F σ = G w) :
    ∀ (k j : Nat) (σ : Nat → Nat) (w : List Nat), j + k = n → w.length = j → (∀ i (hi : i < w.length), σ i = w[i]) → E cs (List.range' j k) F σ = R ((List.range' j k).map cs) G w
  | 0, j, σ, w, hn, hw, hs => by
    show F σ = G w
    exact h σ w (by omega) hs
  | k + 1, j, σ, w, hn, hw, hs => by
    rw [List.range'_succ, List.map_cons]
    refine dot_congr (fun x => ?_) _
    refine E_R h k (j + 1) (upd σ j x) (w ++ [x]) (by omega) (by simp [hw]) fun i hi => ?_
    unfold upd
    by_cases e : i = j
    · rw [if_pos e]
      subst e
      rw [List.getElem_append_right (by omega)]
      simp [hw]
    · rw [if_neg e, hs i (by simp at hi; omega), List.getElem_append_left]
theorem drL_all {L : List Dw} {n : Nat} (cs : List (List Nat)) : (∀ p ∈ L, p.1.length = n) → ∀ p ∈ drL L cs, p.1.length = n + cs.length := by
  induction cs generalizing L n with
  | nil => intro h p hp; exact h p hp
  | cons c cs ih =>
    intro h p hp
    rw [drL] at hp
    have := ih (L := drS L c) (n := n + 1) (fun q hq => by
      unfold drS at hq
      obtain ⟨u, hu, hq⟩ := List.mem_flatMap.mp hq
      have key : ∀ (c : List Nat) (j : Nat), ∀ q ∈ drC u j c, q.1.length = n + 1 := by
        intro c
        induction c with
        | nil => intro j q hq; cases hq
        | cons x c ihc =>
          intro j q hq
          rw [drC] at hq
          rcases List.mem_cons.mp hq with rfl | hq
          · simp [h u hu]
          · exact ihc (j + 1) q hq
      exact key c 0 q hq) p hp
    rw [this, List.length_cons]
    omega
end Mt
namespace Cm
open PySem PySem.Spec PyProof.Rows L2 Dn Mt
def mkDw (M : Nat) (p : Dw) : D := .tup [.tup (p.1.map fun (j : Nat) => D.int (j : Nat)), fr (mkRat (p.2 : Int) M)]
theorem pure_dw (M : Nat) (p : Dw) : pureD (mkDw M p) = true := by simp [mkDw, pureD, pureDs, pure_nums, pure_fr]
theorem pure_dws (M : Nat) (L : List Dw) : pureDs (L.map (mkDw M)) = true := pures_iff.mpr fun x hx => by
  obtain ⟨p, _, rfl⟩ := List.mem_map.mp hx
  exact pure_dw M p
noncomputable def dwE : Den := dLc (iSeq (dVar 2)) [6, 7] (.tp [.nm 6, .nm 7]) (xYes) (dTup (aCons (dBin gAdd (dVar 4) (dTup (aCons (dVar 6) (aNil)))) (aCons (dCall F__law_times [] (aCons (dVar 5) (aCons (dVar 7) (aNil)))) (aNil))))
/-- one drawn row with each entry of the next one -/
theorem dw_one {e0 e1 e3 : Option D} {M N : Nat} {p : Dw} {c : List Nat} {S : List O} (hM : M ≠ 0) (hN : N ≠ 0) (hMN : M * N < 4294967296) (hp : p.2 ≤ M) (hc : ∀ x ∈ c, x ≤ N) (hl : p.1.length < 1000) :
    dwE [e0, e1, some (.lst (enumL (mks N c))), e3, some (.tup (p.1.map fun (j : Nat) => D.int (j : Nat))), some (fr (mkRat (p.2 : Int) M)), none, none] S = .ok (.lst ((drC p 0 c).map (mkDw (M * N)))) S := by
  have i1 : iSeq (dVar 2) [e0, e1, some (.lst (enumL (mks N c))), e3, some (.tup (p.1.map fun (j : Nat) => D.int (j : Nat))), some (fr (mkRat (p.2 : Int) M)), none, none] S = .ok ⟨enumAt 0 (mks N c), none⟩ S := iSeq_lst rfl
  refine dLc_rel i1 (fun acc => trivial) ?_ (lows_pure _ _ (pure_dws _ _))
  have hMlt : M < 4294967296 := Nat.lt_of_le_of_lt (Nat.le_mul_of_pos_right _ (Nat.pos_of_ne_zero hN)) hMN
  have hNlt : N < 4294967296 := Nat.lt_of_le_of_lt (Nat.le_mul_of_pos_left _ (Nat.pos_of_ne_zero hM)) hMN
  have z1 : (1 : Nat) ≤ sizeLine := small_line (by omega)
  have z2 : (2 : Nat) ≤ sizeLine := small_line (by omega)
  have key : ∀ (c2 : List Nat) (j : Nat), (∀ x ∈ c2, x ≤ N) → F2 (fun x y => ∀ acc : List D, ∃ ρ1, tset (.tp [.nm 6, .nm 7]) x (wipeC [e0, e1, some (.lst (enumL (mks N c))), e3, some (.tup (p.1.map fun (j : Nat) => D.int (j : Nat))), some (fr (mkRat (p.2 : Int) M)), none, none] [6, 7]) = some ρ1 ∧ (dTup (aCons (dBin gAdd (dVar 4) (dTup (aCons (dVar 6) (aNil)))) (aCons (dCall F__law_times [] (aCons (dVar 5) (aCons (dVar 7) (aNil)))) (aNil)))) ρ1 (S ++ [.lst acc]) = .ok y (S ++ [.lst acc])) (enumAt j (mks N c2)) ((drC p j c2).map (mkDw (M * N))) := by
    intro c2
    induction c2 with
    | nil => intro j _; exact .nil
    | cons x c2 ih =>
      intro j hx
      have e1' : mks N (x :: c2) = fr (mkRat (x : Int) N) :: mks N c2 := rfl
      rw [e1', enumAt_cons, drC, List.map_cons]
      refine .cons (fun acc => ⟨[e0, e1, some (.lst (enumL (mks N c))), e3, some (.tup (p.1.map fun (j : Nat) => D.int (j : Nat))), some (fr (mkRat (p.2 : Int) M)), some (.int (j : Nat)), some (fr (mkRat (x : Int) N))], ?_, ?_⟩) (ih (j + 1) fun y hy => hx y (List.mem_cons_of_mem _ hy))
      · simp -implicitDefEqProofs only [Dn.rbind_ok, Dn.rbind_bad, Dn.rbind_exc, Dn.obind_ok, Dn.obind_bad, Dn.nox_ok, Dn.dVar_zero, Dn.dVar_succ, Dn.dC_eq, Dn.dUn_eq, Dn.dBin_eq, Dn.dBl_eq, Dn.xOf_eq, Dn.xAnd_eq, Dn.xOr_eq, Dn.xNot_eq, Dn.xYes_eq, Dn.dAnd_eq, Dn.dOr_eq, Dn.dNot_eq, Dn.dIf_eq, Dn.aNil_eq, Dn.aCons_eq, Dn.dApp_eq, Dn.dTup_eq, Dn.dLst_eq, Dn.nLst_eq, Dn.dCall_eq, Dn.dChain_eq, Dn.sSet_eq, Dn.sRet_eq, Dn.sRetN_eq, Dn.sDrop_eq, Dn.sIf_eq, Dn.sNext_eq, Dn.sBrk_eq, Dn.sCnt_eq, Dn.sPar_eq, Dn.sPar3_eq, Dn.sAsg_eq, Dn.tset_nm, Dn.tset_tp, Dn.tsets_nil, Dn.tsets_cons, Dn.grd_none, Dn.wipeE_nil, Dn.wipeE_cons, Dn.gEq_int, Dn.gIsN_non, Dn.gIsN_int, Dn.gIsN_str, Dn.gIsN_tup, Dn.gIsN_bl, Dn.gIsN_ib, Dn.gIsN_nb, Dn.gIsN_sb, Dn.gIsN_tb, Dn.gAdd_int, Dn.gAugAdd_int, Dn.gSubI_int, Dn.gLt_int, Dn.gLe_int, Dn.gGt_int, Dn.gGe_int, Dn.gNeg_int, Dn.gAbs_int, Dn.gInt_int, Dn.gMax2_int, Dn.gMin2_int, Dn.asQ_tup, Dn.asQ_lst, Dn.asL_lst, Dn.gIdx_tup0, Dn.gIdx_tup1, Dn.gIdx_tup2, Dn.gLen_tup, Dn.gLen_lst, Dn.gLen_rol, Dn.gTuple_tup, Dn.gTuple_lst, Dn.gList_tup, Dn.gList_lst, Dn.sSetI_eq, Dn.dMtL_eq, Dn.iSeq_lst, Dn.iSeq_tup, Dn.sSeq_eq, Dn.startE, List.set_cons_zero, List.set_cons_succ, List.map_cons, List.map_nil, List.length_cons, List.length_nil, List.cons_append, List.nil_append, List.append_nil, List.replicate_succ, List.replicate_zero, if_true, if_false, ite_true, ite_false, Bool.false_eq_true, decide_true, decide_false, Nat.reduceSub, Nat.reduceAdd, Nat.reduceLeDiff, Bool.not_true, Bool.not_false, reduceIte, reduceCtorEq, Nat.zero_add, Nat.add_zero, wipeC]
      · have g1 : ∀ S, gAdd (.tup (p.1.map fun (j : Nat) => D.int (j : Nat))) (.tup [.int (j : Nat)]) S = .ok (.tup (p.1.map (fun (j : Nat) => D.int (j : Nat)) ++ [.int (j : Nat)])) S := fun S => gAdd_tup (small_line (by simp; omega))
        have g2 : ∀ S, F__law_times [fr (mkRat (p.2 : Int) M), fr (mkRat (x : Int) N)] S = .ok (fr (mkRat ((p.2 * x : Nat) : Int) (M * N))) S := fun S => by
          rw [ev_ltimes (sm_mk hp hMlt hM) (sm_mk (hx x List.mem_cons_self) hNlt hN), mk_mul]
        simp -implicitDefEqProofs only [Dn.rbind_ok, Dn.rbind_bad, Dn.rbind_exc, Dn.obind_ok, Dn.obind_bad, Dn.nox_ok, Dn.dVar_zero, Dn.dVar_succ, Dn.dC_eq, Dn.dUn_eq, Dn.dBin_eq, Dn.dBl_eq, Dn.xOf_eq, Dn.xAnd_eq, Dn.xOr_eq, Dn.xNot_eq, Dn.xYes_eq, Dn.dAnd_eq, Dn.dOr_eq, Dn.dNot_eq, Dn.dIf_eq, Dn.aNil_eq, Dn.aCons_eq, Dn.dApp_eq, Dn.dTup_eq, Dn.dLst_eq, Dn.nLst_eq, Dn.dCall_eq, Dn.dChain_eq, Dn.sSet_eq, Dn.sRet_eq, Dn.sRetN_eq, Dn.sDrop_eq, Dn.sIf_eq, Dn.sNext_eq, Dn.sBrk_eq, Dn.sCnt_eq, Dn.sPar_eq, Dn.sPar3_eq, Dn.sAsg_eq, Dn.tset_nm, Dn.tset_tp, Dn.tsets_nil, Dn.tsets_cons, Dn.grd_none, Dn.wipeE_nil, Dn.wipeE_cons, Dn.gEq_int, Dn.gIsN_non, Dn.gIsN_int, Dn.gIsN_str, Dn.gIsN_tup, Dn.gIsN_bl, Dn.gIsN_ib, Dn.gIsN_nb, Dn.gIsN_sb, Dn.gIsN_tb, Dn.gAdd_int, Dn.gAugAdd_int, Dn.gSubI_int, Dn.gLt_int, Dn.gLe_int, Dn.gGt_int, Dn.gGe_int, Dn.gNeg_int, Dn.gAbs_int, Dn.gInt_int, Dn.gMax2_int, Dn.gMin2_int, Dn.asQ_tup, Dn.asQ_lst, Dn.asL_lst, Dn.gIdx_tup0, Dn.gIdx_tup1, Dn.gIdx_tup2, Dn.gLen_tup, Dn.gLen_lst, Dn.gLen_rol, Dn.gTuple_tup, Dn.gTuple_lst, Dn.gList_tup, Dn.gList_lst, Dn.sSetI_eq, Dn.dMtL_eq, Dn.iSeq_lst, Dn.iSeq_tup, Dn.sSeq_eq, Dn.startE, List.set_cons_zero, List.set_cons_succ, List.map_cons, List.map_nil, List.length_cons, List.length_nil, List.cons_append, List.nil_append, List.append_nil, List.replicate_succ, List.replicate_zero, if_true, if_false, ite_true, ite_false, Bool.false_eq_true, decide_true, decide_false, Nat.reduceSub, Nat.reduceAdd, Nat.reduceLeDiff, Bool.not_true, Bool.not_false, reduceIte, reduceCtorEq, Nat.zero_add, Nat.add_zero, z1, z2, g1, g2]
        unfold mkDw
        rw [List.map_append]
        rfl
  exact key c 0 hc
theorem dw_mid {e0 e1 : Option D} {M N : Nat} {c : List Nat} {S : List O} (hM : M ≠ 0) (hN : N ≠ 0) (hMN : M * N < 4294967296) (hc : ∀ x ∈ c, x ≤ N) : ∀ (L acc : List Dw), (∀ p ∈ L, p.2 ≤ M ∧ p.1.length < 1000) → acc.length + L.length * c.length ≤ 1000000 →
    forD (.tp [.nm 4, .nm 5]) [4, 5] (sSet 3 (dBin gAdd (dVar 3) dwE)) none (L.map (mkDw M)) [e0, e1, some (.lst (enumL (mks N c))), some (.lst (acc.map (mkDw (M * N)))), none, none, none, none] S
      = .nx [e0, e1, some (.lst (enumL (mks N c))), some (.lst ((acc ++ drS L c).map (mkDw (M * N)))), none, none, none, none] S
  | [], acc, h, hl => by rw [List.map_nil, forD_nil]; simp [drS]
  | p :: L, acc, h, hl => by
    obtain ⟨h1, h2⟩ := h p List.mem_cons_self
    rw [List.length_cons, Nat.succ_mul] at hl
    have ih := dw_mid (e0 := e0) (e1 := e1) (S := S) hM hN hMN hc L (acc ++ drC p 0 c) (fun q hq => h q (List.mem_cons_of_mem _ hq)) (by rw [List.length_append, drC_len]; omega)
    have g1 := dw_one (e0 := e0) (e1 := e1) (e3 := some (.lst (acc.map (mkDw (M * N))))) (S := S) hM hN hMN h1 hc h2
    have g2 : gAdd (.lst (acc.map (mkDw (M * N)))) (.lst ((drC p 0 c).map (mkDw (M * N)))) S = .ok (.lst ((acc ++ drC p 0 c).map (mkDw (M * N)))) S := by
      rw [gAdd_lst (small_line (by rw [List.length_map, List.length_map, drC_len]; omega)), List.map_append]
    have e2 : drS (p :: L) c = drC p 0 c ++ drS L c := by unfold drS; rw [List.flatMap_cons]
    rw [List.map_cons, forD_cons, e2, ← List.append_assoc]
    have t1 : tset (.tp [.nm 4, .nm 5]) (mkDw M p) [e0, e1, some (.lst (enumL (mks N c))), some (.lst (acc.map (mkDw (M * N)))), none, none, none, none] = some [e0, e1, some (.lst (enumL (mks N c))), some (.lst (acc.map (mkDw (M * N)))), some (.tup (p.1.map fun (j : Nat) => D.int (j : Nat))), some (fr (mkRat (p.2 : Int) M)), none, none] := by
      simp -implicitDefEqProofs only [Dn.rbind_ok, Dn.rbind_bad, Dn.rbind_exc, Dn.obind_ok, Dn.obind_bad, Dn.nox_ok, Dn.dVar_zero, Dn.dVar_succ, Dn.dC_eq, Dn.dUn_eq, Dn.dBin_eq, Dn.dBl_eq, Dn.xOf_eq, Dn.xAnd_eq, Dn.xOr_eq, Dn.xNot_eq, Dn.xYes_eq, Dn.dAnd_eq, Dn.dOr_eq, Dn.dNot_eq, Dn.dIf_eq, Dn.aNil_eq, Dn.aCons_eq, Dn.dApp_eq, Dn.dTup_eq, Dn.dLst_eq, Dn.nLst_eq, Dn.dCall_eq, Dn.dChain_eq, Dn.sSet_eq, Dn.sRet_eq, Dn.sRetN_eq, Dn.sDrop_eq, Dn.sIf_eq, Dn.sNext_eq, Dn.sBrk_eq, Dn.sCnt_eq, Dn.sPar_eq, Dn.sPar3_eq, Dn.sAsg_eq, Dn.tset_nm, Dn.tset_tp, Dn.tsets_nil, Dn.tsets_cons, Dn.grd_none, Dn.wipeE_nil, Dn.wipeE_cons, Dn.gEq_int, Dn.gIsN_non, Dn.gIsN_int, Dn.gIsN_str, Dn.gIsN_tup, Dn.gIsN_bl, Dn.gIsN_ib, Dn.gIsN_nb, Dn.gIsN_sb, Dn.gIsN_tb, Dn.gAdd_int, Dn.gAugAdd_int, Dn.gSubI_int, Dn.gLt_int, Dn.gLe_int, Dn.gGt_int, Dn.gGe_int, Dn.gNeg_int, Dn.gAbs_int, Dn.gInt_int, Dn.gMax2_int, Dn.gMin2_int, Dn.asQ_tup, Dn.asQ_lst, Dn.asL_lst, Dn.gIdx_tup0, Dn.gIdx_tup1, Dn.gIdx_tup2, Dn.gLen_tup, Dn.gLen_lst, Dn.gLen_rol, Dn.gTuple_tup, Dn.gTuple_lst, Dn.gList_tup, Dn.gList_lst, Dn.sSetI_eq, Dn.dMtL_eq, Dn.iSeq_lst, Dn.iSeq_tup, Dn.sSeq_eq, Dn.startE, List.set_cons_zero, List.set_cons_succ, List.map_cons, List.map_nil, List.length_cons, List.length_nil, List.cons_append, List.nil_append, List.append_nil, List.replicate_succ, List.replicate_zero, if_true, if_false, ite_true, ite_false, Bool.false_eq_true, decide_true, decide_false, Nat.reduceSub, Nat.reduceAdd, Nat.reduceLeDiff, Bool.not_true, Bool.not_false, reduceIte, reduceCtorEq, Nat.zero_add, Nat.add_zero, mkDw]
    rw [t1]
    simp -implicitDefEqProofs only [Dn.rbind_ok, Dn.rbind_bad, Dn.rbind_exc, Dn.obind_ok, Dn.obind_bad, Dn.nox_ok, Dn.dVar_zero, Dn.dVar_succ, Dn.dC_eq, Dn.dUn_eq, Dn.dBin_eq, Dn.dBl_eq, Dn.xOf_eq, Dn.xAnd_eq, Dn.xOr_eq, Dn.xNot_eq, Dn.xYes_eq, Dn.dAnd_eq, Dn.dOr_eq, Dn.dNot_eq, Dn.dIf_eq, Dn.aNil_eq, Dn.aCons_eq, Dn.dApp_eq, Dn.dTup_eq, Dn.dLst_eq, Dn.nLst_eq, Dn.dCall_eq, Dn.dChain_eq, Dn.sSet_eq, Dn.sRet_eq, Dn.sRetN_eq, Dn.sDrop_eq, Dn.sIf_eq, Dn.sNext_eq, Dn.sBrk_eq, Dn.sCnt_eq, Dn.sPar_eq, Dn.sPar3_eq, Dn.sAsg_eq, Dn.tset_nm, Dn.tset_tp, Dn.tsets_nil, Dn.tsets_cons, Dn.grd_none, Dn.wipeE_nil, Dn.wipeE_cons, Dn.gEq_int, Dn.gIsN_non, Dn.gIsN_int, Dn.gIsN_str, Dn.gIsN_tup, Dn.gIsN_bl, Dn.gIsN_ib, Dn.gIsN_nb, Dn.gIsN_sb, Dn.gIsN_tb, Dn.gAdd_int, Dn.gAugAdd_int, Dn.gSubI_int, Dn.gLt_int, Dn.gLe_int, Dn.gGt_int, Dn.gGe_int, Dn.gNeg_int, Dn.gAbs_int, Dn.gInt_int, Dn.gMax2_int, Dn.gMin2_int, Dn.asQ_tup, Dn.asQ_lst, Dn.asL_lst, Dn.gIdx_tup0, Dn.gIdx_tup1, Dn.gIdx_tup2, Dn.gLen_tup, Dn.gLen_lst, Dn.gLen_rol, Dn.gTuple_tup, Dn.gTuple_lst, Dn.gList_tup, Dn.gList_lst, Dn.sSetI_eq, Dn.dMtL_eq, Dn.iSeq_lst, Dn.iSeq_tup, Dn.sSeq_eq, Dn.startE, List.set_cons_zero, List.set_cons_succ, List.map_cons, List.map_nil, List.length_cons, List.length_nil, List.cons_append, List.nil_append, List.append_nil, List.replicate_succ, List.replicate_zero, if_true, if_false, ite_true, ite_false, Bool.false_eq_true, decide_true, decide_false, Nat.reduceSub, Nat.reduceAdd, Nat.reduceLeDiff, Bool.not_true, Bool.not_false, reduceIte, reduceCtorEq, Nat.zero_add, Nat.add_zero, g1, g2]
    exact ih
/-- rows as they are drawn from: entries numbered -/
def mkEn (p : Nat × List Nat) : D := .lst (enumL (mks p.1 p.2))
structure DwOk (L : List Dw) (M k b : Nat) : Prop where
  le : ∀ p ∈ L, p.2 ≤ M
  ln : ∀ p ∈ L, p.1.length = k
  sz : L.length ≤ b
theorem dwS_ok {L : List Dw} {M k b N : Nat} {c : List Nat} (h : DwOk L M k b) (hc : ∀ x ∈ c, x ≤ N) (hb : c.length ≤ 10) : DwOk (drS L c) (M * N) (k + 1) (b * 10) where
  le := fun p hp => by
    unfold drS at hp
    obtain ⟨q, hq, hp⟩ := List.mem_flatMap.mp hp
    have key : ∀ (c : List Nat) (j : Nat), (∀ x ∈ c, x ≤ N) → ∀ p ∈ drC q j c, p.2 ≤ M * N := by
      intro c
      induction c with
      | nil => intro j _ p hp; cases hp
      | cons x c ih =>
        intro j hx p hp
        rw [drC] at hp
        rcases List.mem_cons.mp hp with rfl | hp
        · exact Nat.mul_le_mul (h.le q hq) (hx x List.mem_cons_self)
        · exact ih (j + 1) (fun y hy => hx y (List.mem_cons_of_mem _ hy)) p hp
    exact key c 0 hc p hp
  ln := fun p hp => by
    have := drL_all (L := L) [c] (n := k) h.ln p (by rw [drL, drL]; exact hp)
    simpa using this
  sz := by rw [drS_len]; exact Nat.mul_le_mul h.sz hb
theorem dw_out {e0 : Option D} {S : List O} : ∀ (rs : List (Nat × List Nat)) (L : List Dw) (M k b : Nat), M ≠ 0 → (∀ r ∈ rs, r.1 ≠ 0 ∧ r.1 ≤ 60 ∧ (∀ x ∈ r.2, x ≤ r.1) ∧ r.2.length ≤ 10) → M * 60 ^ rs.length < 4294967296 → b * 10 ^ rs.length ≤ 1000000 → k + rs.length < 1000 → DwOk L M k b →
    forD (.nm 2) [2, 3, 4, 5] (sSeq (sSet 3 (dLst (aNil))) (sSeq (sFor (iSeq (dVar 1)) (.tp [.nm 4, .nm 5]) [4, 5] (sSet 3 (dBin gAdd (dVar 3) dwE))) (sSet 1 (dVar 3)))) none (rs.map mkEn) [e0, some (.lst (L.map (mkDw M))), none, none, none, none, none, none] S
      = .nx [e0, some (.lst ((drL L (rs.map (·.2))).map (mkDw (M * (rs.map (·.1)).prod)))), none, none, none, none, none, none] S ∧ DwOk (drL L (rs.map (·.2))) (M * (rs.map (·.1)).prod) (k + rs.length) (b * 10 ^ rs.length)
  | [], L, M, k, b, hM, h, h1, h2, h3, hk => by
    refine ⟨?_, by simpa [drL] using hk⟩
    rw [List.map_nil, forD_nil]
    simp [drL]
  | r :: rs, L, M, k, b, hM, h, h1, h2, h3, hk => by
    obtain ⟨r1, r2, r3, r4⟩ := h r List.mem_cons_self
    rw [List.length_cons, Nat.pow_succ] at h1 h2
    rw [List.length_cons] at h3
    have p60 : 0 < 60 ^ rs.length := Nat.pow_pos (by omega)
    have p10 : 0 < 10 ^ rs.length := Nat.pow_pos (by omega)
    have hMN : M * r.1 < 4294967296 := by
      refine Nat.lt_of_le_of_lt ?_ h1
      refine Nat.mul_le_mul_left _ ?_
      exact Nat.le_trans r2 (Nat.le_mul_of_pos_left _ p60)
    have ok2 := dwS_ok hk r3 r4
    have hb10 : b * 10 ≤ 1000000 := by
      refine Nat.le_trans ?_ h2
      rw [Nat.mul_comm (10 ^ rs.length) 10, ← Nat.mul_assoc]
      exact Nat.le_mul_of_pos_right _ p10
    have hsz : L.length * r.2.length ≤ 1000000 := Nat.le_trans (Nat.mul_le_mul hk.sz r4) hb10
    have z0 : (0 : Nat) ≤ sizeLine := Nat.zero_le _
    have md := dw_mid (e0 := e0) (e1 := some (.lst (L.map (mkDw M)))) (S := S) hM r1 hMN r3 L [] (fun p hp => ⟨hk.le p hp, by have := hk.ln p hp; omega⟩) (by simpa using hsz)
    obtain ⟨ih, ih2⟩ := dw_out (e0 := e0) (S := S) rs (drS L r.2) (M * r.1) (k + 1) (b * 10) (Nat.mul_ne_zero hM r1) (fun q hq => h q (List.mem_cons_of_mem _ hq)) (by
      refine Nat.lt_of_le_of_lt ?_ h1
      rw [Nat.mul_assoc]
      refine Nat.mul_le_mul_left _ ?_
      rw [Nat.mul_comm]
      exact Nat.mul_le_mul_left _ r2) (by rw [Nat.mul_assoc, Nat.mul_comm 10]; exact h2) (by omega) ok2
    have ep : M * r.1 * (rs.map (·.1)).prod = M * ((r :: rs).map (·.1)).prod := by rw [List.map_cons, List.prod_cons, Nat.mul_assoc]
    have el : drL L ((r :: rs).map (·.2)) = drL (drS L r.2) (rs.map (·.2)) := by rw [List.map_cons, drL]
    rw [ep] at ih ih2
    rw [el]
    refine ⟨?_, ?_⟩
    · rw [← ih, List.map_cons, forD_cons]
      have i1 : iSeq (dVar 1) [e0, some (.lst (L.map (mkDw M))), some (mkEn r), some (.lst []), none, none, none, none] S = .ok ⟨L.map (mkDw M), none⟩ S := iSeq_lst rfl
      unfold mkEn at i1 ⊢
      simp only [List.map_nil, List.nil_append] at md
      simp -implicitDefEqProofs only [Dn.rbind_ok, Dn.rbind_bad, Dn.rbind_exc, Dn.obind_ok, Dn.obind_bad, Dn.nox_ok, Dn.dVar_zero, Dn.dVar_succ, Dn.dC_eq, Dn.dUn_eq, Dn.dBin_eq, Dn.dBl_eq, Dn.xOf_eq, Dn.xAnd_eq, Dn.xOr_eq, Dn.xNot_eq, Dn.xYes_eq, Dn.dAnd_eq, Dn.dOr_eq, Dn.dNot_eq, Dn.dIf_eq, Dn.aNil_eq, Dn.aCons_eq, Dn.dApp_eq, Dn.dTup_eq, Dn.dLst_eq, Dn.nLst_eq, Dn.dCall_eq, Dn.dChain_eq, Dn.sSet_eq, Dn.sRet_eq, Dn.sRetN_eq, Dn.sDrop_eq, Dn.sIf_eq, Dn.sNext_eq, Dn.sBrk_eq, Dn.sCnt_eq, Dn.sPar_eq, Dn.sPar3_eq, Dn.sAsg_eq, Dn.tset_nm, Dn.tset_tp, Dn.tsets_nil, Dn.tsets_cons, Dn.grd_none, Dn.wipeE_nil, Dn.wipeE_cons, Dn.gEq_int, Dn.gIsN_non, Dn.gIsN_int, Dn.gIsN_str, Dn.gIsN_tup, Dn.gIsN_bl, Dn.gIsN_ib, Dn.gIsN_nb, Dn.gIsN_sb, Dn.gIsN_tb, Dn.gAdd_int, Dn.gAugAdd_int, Dn.gSubI_int, Dn.gLt_int, Dn.gLe_int, Dn.gGt_int, Dn.gGe_int, Dn.gNeg_int, Dn.gAbs_int, Dn.gInt_int, Dn.gMax2_int, Dn.gMin2_int, Dn.asQ_tup, Dn.asQ_lst, Dn.asL_lst, Dn.gIdx_tup0, Dn.gIdx_tup1, Dn.gIdx_tup2, Dn.gLen_tup, Dn.gLen_lst, Dn.gLen_rol, Dn.gTuple_tup, Dn.gTuple_lst, Dn.gList_tup, Dn.gList_lst, Dn.sSetI_eq, Dn.dMtL_eq, Dn.iSeq_lst, Dn.iSeq_tup, Dn.sSeq_eq, Dn.startE, List.set_cons_zero, List.set_cons_succ, List.map_cons, List.map_nil, List.length_cons, List.length_nil, List.cons_append, List.nil_append, List.append_nil, List.replicate_succ, List.replicate_zero, if_true, if_false, ite_true, ite_false, Bool.false_eq_true, decide_true, decide_false, Nat.reduceSub, Nat.reduceAdd, Nat.reduceLeDiff, Bool.not_true, Bool.not_false, reduceIte, reduceCtorEq, Nat.zero_add, Nat.add_zero, z0, sFor_eq, i1, md]
    · have e3 : k + 1 + rs.length = k + (r :: rs).length := by rw [List.length_cons]; omega
      have e4 : b * 10 * 10 ^ rs.length = b * 10 ^ (r :: rs).length := by rw [List.length_cons, Nat.pow_succ, Nat.mul_assoc, Nat.mul_comm 10]
      rw [← e3, ← e4]
      exact ih2
theorem ev_draws {rs : List (Nat × List Nat)} {S : List O} (h : ∀ r ∈ rs, r.1 ≠ 0 ∧ r.1 ≤ 60 ∧ (∀ x ∈ r.2, x ≤ r.1) ∧ r.2.length ≤ 10) (h5 : rs.length ≤ 5) :
    F__law_draws [.lst (rs.map mkEn)] S = .ok (.lst ((drL [([], 1)] (rs.map (·.2))).map (mkDw (rs.map (·.1)).prod))) S ∧ DwOk (drL [([], 1)] (rs.map (·.2))) (rs.map (·.1)).prod rs.length (10 ^ rs.length) := by
  have k60 : 60 ^ rs.length ≤ 60 ^ 5 := Nat.pow_le_pow_right (by omega) h5
  have k10 : 10 ^ rs.length ≤ 10 ^ 5 := Nat.pow_le_pow_right (by omega) h5
  obtain ⟨e, ok⟩ := dw_out (e0 := some (.lst (rs.map mkEn))) (S := S) rs [([], 1)] 1 0 1 (by omega) h (by omega) (by omega) (by omega) ⟨by simp, by simp, by simp⟩
  rw [Nat.one_mul, Nat.one_mul, Nat.zero_add] at ok
  rw [Nat.one_mul] at e
  refine ⟨def_rt rfl ?_ (low_pure _ _ (by simpa [pureD] using pure_dws _ _)), ok⟩
  have z0 : (0 : Nat) ≤ sizeLine := Nat.zero_le _
  have z1 : (1 : Nat) ≤ sizeLine := small_line (by omega)
  have z2 : (2 : Nat) ≤ sizeLine := small_line (by omega)
  have i1 : iSeq (dVar 0) [some (.lst (rs.map mkEn)), some (.lst [.tup [.tup [], .tup [.int 1, .int 1]]]), none, none, none, none, none, none] S = .ok ⟨rs.map mkEn, none⟩ S := iSeq_lst rfl
  have d1 : ([([], 1)] : List Dw).map (mkDw 1) = [.tup [.tup [], .tup [.int 1, .int 1]]] := rfl
  rw [d1] at e
  unfold dwE at e
  simp -implicitDefEqProofs only [Dn.rbind_ok, Dn.rbind_bad, Dn.rbind_exc, Dn.obind_ok, Dn.obind_bad, Dn.nox_ok, Dn.dVar_zero, Dn.dVar_succ, Dn.dC_eq, Dn.dUn_eq, Dn.dBin_eq, Dn.dBl_eq, Dn.xOf_eq, Dn.xAnd_eq, Dn.xOr_eq, Dn.xNot_eq, Dn.xYes_eq, Dn.dAnd_eq, Dn.dOr_eq, Dn.dNot_eq, Dn.dIf_eq, Dn.aNil_eq, Dn.aCons_eq, Dn.dApp_eq, Dn.dTup_eq, Dn.dLst_eq, Dn.nLst_eq, Dn.dCall_eq, Dn.dChain_eq, Dn.sSet_eq, Dn.sRet_eq, Dn.sRetN_eq, Dn.sDrop_eq, Dn.sIf_eq, Dn.sNext_eq, Dn.sBrk_eq, Dn.sCnt_eq, Dn.sPar_eq, Dn.sPar3_eq, Dn.sAsg_eq, Dn.tset_nm, Dn.tset_tp, Dn.tsets_nil, Dn.tsets_cons, Dn.grd_none, Dn.wipeE_nil, Dn.wipeE_cons, Dn.gEq_int, Dn.gIsN_non, Dn.gIsN_int, Dn.gIsN_str, Dn.gIsN_tup, Dn.gIsN_bl, Dn.gIsN_ib, Dn.gIsN_nb, Dn.gIsN_sb, Dn.gIsN_tb, Dn.gAdd_int, Dn.gAugAdd_int, Dn.gSubI_int, Dn.gLt_int, Dn.gLe_int, Dn.gGt_int, Dn.gGe_int, Dn.gNeg_int, Dn.gAbs_int, Dn.gInt_int, Dn.gMax2_int, Dn.gMin2_int, Dn.asQ_tup, Dn.asQ_lst, Dn.asL_lst, Dn.gIdx_tup0, Dn.gIdx_tup1, Dn.gIdx_tup2, Dn.gLen_tup, Dn.gLen_lst, Dn.gLen_rol, Dn.gTuple_tup, Dn.gTuple_lst, Dn.gList_tup, Dn.gList_lst, Dn.sSetI_eq, Dn.dMtL_eq, Dn.iSeq_lst, Dn.iSeq_tup, Dn.sSeq_eq, Dn.startE, List.set_cons_zero, List.set_cons_succ, List.map_cons, List.map_nil, List.length_cons, List.length_nil, List.cons_append, List.nil_append, List.append_nil, List.replicate_succ, List.replicate_zero, if_true, if_false, ite_true, ite_false, Bool.false_eq_true, decide_true, decide_false, Nat.reduceSub, Nat.reduceAdd, Nat.reduceLeDiff, Bool.not_true, Bool.not_false, reduceIte, reduceCtorEq, Nat.zero_add, Nat.add_zero, B__law_draws, z0, z1, z2, sFor_eq, i1, e]
end Cm

set_option maxHeartbeats 1000000
namespace Cm
open PySem PySem.Spec PyProof.Rows L2 Dn Mt
/-! ### the law's own walk: parts by places -/
def kidsD (c m : Nat) : List D := (List.range m).map fun (i : Nat) => D.int (((c + i : Nat)) : Int)
def rowB (c : Nat) : Tre → D
  | .leaf i => .tup [.non, .int (i : Nat)]
  | .node k ts => .tup [.str k, .lst (kidsD c ts.length)]
structure PathAt (line : List Tre) (rows : List D) (i : Nat) (T : Tre) : Prop where
  ex : ∃ c, rows[i]? = some (rowB c T) ∧ i < c ∧ ∀ (j : Nat) (t : Tre), T.kids[j]? = some t → line[c + j]? = some t
def Paths (line : List Tre) (rows : List D) : Prop := rows.length ≤ line.length ∧ ∀ (i : Nat) (T : Tre), i < rows.length → line[i]? = some T → PathAt line rows i T
theorem PathAt.grow {line more : List Tre} {rows x : List D} {i : Nat} {T : Tre} (h : PathAt line rows i T) : PathAt (line ++ more) (rows ++ x) i T := by
  obtain ⟨c, h1, h2, h3⟩ := h.ex
  refine ⟨c, ?_, h2, fun j t e => ?_⟩
  · rw [List.getElem?_append_left (List.getElem?_eq_some_iff.mp h1).1]; exact h1
  · have := h3 j t e
    rw [List.getElem?_append_left (List.getElem?_eq_some_iff.mp this).1]
    exact this
theorem paths_step {line : List Tre} {rows : List D} {T : Tre} (h : Paths line rows) (hT : line[rows.length]? = some T) : Paths (line ++ T.kids) (rows ++ [rowB line.length T]) := by
  have hlt := (List.getElem?_eq_some_iff.mp hT).1
  refine ⟨by simp; omega, fun i U hi hU => ?_⟩
  rw [List.length_append, List.length_singleton] at hi
  by_cases e : i < rows.length
  · rw [List.getElem?_append_left (by omega)] at hU
    exact (h.2 i U e hU).grow
  · have : i = rows.length := by omega
    subst this
    rw [List.getElem?_append_left hlt, hT] at hU
    cases hU
    refine ⟨line.length, by simp, hlt, fun j t e => ?_⟩
    rw [List.getElem?_append_right (by omega), Nat.add_sub_cancel_left]
    exact e
theorem rgD_kids {c m : Nat} : rgD (c : Int) ((c : Int) + (m : Int)) = kidsD c m := by
  unfold rgD kidsD
  have : ((c : Int) + (m : Int) - (c : Int)).toNat = m := by omega
  rw [this]
  refine List.map_congr_left fun i _ => ?_
  rw [Int.natCast_add]
theorem rgD_zero {m : Nat} : rgD 0 (m : Nat) = kidsD 0 m := by
  unfold rgD kidsD
  have : ((m : Int) - 0).toNat = m := by omega
  rw [this]
  refine List.map_congr_left fun i _ => ?_
  simp
theorem rgOk_of {a b : Int} (h0 : 0 ≤ a) (h1 : a ≤ 1000000) (h2 : 0 ≤ b) (h3 : b ≤ 1000000) : rgOk a b = true := decide_eq_true ⟨by omega, by omega, by omega, by omega, by omega⟩
theorem isi_is {S : Store} {xs : List D} : gIsi "int" [.tup xs] S = .ok (.bl false) S := isi_it
noncomputable def paB : DenS := (sSeq (sIf (xOf (dBin (gEq false) (dVar 3) (dApp gLen (aCons (dVar 1) (aNil))))) (sBrk) (sNext)) (sSeq (sSet 4 (dBin gIdx (dVar 1) (dVar 3))) (sIf (xOf (dApp (gIsi "int") (aCons (dVar 4) aNil))) (sDrop (dMtL gAppend (dVar 2) (aCons (dTup (aCons (dC .non) (aCons (dVar 4) (aNil)))) (aNil)))) (sSeq (sDrop (dMtL gAppend (dVar 2) (aCons (dTup (aCons (dBin gIdx (dVar 4) (dC (.int 0))) (aCons (dLrg2 (dApp gLen (aCons (dVar 1) (aNil))) (dBin gAdd (dApp gLen (aCons (dVar 1) (aNil))) (dApp gLen (aCons (dBin gIdx (dVar 4) (dC (.int 1))) (aNil))))) (aNil)))) (aNil)))) (sSet 1 (dBin gAdd (dVar 1) (dApp gList (aCons (dBin gIdx (dVar 4) (dC (.int 1))) (aNil)))))))))
theorem paths_body : B__law_paths = sSeq (sPar 1 2 (dLst (aCons (dVar 0) (aNil))) (nLst (aNil))) (sSeq (sFor (iRange1 (dC (.int 60))) (.nm 3) [3, 4] paB) (sRet (dVar 2))) := rfl
def paE (t : D) (line : List Tre) (n : Nat) : Dn.Env := [some t, some (.lst (line.map Tre.val)), some (.ref n), none, none]
theorem pa_turn {t : D} {line : List Tre} {rows : List D} {T : Tre} {S : List O} (hT : line[rows.length]? = some T) (hl : line.length + T.kids.length < 1000) :
    ∃ x, paB [some t, some (.lst (line.map Tre.val)), some (.ref S.length), some (.int (rows.length : Nat)), none] (S ++ [.lst rows]) = .nx [some t, some (.lst ((line ++ T.kids).map Tre.val)), some (.ref S.length), some (.int (rows.length : Nat)), some x] (S ++ [.lst (rows ++ [rowB line.length T])]) := by
  have hlt := (List.getElem?_eq_some_iff.mp hT).1
  have d1 : decide (((rows.length : Nat) : Int) = ((line.map Tre.val).length : Nat)) = false := decide_eq_false (by rw [List.length_map]; omega)
  have g1 : ∀ S, gIdx (.lst (line.map Tre.val)) (.int (rows.length : Nat)) S = .ok T.val S := fun S => gIdx_of rfl (by rw [List.getElem?_map, hT]; rfl)
  have g0 : asL (S ++ [O.lst rows]) (.ref S.length) = some rows := asL_ref get_last
  have z2 : (2 : Nat) ≤ sizeLine := small_line (by omega)
  cases T with
  | leaf i =>
    have nv : (Tre.leaf i).val = .int (i : Nat) := by rw [Tre.val]
    have g2 : gAppend (.ref S.length) [.tup [.non, .int (i : Nat)]] (S ++ [.lst rows]) = .ok .non (S ++ [.lst (rows ++ [rowB line.length (.leaf i)])]) := by
      rw [gAppend_of get_last (small_lt (by omega)), set_last]; rfl
    have kd : (Tre.leaf i).kids = [] := rfl
    refine ⟨.int (i : Nat), ?_⟩
    rw [nv] at g1
    rw [kd, List.append_nil]
    simp -implicitDefEqProofs only [Dn.rbind_ok, Dn.rbind_bad, Dn.rbind_exc, Dn.obind_ok, Dn.obind_bad, Dn.nox_ok, Dn.dVar_zero, Dn.dVar_succ, Dn.dC_eq, Dn.dUn_eq, Dn.dBin_eq, Dn.dBl_eq, Dn.xOf_eq, Dn.xAnd_eq, Dn.xOr_eq, Dn.xNot_eq, Dn.xYes_eq, Dn.dAnd_eq, Dn.dOr_eq, Dn.dNot_eq, Dn.dIf_eq, Dn.aNil_eq, Dn.aCons_eq, Dn.dApp_eq, Dn.dTup_eq, Dn.dLst_eq, Dn.nLst_eq, Dn.dCall_eq, Dn.dChain_eq, Dn.sSet_eq, Dn.sRet_eq, Dn.sRetN_eq, Dn.sDrop_eq, Dn.sIf_eq, Dn.sNext_eq, Dn.sBrk_eq, Dn.sCnt_eq, Dn.sPar_eq, Dn.sPar3_eq, Dn.sAsg_eq, Dn.tset_nm, Dn.tset_tp, Dn.tsets_nil, Dn.tsets_cons, Dn.grd_none, Dn.wipeE_nil, Dn.wipeE_cons, Dn.gEq_int, Dn.gIsN_non, Dn.gIsN_int, Dn.gIsN_str, Dn.gIsN_tup, Dn.gIsN_bl, Dn.gIsN_ib, Dn.gIsN_nb, Dn.gIsN_sb, Dn.gIsN_tb, Dn.gAdd_int, Dn.gAugAdd_int, Dn.gSubI_int, Dn.gLt_int, Dn.gLe_int, Dn.gGt_int, Dn.gGe_int, Dn.gNeg_int, Dn.gAbs_int, Dn.gInt_int, Dn.gMax2_int, Dn.gMin2_int, Dn.asQ_tup, Dn.asQ_lst, Dn.asL_lst, Dn.gIdx_tup0, Dn.gIdx_tup1, Dn.gIdx_tup2, Dn.gLen_tup, Dn.gLen_lst, Dn.gLen_rol, Dn.gTuple_tup, Dn.gTuple_lst, Dn.gList_tup, Dn.gList_lst, Dn.sSetI_eq, Dn.dMtL_eq, Dn.iSeq_lst, Dn.iSeq_tup, Dn.sSeq_eq, Dn.startE, List.set_cons_zero, List.set_cons_succ, List.map_cons, List.map_nil, List.length_cons, List.length_nil, List.cons_append, List.nil_append, List.append_nil, List.replicate_succ, List.replicate_zero, if_true, if_false, ite_true, ite_false, Bool.false_eq_true, decide_true, decide_false, Nat.reduceSub, Nat.reduceAdd, Nat.reduceLeDiff, Bool.not_true, Bool.not_false, reduceIte, reduceCtorEq, Nat.zero_add, Nat.add_zero, paB, d1, g1, isi_ii, g0, z2, g2]
  | node k ts =>
    have nv : (Tre.node k ts).val = .tup [.str k, .tup (Tre.vals ts)] := by rw [Tre.val]
    have kd : (Tre.node k ts).kids = ts := rfl
    rw [kd] at hl ⊢
    have g2 : gAppend (.ref S.length) [.tup [.str k, .lst (kidsD line.length ts.length)]] (S ++ [.lst rows]) = .ok .non (S ++ [.lst (rows ++ [rowB line.length (.node k ts)])]) := by
      rw [gAppend_of get_last (small_lt (by omega)), set_last]; rfl
    have vl : (Tre.vals ts).length = ts.length := Tre.vals_len ts
    have g3 : lrg ((line.map Tre.val).length : Nat) (((line.map Tre.val).length : Int) + ((Tre.vals ts).length : Nat)) (S ++ [.lst rows]) = .ok (.lst (kidsD line.length ts.length)) (S ++ [.lst rows]) := by
      unfold lrg
      rw [List.length_map, vl, if_pos (rgOk_of (by omega) (by omega) (by omega) (by omega)), rgD_kids]
    have g4 : dLrg2 (dApp gLen (aCons (dVar 1) (aNil))) (dBin gAdd (dApp gLen (aCons (dVar 1) (aNil))) (dApp gLen (aCons (dBin gIdx (dVar 4) (dC (.int 1))) (aNil)))) [some t, some (.lst (line.map Tre.val)), some (.ref S.length), some (.int (rows.length : Nat)), some (.tup [.str k, .tup (Tre.vals ts)])] (S ++ [.lst rows]) = .ok (.lst (kidsD line.length ts.length)) (S ++ [.lst rows]) := by
      unfold dLrg2
      simp -implicitDefEqProofs only [Dn.rbind_ok, Dn.rbind_bad, Dn.rbind_exc, Dn.obind_ok, Dn.obind_bad, Dn.nox_ok, Dn.dVar_zero, Dn.dVar_succ, Dn.dC_eq, Dn.dUn_eq, Dn.dBin_eq, Dn.dBl_eq, Dn.xOf_eq, Dn.xAnd_eq, Dn.xOr_eq, Dn.xNot_eq, Dn.xYes_eq, Dn.dAnd_eq, Dn.dOr_eq, Dn.dNot_eq, Dn.dIf_eq, Dn.aNil_eq, Dn.aCons_eq, Dn.dApp_eq, Dn.dTup_eq, Dn.dLst_eq, Dn.nLst_eq, Dn.dCall_eq, Dn.dChain_eq, Dn.sSet_eq, Dn.sRet_eq, Dn.sRetN_eq, Dn.sDrop_eq, Dn.sIf_eq, Dn.sNext_eq, Dn.sBrk_eq, Dn.sCnt_eq, Dn.sPar_eq, Dn.sPar3_eq, Dn.sAsg_eq, Dn.tset_nm, Dn.tset_tp, Dn.tsets_nil, Dn.tsets_cons, Dn.grd_none, Dn.wipeE_nil, Dn.wipeE_cons, Dn.gEq_int, Dn.gIsN_non, Dn.gIsN_int, Dn.gIsN_str, Dn.gIsN_tup, Dn.gIsN_bl, Dn.gIsN_ib, Dn.gIsN_nb, Dn.gIsN_sb, Dn.gIsN_tb, Dn.gAdd_int, Dn.gAugAdd_int, Dn.gSubI_int, Dn.gLt_int, Dn.gLe_int, Dn.gGt_int, Dn.gGe_int, Dn.gNeg_int, Dn.gAbs_int, Dn.gInt_int, Dn.gMax2_int, Dn.gMin2_int, Dn.asQ_tup, Dn.asQ_lst, Dn.asL_lst, Dn.gIdx_tup0, Dn.gIdx_tup1, Dn.gIdx_tup2, Dn.gLen_tup, Dn.gLen_lst, Dn.gLen_rol, Dn.gTuple_tup, Dn.gTuple_lst, Dn.gList_tup, Dn.gList_lst, Dn.sSetI_eq, Dn.dMtL_eq, Dn.iSeq_lst, Dn.iSeq_tup, Dn.sSeq_eq, Dn.startE, List.set_cons_zero, List.set_cons_succ, List.map_cons, List.map_nil, List.length_cons, List.length_nil, List.cons_append, List.nil_append, List.append_nil, List.replicate_succ, List.replicate_zero, if_true, if_false, ite_true, ite_false, Bool.false_eq_true, decide_true, decide_false, Nat.reduceSub, Nat.reduceAdd, Nat.reduceLeDiff, Bool.not_true, Bool.not_false, reduceIte, reduceCtorEq, Nat.zero_add, Nat.add_zero]
      exact g3
    have g5 : ∀ S, gAdd (.lst (line.map Tre.val)) (.lst (Tre.vals ts)) S = .ok (.lst ((line ++ ts).map Tre.val)) S := fun S => by
      rw [gAdd_lst (small_line (by rw [List.length_map, vl]; omega)), List.map_append, Tre.vals_eq]
    refine ⟨.tup [.str k, .tup (Tre.vals ts)], ?_⟩
    rw [nv] at g1
    simp -implicitDefEqProofs only [Dn.rbind_ok, Dn.rbind_bad, Dn.rbind_exc, Dn.obind_ok, Dn.obind_bad, Dn.nox_ok, Dn.dVar_zero, Dn.dVar_succ, Dn.dC_eq, Dn.dUn_eq, Dn.dBin_eq, Dn.dBl_eq, Dn.xOf_eq, Dn.xAnd_eq, Dn.xOr_eq, Dn.xNot_eq, Dn.xYes_eq, Dn.dAnd_eq, Dn.dOr_eq, Dn.dNot_eq, Dn.dIf_eq, Dn.aNil_eq, Dn.aCons_eq, Dn.dApp_eq, Dn.dTup_eq, Dn.dLst_eq, Dn.nLst_eq, Dn.dCall_eq, Dn.dChain_eq, Dn.sSet_eq, Dn.sRet_eq, Dn.sRetN_eq, Dn.sDrop_eq, Dn.sIf_eq, Dn.sNext_eq, Dn.sBrk_eq, Dn.sCnt_eq, Dn.sPar_eq, Dn.sPar3_eq, Dn.sAsg_eq, Dn.tset_nm, Dn.tset_tp, Dn.tsets_nil, Dn.tsets_cons, Dn.grd_none, Dn.wipeE_nil, Dn.wipeE_cons, Dn.gEq_int, Dn.gIsN_non, Dn.gIsN_int, Dn.gIsN_str, Dn.gIsN_tup, Dn.gIsN_bl, Dn.gIsN_ib, Dn.gIsN_nb, Dn.gIsN_sb, Dn.gIsN_tb, Dn.gAdd_int, Dn.gAugAdd_int, Dn.gSubI_int, Dn.gLt_int, Dn.gLe_int, Dn.gGt_int, Dn.gGe_int, Dn.gNeg_int, Dn.gAbs_int, Dn.gInt_int, Dn.gMax2_int, Dn.gMin2_int, Dn.asQ_tup, Dn.asQ_lst, Dn.asL_lst, Dn.gIdx_tup0, Dn.gIdx_tup1, Dn.gIdx_tup2, Dn.gLen_tup, Dn.gLen_lst, Dn.gLen_rol, Dn.gTuple_tup, Dn.gTuple_lst, Dn.gList_tup, Dn.gList_lst, Dn.sSetI_eq, Dn.dMtL_eq, Dn.iSeq_lst, Dn.iSeq_tup, Dn.sSeq_eq, Dn.startE, List.set_cons_zero, List.set_cons_succ, List.map_cons, List.map_nil, List.length_cons, List.length_nil, List.cons_append, List.nil_append, List.append_nil, List.replicate_succ, List.replicate_zero, if_true, if_false, ite_true, ite_false, Bool.false_eq_true, decide_true, decide_false, Nat.reduceSub, Nat.reduceAdd, Nat.reduceLeDiff, Bool.not_true, Bool.not_false, reduceIte, reduceCtorEq, Nat.zero_add, Nat.add_zero, paB, d1, g1, isi_it, g0, z2, g4, g2, g5]
theorem sizes_drop {line : List Tre} {i : Nat} {T : Tre} (h : line[i]? = some T) (more : List Tre) : Tre.sizes (line.drop i) + Tre.sizes more = T.size + Tre.sizes ((line ++ more).drop (i + 1)) := by
  obtain ⟨hi, rfl⟩ := List.getElem?_eq_some_iff.mp h
  rw [List.drop_append_of_le_length (by omega), List.drop_eq_getElem_cons hi, Tre.sizes, Tre.sizes_app, Nat.add_assoc]
theorem ev_paths {T : Tre} {S : List O} {Q : Tre → Prop} (hs : T.size < 60) (hT : Q T) (hQ : ∀ U, Q U → ∀ V ∈ U.kids, Q V) : ∃ line rows, F__law_paths [T.val] S = .ok (.lst rows) S ∧ Paths line rows ∧ rows.length = line.length ∧ line[0]? = some T ∧ rows.length < 60 ∧ pureDs rows = true ∧ ∀ U ∈ line, Q U := by
  have lenR : (rangeL 0 60).length = 60 := by unfold rangeL; rw [List.length_map, List.length_range]
  obtain ⟨ρ', S', e, line, rows, rfl, rfl, hp, hl, h0, hsz, hpu, hqq⟩ := forD_brk (t := .nm 3) (dead := [3, 4]) (body := paB)
    (fun done ρ S' => ∃ line rows, ρ = paE T.val line S.length ∧ S' = S ++ [.lst rows] ∧ Paths line rows ∧ rows.length = done.length ∧ line[0]? = some T ∧ Tre.sizes (line.drop rows.length) + rows.length = T.size ∧ line.length ≤ T.size ∧ pureDs rows = true ∧ ∀ U ∈ line, Q U)
    (fun ρ S' => ∃ line rows, ρ = paE T.val line S.length ∧ S' = S ++ [.lst rows] ∧ Paths line rows ∧ rows.length = line.length ∧ line[0]? = some T ∧ rows.length < 60 ∧ pureDs rows = true ∧ ∀ U ∈ line, Q U)
    (rangeL 0 60) [] (paE T.val [T] S.length) (S ++ [.lst []])
    ⟨[T], [], rfl, rfl, ⟨by simp, by simp⟩, rfl, rfl, by rw [List.length_nil, List.drop_zero, Tre.sizes, Tre.sizes]; rfl, by simp; exact T.size_pos, rfl, by simpa using hT⟩ (by
      rintro d x r ρ S1 ⟨line, rows, rfl, rfl, hp, hr, h0, hz, hll, hpu, hqq⟩ he
      have hx : x = .int (rows.length : Nat) := by
        have := congrArg (fun l => l[d.length]?) he
        simp only [List.nil_append] at this
        rw [List.getElem?_append_right (Nat.le_refl _), Nat.sub_self] at this
        unfold rangeL at this
        rw [List.getElem?_map, List.getElem?_range (by
          have := congrArg List.length he
          rw [List.nil_append, lenR] at this
          simp at this
          omega)] at this
        simp only [List.getElem?_cons_zero, Option.map_some, Option.some.injEq, Int.zero_add] at this
        rw [this, hr]
      subst hx
      have tE : tset (.nm 3) (.int (rows.length : Nat)) (paE T.val line S.length) = some [some T.val, some (.lst (line.map Tre.val)), some (.ref S.length), some (.int (rows.length : Nat)), none] := tset_nm
      by_cases hb : rows.length = line.length
      · refine ⟨_, [some T.val, some (.lst (line.map Tre.val)), some (.ref S.length), some (.int (rows.length : Nat)), none], _, tE, .inr ⟨?_, line, rows, rfl, rfl, hp, hb, h0, by
          have := congrArg List.length he
          rw [List.nil_append, lenR] at this
          simp at this
          omega, hpu, hqq⟩⟩
        have d1 : decide (((rows.length : Nat) : Int) = ((line.map Tre.val).length : Nat)) = true := decide_eq_true (by rw [List.length_map]; omega)
        simp -implicitDefEqProofs only [Dn.rbind_ok, Dn.rbind_bad, Dn.rbind_exc, Dn.obind_ok, Dn.obind_bad, Dn.nox_ok, Dn.dVar_zero, Dn.dVar_succ, Dn.dC_eq, Dn.dUn_eq, Dn.dBin_eq, Dn.dBl_eq, Dn.xOf_eq, Dn.xAnd_eq, Dn.xOr_eq, Dn.xNot_eq, Dn.xYes_eq, Dn.dAnd_eq, Dn.dOr_eq, Dn.dNot_eq, Dn.dIf_eq, Dn.aNil_eq, Dn.aCons_eq, Dn.dApp_eq, Dn.dTup_eq, Dn.dLst_eq, Dn.nLst_eq, Dn.dCall_eq, Dn.dChain_eq, Dn.sSet_eq, Dn.sRet_eq, Dn.sRetN_eq, Dn.sDrop_eq, Dn.sIf_eq, Dn.sNext_eq, Dn.sBrk_eq, Dn.sCnt_eq, Dn.sPar_eq, Dn.sPar3_eq, Dn.sAsg_eq, Dn.tset_nm, Dn.tset_tp, Dn.tsets_nil, Dn.tsets_cons, Dn.grd_none, Dn.wipeE_nil, Dn.wipeE_cons, Dn.gEq_int, Dn.gIsN_non, Dn.gIsN_int, Dn.gIsN_str, Dn.gIsN_tup, Dn.gIsN_bl, Dn.gIsN_ib, Dn.gIsN_nb, Dn.gIsN_sb, Dn.gIsN_tb, Dn.gAdd_int, Dn.gAugAdd_int, Dn.gSubI_int, Dn.gLt_int, Dn.gLe_int, Dn.gGt_int, Dn.gGe_int, Dn.gNeg_int, Dn.gAbs_int, Dn.gInt_int, Dn.gMax2_int, Dn.gMin2_int, Dn.asQ_tup, Dn.asQ_lst, Dn.asL_lst, Dn.gIdx_tup0, Dn.gIdx_tup1, Dn.gIdx_tup2, Dn.gLen_tup, Dn.gLen_lst, Dn.gLen_rol, Dn.gTuple_tup, Dn.gTuple_lst, Dn.gList_tup, Dn.gList_lst, Dn.sSetI_eq, Dn.dMtL_eq, Dn.iSeq_lst, Dn.iSeq_tup, Dn.sSeq_eq, Dn.startE, List.set_cons_zero, List.set_cons_succ, List.map_cons, List.map_nil, List.length_cons, List.length_nil, List.cons_append, List.nil_append, List.append_nil, List.replicate_succ, List.replicate_zero, if_true, if_false, ite_true, ite_false, Bool.false_eq_true, decide_true, decide_false, Nat.reduceSub, Nat.reduceAdd, Nat.reduceLeDiff, Bool.not_true, Bool.not_false, reduceIte, reduceCtorEq, Nat.zero_add, Nat.add_zero, paB, d1]
      · have hlt : rows.length < line.length := by have := hp.1; omega
        have hU := List.getElem?_eq_getElem hlt
        have qU := hqq _ (List.getElem_mem hlt)
        generalize line[rows.length] = U at hU qU
        have hdrop := sizes_drop hU U.kids
        have hus : U.size = Tre.sizes U.kids + 1 := by
          cases U with
          | leaf i => rw [Tre.kids, Tre.size, Tre.sizes]
          | node k ts => rw [Tre.kids, Tre.size]
        have hkl : ∀ qs : List Tre, qs.length ≤ Tre.sizes qs := by
          intro qs
          induction qs with
          | nil => simp
          | cons q qs ih => rw [Tre.sizes, List.length_cons]; have := q.size_pos; omega
        have hk1 := hkl ((line ++ U.kids).drop (rows.length + 1))
        rw [List.length_drop, List.length_append] at hk1
        have hll2 : (line ++ U.kids).length ≤ T.size := by rw [List.length_append]; omega
        obtain ⟨x, e1⟩ := pa_turn (t := T.val) (S := S) hU (by rw [List.length_append] at hll2; omega)
        refine ⟨_, _, _, tE, .inl ⟨e1, line ++ U.kids, rows ++ [rowB line.length U], rfl, rfl, paths_step hp hU, by simp [hr], ?_, ?_, hll2, ?_, fun V hV => (List.mem_append.mp hV).elim (hqq V) (hQ U qU V)⟩⟩
        · have h0l := (List.getElem?_eq_some_iff.mp h0).1
          rw [List.getElem?_append_left h0l]; exact h0
        · rw [List.length_append, List.length_singleton]
          omega
        · refine pures_iff.mpr fun y hy => ?_
          rcases List.mem_append.mp hy with hy | hy
          · exact pures_iff.mp hpu y hy
          · rw [List.mem_singleton.mp hy]
            cases U with
            | leaf i => rfl
            | node k ts =>
              have : pureDs (kidsD line.length ts.length) = true := pures_iff.mpr fun z hz => by
                unfold kidsD at hz
                obtain ⟨i, _, rfl⟩ := List.mem_map.mp hz
                rfl
              simp [rowB, pureD, pureDs, this])
    (by
      rintro ρ S1 ⟨line, rows, rfl, rfl, hp, hr, h0, hz, hll, hpu, hqq⟩
      rw [List.nil_append, lenR] at hr
      omega)
  refine ⟨line, rows, ?_, hp, hl, h0, hsz, hpu, hqq⟩
  have z0 : (0 : Nat) ≤ sizeLine := Nat.zero_le _
  have z1 : (1 : Nat) ≤ sizeLine := small_line (by omega)
  have i1 : ∀ (ρ : Dn.Env) (S : Store), iRange1 (dC (.int 60)) ρ S = .ok ⟨rangeL 0 60, none⟩ S := fun ρ S => iRange1_of (k := 60) rfl (by omega)
  refine def_end (S2 := S ++ [.lst rows]) (d := .ref S.length) rfl ?_ (frz_ref (n := S.length) get_last (by omega) (lows_pure _ _ hpu)) (fun i o hi ho => .inl (by rwa [List.getElem?_append_left hi] at ho)) (by simp)
  rw [paths_body]
  have e' : forD (.nm 3) [3, 4] paB none (rangeL 0 60) [some T.val, some (.lst [T.val]), some (.ref S.length), none, none] (S ++ [.lst []]) = .nx (paE T.val line S.length) (S ++ [.lst rows]) := e
  unfold paE at e'
  simp -implicitDefEqProofs only [Dn.rbind_ok, Dn.rbind_bad, Dn.rbind_exc, Dn.obind_ok, Dn.obind_bad, Dn.nox_ok, Dn.dVar_zero, Dn.dVar_succ, Dn.dC_eq, Dn.dUn_eq, Dn.dBin_eq, Dn.dBl_eq, Dn.xOf_eq, Dn.xAnd_eq, Dn.xOr_eq, Dn.xNot_eq, Dn.xYes_eq, Dn.dAnd_eq, Dn.dOr_eq, Dn.dNot_eq, Dn.dIf_eq, Dn.aNil_eq, Dn.aCons_eq, Dn.dApp_eq, Dn.dTup_eq, Dn.dLst_eq, Dn.nLst_eq, Dn.dCall_eq, Dn.dChain_eq, Dn.sSet_eq, Dn.sRet_eq, Dn.sRetN_eq, Dn.sDrop_eq, Dn.sIf_eq, Dn.sNext_eq, Dn.sBrk_eq, Dn.sCnt_eq, Dn.sPar_eq, Dn.sPar3_eq, Dn.sAsg_eq, Dn.tset_nm, Dn.tset_tp, Dn.tsets_nil, Dn.tsets_cons, Dn.grd_none, Dn.wipeE_nil, Dn.wipeE_cons, Dn.gEq_int, Dn.gIsN_non, Dn.gIsN_int, Dn.gIsN_str, Dn.gIsN_tup, Dn.gIsN_bl, Dn.gIsN_ib, Dn.gIsN_nb, Dn.gIsN_sb, Dn.gIsN_tb, Dn.gAdd_int, Dn.gAugAdd_int, Dn.gSubI_int, Dn.gLt_int, Dn.gLe_int, Dn.gGt_int, Dn.gGe_int, Dn.gNeg_int, Dn.gAbs_int, Dn.gInt_int, Dn.gMax2_int, Dn.gMin2_int, Dn.asQ_tup, Dn.asQ_lst, Dn.asL_lst, Dn.gIdx_tup0, Dn.gIdx_tup1, Dn.gIdx_tup2, Dn.gLen_tup, Dn.gLen_lst, Dn.gLen_rol, Dn.gTuple_tup, Dn.gTuple_lst, Dn.gList_tup, Dn.gList_lst, Dn.sSetI_eq, Dn.dMtL_eq, Dn.iSeq_lst, Dn.iSeq_tup, Dn.sSeq_eq, Dn.startE, List.set_cons_zero, List.set_cons_succ, List.map_cons, List.map_nil, List.length_cons, List.length_nil, List.cons_append, List.nil_append, List.append_nil, List.replicate_succ, List.replicate_zero, if_true, if_false, ite_true, ite_false, Bool.false_eq_true, decide_true, decide_false, Nat.reduceSub, Nat.reduceAdd, Nat.reduceLeDiff, Bool.not_true, Bool.not_false, reduceIte, reduceCtorEq, Nat.zero_add, Nat.add_zero, z0, z1, sFor_eq, i1, e']
end Cm

set_option maxHeartbeats 1000000
namespace Cm
open PySem PySem.Spec PyProof.Rows L2 Dn Mt
def sgN (w : List Nat) : Nat → Nat := fun i => w.getD i 0
noncomputable def nrB : DenS := (sSeq (sAsg (.tp [.nm 5, .nm 6]) (dBin gIdx (dVar 2) (dVar 4))) (sIf (xOf (dBin (gIsN false) (dVar 5) (dC .non))) (sSetI (dVar 3) (dVar 4) (dBin gIdx (dVar 1) (dVar 6))) (sSeq (sSet 7 (dLc (iSeq (dVar 6)) [9] (.nm 9) (xYes) (dBin gIdx (dVar 3) (dVar 9)))) (sSetI (dVar 3) (dVar 4) (dIf (xOf (dBin (gEq false) (dVar 5) (dC (.str "row")))) (dApp gMinA (aCons (dVar 7) (aNil))) (dApp gSum (aCons (dVar 7) (aNil))))))))
theorem narrow_body : B__law_narrow = sSeq (sSet 2 (dCall F__law_paths [] (aCons (dVar 0) (aNil)))) (sSeq (sSet 3 (nLc (iSeq (dVar 2)) [8] (.nm 8) (xYes) (dC (.int 0)))) (sSeq (sFor (iRev (dLrg1 (dApp gLen (aCons (dVar 2) (aNil))))) (.nm 4) [4, 5, 6, 7] nrB) (sRet (dBin gIdx (dVar 3) (dC (.int 0)))))) := rfl
def evI (w : List Nat) (t : Tre) : Int := ((Tre.ev opN (sgN w) t : Nat) : Int)
theorem evf_row {w : List Nat} : ∀ (us : List Tre) (a : Nat), (us.map (evI w)).foldl min (a : Int) = ((Tre.evf opN (sgN w) "row" a us : Nat) : Int)
  | [], a => by rw [Tre.evf]; rfl
  | u :: us, a => by
    rw [List.map_cons, List.foldl_cons, Tre.evf]
    have : min (a : Int) (evI w u) = ((opN "row" a (Tre.ev opN (sgN w) u) : Nat) : Int) := by
      have h : opN "row" a (Tre.ev opN (sgN w) u) = min a (Tre.ev opN (sgN w) u) := if_pos rfl
      rw [h]
      unfold evI
      omega
    rw [this, evf_row us]
theorem evf_side {w : List Nat} : ∀ (us : List Tre) (a : Nat), (a : Int) + (us.map (evI w)).sum = ((Tre.evf opN (sgN w) "side" a us : Nat) : Int)
  | [], a => by rw [Tre.evf]; simp
  | u :: us, a => by
    rw [List.map_cons, List.sum_cons, Tre.evf, ← evf_side us]
    have : opN "side" a (Tre.ev opN (sgN w) u) = a + Tre.ev opN (sgN w) u := if_neg ne_side_row
    rw [this, Int.natCast_add]
    unfold evI
    omega
theorem gSum_of {is : List Int} {S : Store} : gSum [.lst (is.map D.int)] S = .ok (.int is.sum) S := by
  show (match unInts (is.map D.int) with
      | some is => match (some (D.int is.sum) : Option D) with
        | some r => Res.ok r S
        | none => .bad
      | none => .bad) = _
  rw [unInts_map]
theorem nr_turn {t : D} {w : List Nat} {line : List Tre} {rows told : List D} {S : List O} {i n : Nat} {U : Tre} (hp : PathAt line rows i U) (hok : U.ok w.length) (hn : n = S.length) (hi : i < told.length)
    (hk : ∀ (j : Nat) (V : Tre), i < j → line[j]? = some V → told[j]? = some (.int (evI w V))) :
    ∃ x5 x6 x7, nrB [some t, some (.tup (w.map fun (j : Nat) => D.int (j : Nat))), some (.lst rows), some (.ref n), some (.int (i : Nat)), none, none, none, none, none] (S ++ [.lst told])
      = .nx [some t, some (.tup (w.map fun (j : Nat) => D.int (j : Nat))), some (.lst rows), some (.ref n), some (.int (i : Nat)), x5, x6, x7, none, none] (S ++ [.lst (told.set i (.int (evI w U)))]) := by
  subst hn
  obtain ⟨c, h1, h2, h3⟩ := hp.ex
  have g1 : ∀ S, gIdx (.lst rows) (.int (i : Nat)) S = .ok (rowB c U) S := fun S => gIdx_of rfl h1
  have g4 : ∀ (z : D) (ρ : Dn.Env), setL (.ref S.length) (.int (i : Nat)) z ρ (S ++ [.lst told]) = .nx ρ (S ++ [.lst (told.set i z)]) := fun z ρ => by
    rw [setL_of get_last hi, set_last]
  cases U with
  | leaf a =>
    rw [Tre.ok] at hok
    have ev1 : evI w (.leaf a) = ((w[a] : Nat) : Int) := by
      unfold evI
      rw [Tre.ev]
      unfold sgN
      rw [List.getD_eq_getElem?_getD, List.getElem?_eq_getElem hok]
      rfl
    have g2 : ∀ S, gIdx (.tup (w.map fun (j : Nat) => D.int (j : Nat))) (.int (a : Nat)) S = .ok (.int (evI w (.leaf a))) S := fun S => gIdx_of rfl (by rw [List.getElem?_map, List.getElem?_eq_getElem hok, ev1]; rfl)
    refine ⟨some .non, some (.int (a : Nat)), none, ?_⟩
    replace g1 : ∀ S, gIdx (.lst rows) (.int (i : Nat)) S = .ok (.tup [.non, .int (a : Nat)]) S := g1
    simp -implicitDefEqProofs only [Dn.rbind_ok, Dn.rbind_bad, Dn.rbind_exc, Dn.obind_ok, Dn.obind_bad, Dn.nox_ok, Dn.dVar_zero, Dn.dVar_succ, Dn.dC_eq, Dn.dUn_eq, Dn.dBin_eq, Dn.dBl_eq, Dn.xOf_eq, Dn.xAnd_eq, Dn.xOr_eq, Dn.xNot_eq, Dn.xYes_eq, Dn.dAnd_eq, Dn.dOr_eq, Dn.dNot_eq, Dn.dIf_eq, Dn.aNil_eq, Dn.aCons_eq, Dn.dApp_eq, Dn.dTup_eq, Dn.dLst_eq, Dn.nLst_eq, Dn.dCall_eq, Dn.dChain_eq, Dn.sSet_eq, Dn.sRet_eq, Dn.sRetN_eq, Dn.sDrop_eq, Dn.sIf_eq, Dn.sNext_eq, Dn.sBrk_eq, Dn.sCnt_eq, Dn.sPar_eq, Dn.sPar3_eq, Dn.sAsg_eq, Dn.tset_nm, Dn.tset_tp, Dn.tsets_nil, Dn.tsets_cons, Dn.grd_none, Dn.wipeE_nil, Dn.wipeE_cons, Dn.gEq_int, Dn.gIsN_non, Dn.gIsN_int, Dn.gIsN_str, Dn.gIsN_tup, Dn.gIsN_bl, Dn.gIsN_ib, Dn.gIsN_nb, Dn.gIsN_sb, Dn.gIsN_tb, Dn.gAdd_int, Dn.gAugAdd_int, Dn.gSubI_int, Dn.gLt_int, Dn.gLe_int, Dn.gGt_int, Dn.gGe_int, Dn.gNeg_int, Dn.gAbs_int, Dn.gInt_int, Dn.gMax2_int, Dn.gMin2_int, Dn.asQ_tup, Dn.asQ_lst, Dn.asL_lst, Dn.gIdx_tup0, Dn.gIdx_tup1, Dn.gIdx_tup2, Dn.gLen_tup, Dn.gLen_lst, Dn.gLen_rol, Dn.gTuple_tup, Dn.gTuple_lst, Dn.gList_tup, Dn.gList_lst, Dn.sSetI_eq, Dn.dMtL_eq, Dn.iSeq_lst, Dn.iSeq_tup, Dn.sSeq_eq, Dn.startE, List.set_cons_zero, List.set_cons_succ, List.map_cons, List.map_nil, List.length_cons, List.length_nil, List.cons_append, List.nil_append, List.append_nil, List.replicate_succ, List.replicate_zero, if_true, if_false, ite_true, ite_false, Bool.false_eq_true, decide_true, decide_false, Nat.reduceSub, Nat.reduceAdd, Nat.reduceLeDiff, Bool.not_true, Bool.not_false, reduceIte, reduceCtorEq, Nat.zero_add, Nat.add_zero, nrB, g1, g2, g4]
  | node k ts =>
    rw [Tre.ok] at hok
    obtain ⟨hkk, hne, hoks⟩ := hok
    replace g1 : ∀ S, gIdx (.lst rows) (.int (i : Nat)) S = .ok (.tup [.str k, .lst (kidsD c ts.length)]) S := g1
    have lc : dLc (iSeq (dVar 6)) [9] (.nm 9) (xYes) (dBin gIdx (dVar 3) (dVar 9)) [some t, some (.tup (w.map fun (j : Nat) => D.int (j : Nat))), some (.lst rows), some (.ref S.length), some (.int (i : Nat)), some (.str k), some (.lst (kidsD c ts.length)), none, none, none] (S ++ [.lst told]) = .ok (.lst ((ts.map (evI w)).map D.int)) (S ++ [.lst told]) := by
      have i1 : iSeq (dVar 6) [some t, some (.tup (w.map fun (j : Nat) => D.int (j : Nat))), some (.lst rows), some (.ref S.length), some (.int (i : Nat)), some (.str k), some (.lst (kidsD c ts.length)), none, none, none] (S ++ [.lst told]) = .ok ⟨kidsD c ts.length, none⟩ (S ++ [.lst told]) := iSeq_lst rfl
      refine dLc_rel i1 (fun acc => trivial) ?_ (lows_pure _ _ (pure_ints _))
      have key : ∀ (us : List Tre) (b : Nat), (∀ (j : Nat) (V : Tre), us[j]? = some V → line[c + (b + j)]? = some V) → F2 (fun x y => ∀ acc : List D, ∃ ρ1, tset (.nm 9) x (wipeC [some t, some (.tup (w.map fun (j : Nat) => D.int (j : Nat))), some (.lst rows), some (.ref S.length), some (.int (i : Nat)), some (.str k), some (.lst (kidsD c ts.length)), none, none, none] [9]) = some ρ1 ∧ (dBin gIdx (dVar 3) (dVar 9)) ρ1 (S ++ [.lst told] ++ [.lst acc]) = .ok y (S ++ [.lst told] ++ [.lst acc]))
          ((List.range' b us.length).map fun (i : Nat) => D.int (((c + i : Nat)) : Int)) ((us.map (evI w)).map D.int) := by
        intro us
        induction us with
        | nil => intro b _; exact .nil
        | cons V us ih =>
          intro b h
          rw [List.length_cons, List.range'_succ, List.map_cons, List.map_cons, List.map_cons]
          refine .cons (fun acc => ⟨_, tset_nm, ?_⟩) (ih (b + 1) fun j W hW => by
            have := h (j + 1) W (by simpa using hW)
            rw [show c + (b + 1 + j) = c + (b + (j + 1)) by omega]
            exact this)
          have q0 := h 0 V rfl
          rw [Nat.add_zero] at q0
          have q1 := hk (c + b) V (by omega) q0
          have q2 : gIdx (.ref S.length) (.int ((c + b : Nat) : Int)) (S ++ [.lst told] ++ [.lst acc]) = .ok (.int (evI w V)) (S ++ [.lst told] ++ [.lst acc]) := gIdx_of (asQ_ref (by rw [List.getElem?_append_left (by simp)]; exact get_last)) q1
          simp -implicitDefEqProofs only [Dn.rbind_ok, Dn.rbind_bad, Dn.rbind_exc, Dn.obind_ok, Dn.obind_bad, Dn.nox_ok, Dn.dVar_zero, Dn.dVar_succ, Dn.dC_eq, Dn.dUn_eq, Dn.dBin_eq, Dn.dBl_eq, Dn.xOf_eq, Dn.xAnd_eq, Dn.xOr_eq, Dn.xNot_eq, Dn.xYes_eq, Dn.dAnd_eq, Dn.dOr_eq, Dn.dNot_eq, Dn.dIf_eq, Dn.aNil_eq, Dn.aCons_eq, Dn.dApp_eq, Dn.dTup_eq, Dn.dLst_eq, Dn.nLst_eq, Dn.dCall_eq, Dn.dChain_eq, Dn.sSet_eq, Dn.sRet_eq, Dn.sRetN_eq, Dn.sDrop_eq, Dn.sIf_eq, Dn.sNext_eq, Dn.sBrk_eq, Dn.sCnt_eq, Dn.sPar_eq, Dn.sPar3_eq, Dn.sAsg_eq, Dn.tset_nm, Dn.tset_tp, Dn.tsets_nil, Dn.tsets_cons, Dn.grd_none, Dn.wipeE_nil, Dn.wipeE_cons, Dn.gEq_int, Dn.gIsN_non, Dn.gIsN_int, Dn.gIsN_str, Dn.gIsN_tup, Dn.gIsN_bl, Dn.gIsN_ib, Dn.gIsN_nb, Dn.gIsN_sb, Dn.gIsN_tb, Dn.gAdd_int, Dn.gAugAdd_int, Dn.gSubI_int, Dn.gLt_int, Dn.gLe_int, Dn.gGt_int, Dn.gGe_int, Dn.gNeg_int, Dn.gAbs_int, Dn.gInt_int, Dn.gMax2_int, Dn.gMin2_int, Dn.asQ_tup, Dn.asQ_lst, Dn.asL_lst, Dn.gIdx_tup0, Dn.gIdx_tup1, Dn.gIdx_tup2, Dn.gLen_tup, Dn.gLen_lst, Dn.gLen_rol, Dn.gTuple_tup, Dn.gTuple_lst, Dn.gList_tup, Dn.gList_lst, Dn.sSetI_eq, Dn.dMtL_eq, Dn.iSeq_lst, Dn.iSeq_tup, Dn.sSeq_eq, Dn.startE, List.set_cons_zero, List.set_cons_succ, List.map_cons, List.map_nil, List.length_cons, List.length_nil, List.cons_append, List.nil_append, List.append_nil, List.replicate_succ, List.replicate_zero, if_true, if_false, ite_true, ite_false, Bool.false_eq_true, decide_true, decide_false, Nat.reduceSub, Nat.reduceAdd, Nat.reduceLeDiff, Bool.not_true, Bool.not_false, reduceIte, reduceCtorEq, Nat.zero_add, Nat.add_zero, wipeC, q2]
      have := key ts 0 (fun j V hV => by rw [Nat.zero_add]; exact h3 j V hV)
      have e : (List.range' 0 ts.length).map (fun (i : Nat) => D.int (((c + i : Nat)) : Int)) = kidsD c ts.length := by unfold kidsD; rw [List.range_eq_range']
      rw [e] at this
      exact this
    cases ts with
    | nil => exact absurd rfl hne
    | cons u us =>
      refine ⟨some (.str k), some (.lst (kidsD c (u :: us).length)), some (.lst (((u :: us).map (evI w)).map D.int)), ?_⟩
      rcases hkk with rfl | rfl
      · have e1 : gEq false (.str "row") (.str "row") (S ++ [.lst told]) = .ok (.bl true) (S ++ [.lst told]) := gEq_kind (.inl rfl)
        have e2 : gMinA [.lst (((u :: us).map (evI w)).map D.int)] (S ++ [.lst told]) = .ok (.int (evI w (.node "row" (u :: us)))) (S ++ [.lst told]) := by
          refine gMinA_of rfl ?_
          show some ((us.map (evI w)).foldl min (evI w u)) = _
          unfold evI
          rw [Tre.ev, Tre.evs, ← evf_row us]
          rfl
        generalize kidsD c (u :: us).length = K at lc g1 ⊢
        generalize ((u :: us).map (evI w)).map D.int = Wl at lc e2 ⊢
        simp -implicitDefEqProofs only [Dn.rbind_ok, Dn.rbind_bad, Dn.rbind_exc, Dn.obind_ok, Dn.obind_bad, Dn.nox_ok, Dn.dVar_zero, Dn.dVar_succ, Dn.dC_eq, Dn.dUn_eq, Dn.dBin_eq, Dn.dBl_eq, Dn.xOf_eq, Dn.xAnd_eq, Dn.xOr_eq, Dn.xNot_eq, Dn.xYes_eq, Dn.dAnd_eq, Dn.dOr_eq, Dn.dNot_eq, Dn.dIf_eq, Dn.aNil_eq, Dn.aCons_eq, Dn.dApp_eq, Dn.dTup_eq, Dn.dLst_eq, Dn.nLst_eq, Dn.dCall_eq, Dn.dChain_eq, Dn.sSet_eq, Dn.sRet_eq, Dn.sRetN_eq, Dn.sDrop_eq, Dn.sIf_eq, Dn.sNext_eq, Dn.sBrk_eq, Dn.sCnt_eq, Dn.sPar_eq, Dn.sPar3_eq, Dn.sAsg_eq, Dn.tset_nm, Dn.tset_tp, Dn.tsets_nil, Dn.tsets_cons, Dn.grd_none, Dn.wipeE_nil, Dn.wipeE_cons, Dn.gEq_int, Dn.gIsN_non, Dn.gIsN_int, Dn.gIsN_str, Dn.gIsN_tup, Dn.gIsN_bl, Dn.gIsN_ib, Dn.gIsN_nb, Dn.gIsN_sb, Dn.gIsN_tb, Dn.gAdd_int, Dn.gAugAdd_int, Dn.gSubI_int, Dn.gLt_int, Dn.gLe_int, Dn.gGt_int, Dn.gGe_int, Dn.gNeg_int, Dn.gAbs_int, Dn.gInt_int, Dn.gMax2_int, Dn.gMin2_int, Dn.asQ_tup, Dn.asQ_lst, Dn.asL_lst, Dn.gIdx_tup0, Dn.gIdx_tup1, Dn.gIdx_tup2, Dn.gLen_tup, Dn.gLen_lst, Dn.gLen_rol, Dn.gTuple_tup, Dn.gTuple_lst, Dn.gList_tup, Dn.gList_lst, Dn.sSetI_eq, Dn.dMtL_eq, Dn.iSeq_lst, Dn.iSeq_tup, Dn.sSeq_eq, Dn.startE, List.set_cons_zero, List.set_cons_succ, List.map_cons, List.map_nil, List.length_cons, List.length_nil, List.cons_append, List.nil_append, List.append_nil, List.replicate_succ, List.replicate_zero, if_true, if_false, ite_true, ite_false, Bool.false_eq_true, decide_true, decide_false, Nat.reduceSub, Nat.reduceAdd, Nat.reduceLeDiff, Bool.not_true, Bool.not_false, reduceIte, reduceCtorEq, Nat.zero_add, Nat.add_zero, nrB, g1, lc, e1, e2, g4]
      · have e1 : gEq false (.str "side") (.str "row") (S ++ [.lst told]) = .ok (.bl false) (S ++ [.lst told]) := by
          have := gEq_kind (k := "side") (.inr rfl) (S := S ++ [.lst told])
          rw [decide_eq_false ne_side_row] at this
          exact this
        have e2 : gSum [.lst (((u :: us).map (evI w)).map D.int)] (S ++ [.lst told]) = .ok (.int (evI w (.node "side" (u :: us)))) (S ++ [.lst told]) := by
          rw [gSum_of]
          show Res.ok (D.int (evI w u + (us.map (evI w)).sum)) _ = _
          unfold evI
          rw [Tre.ev, Tre.evs, ← evf_side us]
          rfl
        generalize kidsD c (u :: us).length = K at lc g1 ⊢
        generalize ((u :: us).map (evI w)).map D.int = Wl at lc e2 ⊢
        simp -implicitDefEqProofs only [Dn.rbind_ok, Dn.rbind_bad, Dn.rbind_exc, Dn.obind_ok, Dn.obind_bad, Dn.nox_ok, Dn.dVar_zero, Dn.dVar_succ, Dn.dC_eq, Dn.dUn_eq, Dn.dBin_eq, Dn.dBl_eq, Dn.xOf_eq, Dn.xAnd_eq, Dn.xOr_eq, Dn.xNot_eq, Dn.xYes_eq, Dn.dAnd_eq, Dn.dOr_eq, Dn.dNot_eq, Dn.dIf_eq, Dn.aNil_eq, Dn.aCons_eq, Dn.dApp_eq, Dn.dTup_eq, Dn.dLst_eq, Dn.nLst_eq, Dn.dCall_eq, Dn.dChain_eq, Dn.sSet_eq, Dn.sRet_eq, Dn.sRetN_eq, Dn.sDrop_eq, Dn.sIf_eq, Dn.sNext_eq, Dn.sBrk_eq, Dn.sCnt_eq, Dn.sPar_eq, Dn.sPar3_eq, Dn.sAsg_eq, Dn.tset_nm, Dn.tset_tp, Dn.tsets_nil, Dn.tsets_cons, Dn.grd_none, Dn.wipeE_nil, Dn.wipeE_cons, Dn.gEq_int, Dn.gIsN_non, Dn.gIsN_int, Dn.gIsN_str, Dn.gIsN_tup, Dn.gIsN_bl, Dn.gIsN_ib, Dn.gIsN_nb, Dn.gIsN_sb, Dn.gIsN_tb, Dn.gAdd_int, Dn.gAugAdd_int, Dn.gSubI_int, Dn.gLt_int, Dn.gLe_int, Dn.gGt_int, Dn.gGe_int, Dn.gNeg_int, Dn.gAbs_int, Dn.gInt_int, Dn.gMax2_int, Dn.gMin2_int, Dn.asQ_tup, Dn.asQ_lst, Dn.asL_lst, Dn.gIdx_tup0, Dn.gIdx_tup1, Dn.gIdx_tup2, Dn.gLen_tup, Dn.gLen_lst, Dn.gLen_rol, Dn.gTuple_tup, Dn.gTuple_lst, Dn.gList_tup, Dn.gList_lst, Dn.sSetI_eq, Dn.dMtL_eq, Dn.iSeq_lst, Dn.iSeq_tup, Dn.sSeq_eq, Dn.startE, List.set_cons_zero, List.set_cons_succ, List.map_cons, List.map_nil, List.length_cons, List.length_nil, List.cons_append, List.nil_append, List.append_nil, List.replicate_succ, List.replicate_zero, if_true, if_false, ite_true, ite_false, Bool.false_eq_true, decide_true, decide_false, Nat.reduceSub, Nat.reduceAdd, Nat.reduceLeDiff, Bool.not_true, Bool.not_false, reduceIte, reduceCtorEq, Nat.zero_add, Nat.add_zero, nrB, g1, lc, e1, e2, g4]
theorem iRev_lst {f : Den} {ρ : Dn.Env} {xs : List D} {S S1 : Store} (h : f ρ S = .ok (.lst xs) S1) : Dn.iRev f ρ S = .ok ⟨xs.reverse, none⟩ S1 := by
  unfold Dn.iRev
  rw [h]
  rfl
theorem ev_narrow {T : Tre} {w : List Nat} {S : List O} (hs : T.size < 60) (hok : T.ok w.length) : F__law_narrow [T.val, .tup (w.map fun (j : Nat) => D.int (j : Nat))] S = .ok (.int (evI w T)) S := by
  obtain ⟨line, rows, e1, hp, hl, h0, hsz, hpu, hq⟩ := ev_paths (S := S) (Q := fun U => U.ok w.length) hs hok (fun U q V hV => by
    cases U with
    | leaf a => cases hV
    | node k ts => rw [Tre.ok] at q; exact Tre.oks_mem q.2.2 V hV)
  have i2 : iSeq (dVar 2) [some T.val, some (.tup (w.map fun (j : Nat) => D.int (j : Nat))), some (.lst rows), none, none, none, none, none, none, none] S = .ok ⟨rows, none⟩ S := iSeq_lst rfl
  have e2 : nLc (iSeq (dVar 2)) [8] (.nm 8) (xYes) (dC (.int 0)) [some T.val, some (.tup (w.map fun (j : Nat) => D.int (j : Nat))), some (.lst rows), none, none, none, none, none, none, none] S = .ok (.ref S.length) (S ++ [.lst (List.replicate rows.length (.int 0))]) := by
    have := nLc_pure (p := fun _ => true) (g := fun _ => D.int 0) (it := iSeq (dVar 2)) (vs := [8]) (t := .nm 8) (ft := xYes) (fe := dC (.int 0)) i2 (fun x hx acc => ⟨_, tset_nm, rfl, fun _ => rfl⟩)
    rw [this, flt_true, List.map_const']
  have i3 : Dn.iRev (dLrg1 (dApp gLen (aCons (dVar 2) (aNil)))) [some T.val, some (.tup (w.map fun (j : Nat) => D.int (j : Nat))), some (.lst rows), some (.ref S.length), none, none, none, none, none, none] (S ++ [.lst (List.replicate rows.length (.int 0))]) = .ok ⟨(kidsD 0 rows.length).reverse, none⟩ (S ++ [.lst (List.replicate rows.length (.int 0))]) := by
    refine iRev_lst ?_
    unfold dLrg1
    simp -implicitDefEqProofs only [Dn.rbind_ok, Dn.rbind_bad, Dn.rbind_exc, Dn.obind_ok, Dn.obind_bad, Dn.nox_ok, Dn.dVar_zero, Dn.dVar_succ, Dn.dC_eq, Dn.dUn_eq, Dn.dBin_eq, Dn.dBl_eq, Dn.xOf_eq, Dn.xAnd_eq, Dn.xOr_eq, Dn.xNot_eq, Dn.xYes_eq, Dn.dAnd_eq, Dn.dOr_eq, Dn.dNot_eq, Dn.dIf_eq, Dn.aNil_eq, Dn.aCons_eq, Dn.dApp_eq, Dn.dTup_eq, Dn.dLst_eq, Dn.nLst_eq, Dn.dCall_eq, Dn.dChain_eq, Dn.sSet_eq, Dn.sRet_eq, Dn.sRetN_eq, Dn.sDrop_eq, Dn.sIf_eq, Dn.sNext_eq, Dn.sBrk_eq, Dn.sCnt_eq, Dn.sPar_eq, Dn.sPar3_eq, Dn.sAsg_eq, Dn.tset_nm, Dn.tset_tp, Dn.tsets_nil, Dn.tsets_cons, Dn.grd_none, Dn.wipeE_nil, Dn.wipeE_cons, Dn.gEq_int, Dn.gIsN_non, Dn.gIsN_int, Dn.gIsN_str, Dn.gIsN_tup, Dn.gIsN_bl, Dn.gIsN_ib, Dn.gIsN_nb, Dn.gIsN_sb, Dn.gIsN_tb, Dn.gAdd_int, Dn.gAugAdd_int, Dn.gSubI_int, Dn.gLt_int, Dn.gLe_int, Dn.gGt_int, Dn.gGe_int, Dn.gNeg_int, Dn.gAbs_int, Dn.gInt_int, Dn.gMax2_int, Dn.gMin2_int, Dn.asQ_tup, Dn.asQ_lst, Dn.asL_lst, Dn.gIdx_tup0, Dn.gIdx_tup1, Dn.gIdx_tup2, Dn.gLen_tup, Dn.gLen_lst, Dn.gLen_rol, Dn.gTuple_tup, Dn.gTuple_lst, Dn.gList_tup, Dn.gList_lst, Dn.sSetI_eq, Dn.dMtL_eq, Dn.iSeq_lst, Dn.iSeq_tup, Dn.sSeq_eq, Dn.startE, List.set_cons_zero, List.set_cons_succ, List.map_cons, List.map_nil, List.length_cons, List.length_nil, List.cons_append, List.nil_append, List.append_nil, List.replicate_succ, List.replicate_zero, if_true, if_false, ite_true, ite_false, Bool.false_eq_true, decide_true, decide_false, Nat.reduceSub, Nat.reduceAdd, Nat.reduceLeDiff, Bool.not_true, Bool.not_false, reduceIte, reduceCtorEq, Nat.zero_add, Nat.add_zero]
    unfold lrg
    rw [if_pos (rgOk_of (by omega) (by omega) (by omega) (by omega)), rgD_zero]
  have hkl : (kidsD 0 rows.length).reverse.length = rows.length := by unfold kidsD; simp
  obtain ⟨ρ', S', e3, hρ, told, hS, htl, htv⟩ := forD_run (t := .nm 4) (dead := [4, 5, 6, 7]) (body := nrB) (grd := none)
    (fun done ρ S' => ρ = [some T.val, some (.tup (w.map fun (j : Nat) => D.int (j : Nat))), some (.lst rows), some (.ref S.length), none, none, none, none, none, none] ∧ ∃ told, S' = S ++ [.lst told] ∧ told.length = rows.length ∧
      ∀ (j : Nat) (V : Tre), rows.length ≤ j + done.length → line[j]? = some V → told[j]? = some (.int (evI w V)))
    (kidsD 0 rows.length).reverse [] _ (S ++ [.lst (List.replicate rows.length (.int 0))])
    ⟨rfl, _, rfl, by simp, fun j V hj hV => by
      have := (List.getElem?_eq_some_iff.mp hV).1
      simp at hj
      omega⟩ (fun d r ρ S h he => trivial) (by
      rintro d x r ρ S1 ⟨rfl, told, rfl, htl, htv⟩ he
      have hdl : d.length < rows.length := by
        have := congrArg List.length he
        rw [List.nil_append, hkl] at this
        simp at this
        omega
      have hx : x = .int ((rows.length - 1 - d.length : Nat) : Int) := by
        have := congrArg (fun l => l[d.length]?) he
        simp only [List.nil_append] at this
        rw [List.getElem?_append_right (Nat.le_refl _), Nat.sub_self] at this
        rw [List.getElem?_reverse (by unfold kidsD; simpa using hdl)] at this
        unfold kidsD at this
        rw [List.length_map, List.length_range, List.getElem?_map, List.getElem?_range (by omega)] at this
        simp only [List.getElem?_cons_zero, Option.map_some, Option.some.injEq] at this
        rw [this]
        simp
      subst hx
      have hlt : rows.length - 1 - d.length < line.length := by omega
      obtain ⟨x5, x6, x7, e⟩ := nr_turn (t := T.val) (w := w) (S := S) (n := S.length) (told := told) (hp.2 (rows.length - 1 - d.length) line[rows.length - 1 - d.length] (by omega) (List.getElem?_eq_getElem hlt)) (hq _ (List.getElem_mem hlt)) rfl (by omega) (fun j V hj hV => htv j V (by omega) hV)
      refine ⟨_, _, _, tset_nm, .inl e, ?_, _, rfl, by rw [List.length_set]; exact htl, fun j V hj hV => ?_⟩
      · simp -implicitDefEqProofs only [Dn.rbind_ok, Dn.rbind_bad, Dn.rbind_exc, Dn.obind_ok, Dn.obind_bad, Dn.nox_ok, Dn.dVar_zero, Dn.dVar_succ, Dn.dC_eq, Dn.dUn_eq, Dn.dBin_eq, Dn.dBl_eq, Dn.xOf_eq, Dn.xAnd_eq, Dn.xOr_eq, Dn.xNot_eq, Dn.xYes_eq, Dn.dAnd_eq, Dn.dOr_eq, Dn.dNot_eq, Dn.dIf_eq, Dn.aNil_eq, Dn.aCons_eq, Dn.dApp_eq, Dn.dTup_eq, Dn.dLst_eq, Dn.nLst_eq, Dn.dCall_eq, Dn.dChain_eq, Dn.sSet_eq, Dn.sRet_eq, Dn.sRetN_eq, Dn.sDrop_eq, Dn.sIf_eq, Dn.sNext_eq, Dn.sBrk_eq, Dn.sCnt_eq, Dn.sPar_eq, Dn.sPar3_eq, Dn.sAsg_eq, Dn.tset_nm, Dn.tset_tp, Dn.tsets_nil, Dn.tsets_cons, Dn.grd_none, Dn.wipeE_nil, Dn.wipeE_cons, Dn.gEq_int, Dn.gIsN_non, Dn.gIsN_int, Dn.gIsN_str, Dn.gIsN_tup, Dn.gIsN_bl, Dn.gIsN_ib, Dn.gIsN_nb, Dn.gIsN_sb, Dn.gIsN_tb, Dn.gAdd_int, Dn.gAugAdd_int, Dn.gSubI_int, Dn.gLt_int, Dn.gLe_int, Dn.gGt_int, Dn.gGe_int, Dn.gNeg_int, Dn.gAbs_int, Dn.gInt_int, Dn.gMax2_int, Dn.gMin2_int, Dn.asQ_tup, Dn.asQ_lst, Dn.asL_lst, Dn.gIdx_tup0, Dn.gIdx_tup1, Dn.gIdx_tup2, Dn.gLen_tup, Dn.gLen_lst, Dn.gLen_rol, Dn.gTuple_tup, Dn.gTuple_lst, Dn.gList_tup, Dn.gList_lst, Dn.sSetI_eq, Dn.dMtL_eq, Dn.iSeq_lst, Dn.iSeq_tup, Dn.sSeq_eq, Dn.startE, List.set_cons_zero, List.set_cons_succ, List.map_cons, List.map_nil, List.length_cons, List.length_nil, List.cons_append, List.nil_append, List.append_nil, List.replicate_succ, List.replicate_zero, if_true, if_false, ite_true, ite_false, Bool.false_eq_true, decide_true, decide_false, Nat.reduceSub, Nat.reduceAdd, Nat.reduceLeDiff, Bool.not_true, Bool.not_false, reduceIte, reduceCtorEq, Nat.zero_add, Nat.add_zero]
      · rw [List.length_append, List.length_singleton] at hj
        by_cases ej : j = rows.length - 1 - d.length
        · subst ej
          rw [List.getElem?_set_self (by omega)]
          rw [List.getElem?_eq_getElem hlt] at hV
          cases hV
          rfl
        · rw [List.getElem?_set_ne (Ne.symm ej)]
          exact htv j V (by omega) hV)
  subst hρ hS
  rw [List.nil_append, hkl] at htv
  have ht0 := htv 0 T (by omega) h0
  have g1 : gIdx (.ref S.length) (.int 0) (S ++ [.lst told]) = .ok (.int (evI w T)) (S ++ [.lst told]) := gIdx_of (k := 0) (asQ_ref get_last) ht0
  refine def_end (S2 := S ++ [.lst told]) (d := .int (evI w T)) rfl ?_ rfl (fun i o hi ho => .inl (by rwa [List.getElem?_append_left hi] at ho)) (by simp)
  rw [narrow_body]
  simp -implicitDefEqProofs only [Dn.rbind_ok, Dn.rbind_bad, Dn.rbind_exc, Dn.obind_ok, Dn.obind_bad, Dn.nox_ok, Dn.dVar_zero, Dn.dVar_succ, Dn.dC_eq, Dn.dUn_eq, Dn.dBin_eq, Dn.dBl_eq, Dn.xOf_eq, Dn.xAnd_eq, Dn.xOr_eq, Dn.xNot_eq, Dn.xYes_eq, Dn.dAnd_eq, Dn.dOr_eq, Dn.dNot_eq, Dn.dIf_eq, Dn.aNil_eq, Dn.aCons_eq, Dn.dApp_eq, Dn.dTup_eq, Dn.dLst_eq, Dn.nLst_eq, Dn.dCall_eq, Dn.dChain_eq, Dn.sSet_eq, Dn.sRet_eq, Dn.sRetN_eq, Dn.sDrop_eq, Dn.sIf_eq, Dn.sNext_eq, Dn.sBrk_eq, Dn.sCnt_eq, Dn.sPar_eq, Dn.sPar3_eq, Dn.sAsg_eq, Dn.tset_nm, Dn.tset_tp, Dn.tsets_nil, Dn.tsets_cons, Dn.grd_none, Dn.wipeE_nil, Dn.wipeE_cons, Dn.gEq_int, Dn.gIsN_non, Dn.gIsN_int, Dn.gIsN_str, Dn.gIsN_tup, Dn.gIsN_bl, Dn.gIsN_ib, Dn.gIsN_nb, Dn.gIsN_sb, Dn.gIsN_tb, Dn.gAdd_int, Dn.gAugAdd_int, Dn.gSubI_int, Dn.gLt_int, Dn.gLe_int, Dn.gGt_int, Dn.gGe_int, Dn.gNeg_int, Dn.gAbs_int, Dn.gInt_int, Dn.gMax2_int, Dn.gMin2_int, Dn.asQ_tup, Dn.asQ_lst, Dn.asL_lst, Dn.gIdx_tup0, Dn.gIdx_tup1, Dn.gIdx_tup2, Dn.gLen_tup, Dn.gLen_lst, Dn.gLen_rol, Dn.gTuple_tup, Dn.gTuple_lst, Dn.gList_tup, Dn.gList_lst, Dn.sSetI_eq, Dn.dMtL_eq, Dn.iSeq_lst, Dn.iSeq_tup, Dn.sSeq_eq, Dn.startE, List.set_cons_zero, List.set_cons_succ, List.map_cons, List.map_nil, List.length_cons, List.length_nil, List.cons_append, List.nil_append, List.append_nil, List.replicate_succ, List.replicate_zero, if_true, if_false, ite_true, ite_false, Bool.false_eq_true, decide_true, decide_false, Nat.reduceSub, Nat.reduceAdd, Nat.reduceLeDiff, Bool.not_true, Bool.not_false, reduceIte, reduceCtorEq, Nat.zero_add, Nat.add_zero, e1, e2, sFor_eq, i3, e3, g1]
end Cm

set_option maxHeartbeats 1000000
namespace Cm
open PySem PySem.Spec PyProof.Rows L2 Dn Mt
/-! ### what was found, number by number -/
def addF : List (Nat × Nat) → Nat → Nat → List (Nat × Nat)
  | [], k, s => [(k, s)]
  | (a, c) :: L, k, s => if a = k then (a, c + s) :: L else (a, c) :: addF L k s
def getF : List (Nat × Nat) → Nat → Nat
  | [], _ => 0
  | (a, c) :: L, k => if a = k then c else getF L k
def keyN (k : Nat) : Key := .inl (k : Int)
theorem keyN_inj {a b : Nat} (h : keyN a = keyN b) : a = b := by
  unfold keyN at h
  have := Sum.inl.inj h
  omega
def keysF (L : List (Nat × Nat)) : List Key := L.map fun p => keyN p.1
def valsF (M : Nat) (L : List (Nat × Nat)) : List D := L.map fun p => fr (mkRat (p.2 : Int) M)
def fdO (M : Nat) (L : List (Nat × Nat)) : O := .dI (keysF L) (valsF M L)
theorem getF_none {k : Nat} : ∀ {L : List (Nat × Nat)}, keyN k ∉ keysF L → getF L k = 0
  | [], _ => rfl
  | (a, c) :: L, h => by
    unfold keysF at h
    rw [List.map_cons, List.mem_cons, not_or] at h
    rw [getF, if_neg fun z => h.1 (by rw [z]), getF_none h.2]
theorem lkF {M k : Nat} : ∀ {L : List (Nat × Nat)}, keyN k ∈ keysF L → lkD (keysF L) (valsF M L) (keyN k) = some (fr (mkRat (getF L k : Int) M))
  | [], h => by cases h
  | (a, c) :: L, h => by
    unfold keysF at h
    rw [List.map_cons] at h
    show (if keyN a = keyN k then some (fr (mkRat (c : Int) M)) else lkD (keysF L) (valsF M L) (keyN k)) = _
    rw [getF]
    by_cases e : a = k
    · rw [if_pos (by rw [e]), if_pos e]
    · rw [if_neg fun z => e (keyN_inj z), if_neg e]
      rcases List.mem_cons.mp h with h | h
      · exact absurd (keyN_inj h).symm e
      · exact lkF h
theorem addF_keys {k s : Nat} : ∀ {L : List (Nat × Nat)}, keysF (addF L k s) = if keyN k ∈ keysF L then keysF L else keysF L ++ [keyN k]
  | [] => by rw [if_neg (by simp [keysF])]; rfl
  | (a, c) :: L => by
    have ih := addF_keys (k := k) (s := s) (L := L)
    by_cases e : a = k
    · subst e
      rw [addF, if_pos rfl, if_pos (by unfold keysF; simp)]
      rfl
    · rw [addF, if_neg e]
      show keyN a :: keysF (addF L k s) = if keyN k ∈ keyN a :: keysF L then keyN a :: keysF L else keyN a :: keysF L ++ [keyN k]
      rw [ih]
      by_cases h : keyN k ∈ keysF L
      · rw [if_pos h, if_pos (List.mem_cons_of_mem _ h)]
      · rw [if_neg h, if_neg fun z => (List.mem_cons.mp z).elim (fun q => e (keyN_inj q).symm) h]
        rfl
theorem stD_none {κ τ : Type} [DecidableEq κ] {i : κ} {y : τ} : ∀ (ks : List κ) (xs : List τ), i ∉ ks → ks.length = xs.length → stD ks xs i y = xs
  | [], [], _, _ => rfl
  | [], _ :: _, _, h => by simp at h
  | k :: ks, [], _, h => by simp at h
  | k :: ks, x :: xs, h, hl => by
    rw [List.mem_cons, not_or] at h
    show (if k = i then y else x) :: stD ks xs i y = x :: xs
    rw [if_neg fun z => h.1 z.symm, stD_none ks xs h.2 (by simpa using hl)]
theorem addF_nodup {k s : Nat} {L : List (Nat × Nat)} (h : (keysF L).Nodup) : (keysF (addF L k s)).Nodup := by
  rw [addF_keys]
  by_cases hm : keyN k ∈ keysF L
  · rw [if_pos hm]; exact h
  · rw [if_neg hm]
    refine List.nodup_append.mpr ⟨h, by simp, fun a ha b hb => ?_⟩
    rw [List.mem_singleton.mp hb]
    exact fun z => hm (z ▸ ha)
theorem addF_vals {M k s : Nat} : ∀ {L : List (Nat × Nat)}, (keysF L).Nodup → valsF M (addF L k s) = if keyN k ∈ keysF L then stD (keysF L) (valsF M L) (keyN k) (fr (mkRat ((getF L k + s : Nat) : Int) M)) else valsF M L ++ [fr (mkRat ((getF L k + s : Nat) : Int) M)]
  | [], _ => by rw [if_neg (by simp [keysF]), getF, Nat.zero_add]; rfl
  | (a, c) :: L, hn => by
    obtain ⟨hn1, hn2⟩ := List.nodup_cons.mp (show (keyN a :: keysF L).Nodup from hn)
    have ih := addF_vals (M := M) (k := k) (s := s) (L := L) hn2
    have e0 : ∀ i d, stD (keysF ((a, c) :: L)) (valsF M ((a, c) :: L)) i d = (if keyN a = i then d else fr (mkRat (c : Int) M)) :: stD (keysF L) (valsF M L) i d := fun i d => rfl
    by_cases e : a = k
    · subst e
      rw [addF, if_pos rfl, if_pos (by unfold keysF; simp), e0, if_pos rfl, getF, if_pos rfl]
      show fr (mkRat ((c + s : Nat) : Int) M) :: valsF M L = _
      rw [stD_none _ _ hn1 (by unfold keysF valsF; simp)]
    · rw [addF, if_neg e, getF, if_neg e, e0, if_neg fun z => e (keyN_inj z)]
      show fr (mkRat (c : Int) M) :: valsF M (addF L k s) = if keyN k ∈ keyN a :: keysF L then _ else fr (mkRat (c : Int) M) :: valsF M L ++ _
      rw [ih]
      by_cases h : keyN k ∈ keysF L
      · rw [if_pos h, if_pos (List.mem_cons_of_mem _ h)]
      · rw [if_neg h, if_neg fun z => (List.mem_cons.mp z).elim (fun q => e (keyN_inj q).symm) h]
        rfl
theorem getF_add {k s j : Nat} : ∀ {L : List (Nat × Nat)}, getF (addF L k s) j = getF L j + if k = j then s else 0
  | [] => by
    rw [addF, getF, getF, getF]
    simp
  | (a, c) :: L => by
    by_cases e : a = k
    · subst e
      rw [addF, if_pos rfl, getF, getF]
      split <;> rfl
    · rw [addF, if_neg e, getF, getF, getF_add (L := L)]
      by_cases h : a = j
      · rw [if_pos h, if_pos h, if_neg fun z => e (h.trans z.symm)]; rfl
      · rw [if_neg h, if_neg h]
theorem addF_sum {k s : Nat} : ∀ {L : List (Nat × Nat)}, ((addF L k s).map (·.2)).sum = (L.map (·.2)).sum + s
  | [] => by simp [addF]
  | (a, c) :: L => by
    by_cases e : a = k
    · subst e
      rw [addF, if_pos rfl]
      simp
      omega
    · rw [addF, if_neg e]
      have := addF_sum (k := k) (s := s) (L := L)
      simp at this ⊢
      omega
theorem getF_le : ∀ {L : List (Nat × Nat)} {k : Nat}, getF L k ≤ (L.map (·.2)).sum
  | [], k => by simp [getF]
  | (a, c) :: L, k => by
    rw [getF]
    have := getF_le (L := L) (k := k)
    split <;> simp <;> omega
theorem putF {M k s : Nat} {L : List (Nat × Nat)} (h : (keysF L).Nodup) : putI (keysF L) (valsF M L) (keyN k) (fr (mkRat ((getF L k + s : Nat) : Int) M)) = fdO M (addF L k s) := by
  unfold putI fdO
  rw [addF_keys, addF_vals h]
  by_cases hm : keyN k ∈ keysF L
  · rw [if_pos hm, if_pos hm, if_pos hm]
  · rw [if_neg hm, if_neg hm, if_neg hm]
theorem mem_keysF {k : Nat} {L : List (Nat × Nat)} : keyN k ∈ keysF L ↔ k ∈ L.map (·.1) := by
  unfold keysF
  rw [List.mem_map, List.mem_map]
  constructor
  · rintro ⟨p, hp, e⟩; exact ⟨p, hp, keyN_inj e⟩
  · rintro ⟨p, hp, e⟩; exact ⟨p, hp, by rw [e]⟩
theorem addF_len {k s : Nat} {L : List (Nat × Nat)} : (addF L k s).length ≤ L.length + 1 := by
  have h1 := congrArg List.length (addF_keys (k := k) (s := s) (L := L))
  unfold keysF at h1
  split at h1 <;> simp at h1 <;> omega
theorem readI_ref {S : Store} {n : Nat} {ks : List Key} {xs : List D} (h : S[n]? = some (.dI ks xs)) : readI S (.ref n) = some (ks, xs) := by unfold readI; simp only; rw [h]
theorem readI_fI {S : Store} {n : Nat} {ks : List Key} {xs : List D} (h : S[n]? = some (.fI ks xs)) : readI S (.ref n) = some (ks, xs) := by unfold readI; simp only; rw [h]
theorem gDIn_of {S : Store} {x y : D} {ks : List Key} {xs : List D} {k : Key} (h : readI S x = some (ks, xs)) (hk : keyOf y = some k) : gDIn false y x S = .ok (.bl (decide (k ∈ ks))) S := by
  unfold gDIn
  rw [h, hk]
  rfl
theorem gDGet_of {S : Store} {x y d : D} {ks : List Key} {xs : List D} {k : Key} (h : readI S x = some (ks, xs)) (hk : keyOf y = some k) (hl : lkD ks xs k = some d) : gDGet x y S = .ok d S := by
  unfold gDGet
  rw [h, hk]
  simp only
  rw [hl]
/-- found[k] if k in found else (0, 1) -/
theorem ev_found {x y : Den} {ρ : Dn.Env} {S : Store} {n k M : Nat} {L : List (Nat × Nat)} (hM : M ≠ 0) (h : readI S (.ref n) = some (keysF L, valsF M L)) (hx : ∀ S, x ρ S = .ok (.ref n) S) (hy : ∀ S, y ρ S = .ok (.int (k : Nat)) S) :
    dIf (xOf (dBin (gDIn false) y x)) (dBin gDGet x y) (dTup (aCons (dC (.int 0)) (aCons (dC (.int 1)) (aNil)))) ρ S = .ok (fr (mkRat (getF L k : Int) M)) S := by
  have z2 : (2 : Nat) ≤ sizeLine := small_line (by omega)
  have g1 : gDIn false (.int (k : Nat)) (.ref n) S = .ok (.bl (decide (keyN k ∈ keysF L))) S := gDIn_of h rfl
  by_cases hm : keyN k ∈ keysF L
  · have g2 : gDGet (.ref n) (.int (k : Nat)) S = .ok (fr (mkRat (getF L k : Int) M)) S := gDGet_of h rfl (lkF hm)
    have d1 : decide (keyN k ∈ keysF L) = true := decide_eq_true hm
    rw [d1] at g1
    simp -implicitDefEqProofs only [Dn.rbind_ok, Dn.rbind_bad, Dn.rbind_exc, Dn.obind_ok, Dn.obind_bad, Dn.nox_ok, Dn.dVar_zero, Dn.dVar_succ, Dn.dC_eq, Dn.dUn_eq, Dn.dBin_eq, Dn.dBl_eq, Dn.xOf_eq, Dn.xAnd_eq, Dn.xOr_eq, Dn.xNot_eq, Dn.xYes_eq, Dn.dAnd_eq, Dn.dOr_eq, Dn.dNot_eq, Dn.dIf_eq, Dn.aNil_eq, Dn.aCons_eq, Dn.dApp_eq, Dn.dTup_eq, Dn.dLst_eq, Dn.nLst_eq, Dn.dCall_eq, Dn.dChain_eq, Dn.sSet_eq, Dn.sRet_eq, Dn.sRetN_eq, Dn.sDrop_eq, Dn.sIf_eq, Dn.sNext_eq, Dn.sBrk_eq, Dn.sCnt_eq, Dn.sPar_eq, Dn.sPar3_eq, Dn.sAsg_eq, Dn.tset_nm, Dn.tset_tp, Dn.tsets_nil, Dn.tsets_cons, Dn.grd_none, Dn.wipeE_nil, Dn.wipeE_cons, Dn.gEq_int, Dn.gIsN_non, Dn.gIsN_int, Dn.gIsN_str, Dn.gIsN_tup, Dn.gIsN_bl, Dn.gIsN_ib, Dn.gIsN_nb, Dn.gIsN_sb, Dn.gIsN_tb, Dn.gAdd_int, Dn.gAugAdd_int, Dn.gSubI_int, Dn.gLt_int, Dn.gLe_int, Dn.gGt_int, Dn.gGe_int, Dn.gNeg_int, Dn.gAbs_int, Dn.gInt_int, Dn.gMax2_int, Dn.gMin2_int, Dn.asQ_tup, Dn.asQ_lst, Dn.asL_lst, Dn.gIdx_tup0, Dn.gIdx_tup1, Dn.gIdx_tup2, Dn.gLen_tup, Dn.gLen_lst, Dn.gLen_rol, Dn.gTuple_tup, Dn.gTuple_lst, Dn.gList_tup, Dn.gList_lst, Dn.sSetI_eq, Dn.dMtL_eq, Dn.iSeq_lst, Dn.iSeq_tup, Dn.sSeq_eq, Dn.startE, List.set_cons_zero, List.set_cons_succ, List.map_cons, List.map_nil, List.length_cons, List.length_nil, List.cons_append, List.nil_append, List.append_nil, List.replicate_succ, List.replicate_zero, if_true, if_false, ite_true, ite_false, Bool.false_eq_true, decide_true, decide_false, Nat.reduceSub, Nat.reduceAdd, Nat.reduceLeDiff, Bool.not_true, Bool.not_false, reduceIte, reduceCtorEq, Nat.zero_add, Nat.add_zero, hx, hy, g1, g2]
  · have d1 : decide (keyN k ∈ keysF L) = false := decide_eq_false hm
    rw [d1] at g1
    have e : fr (mkRat (getF L k : Int) M) = .tup [.int 0, .int 1] := by
      rw [getF_none hm]
      have : mkRat ((0 : Nat) : Int) M = 0 := by simp
      rw [this]
      rfl
    rw [e]
    simp -implicitDefEqProofs only [Dn.rbind_ok, Dn.rbind_bad, Dn.rbind_exc, Dn.obind_ok, Dn.obind_bad, Dn.nox_ok, Dn.dVar_zero, Dn.dVar_succ, Dn.dC_eq, Dn.dUn_eq, Dn.dBin_eq, Dn.dBl_eq, Dn.xOf_eq, Dn.xAnd_eq, Dn.xOr_eq, Dn.xNot_eq, Dn.xYes_eq, Dn.dAnd_eq, Dn.dOr_eq, Dn.dNot_eq, Dn.dIf_eq, Dn.aNil_eq, Dn.aCons_eq, Dn.dApp_eq, Dn.dTup_eq, Dn.dLst_eq, Dn.nLst_eq, Dn.dCall_eq, Dn.dChain_eq, Dn.sSet_eq, Dn.sRet_eq, Dn.sRetN_eq, Dn.sDrop_eq, Dn.sIf_eq, Dn.sNext_eq, Dn.sBrk_eq, Dn.sCnt_eq, Dn.sPar_eq, Dn.sPar3_eq, Dn.sAsg_eq, Dn.tset_nm, Dn.tset_tp, Dn.tsets_nil, Dn.tsets_cons, Dn.grd_none, Dn.wipeE_nil, Dn.wipeE_cons, Dn.gEq_int, Dn.gIsN_non, Dn.gIsN_int, Dn.gIsN_str, Dn.gIsN_tup, Dn.gIsN_bl, Dn.gIsN_ib, Dn.gIsN_nb, Dn.gIsN_sb, Dn.gIsN_tb, Dn.gAdd_int, Dn.gAugAdd_int, Dn.gSubI_int, Dn.gLt_int, Dn.gLe_int, Dn.gGt_int, Dn.gGe_int, Dn.gNeg_int, Dn.gAbs_int, Dn.gInt_int, Dn.gMax2_int, Dn.gMin2_int, Dn.asQ_tup, Dn.asQ_lst, Dn.asL_lst, Dn.gIdx_tup0, Dn.gIdx_tup1, Dn.gIdx_tup2, Dn.gLen_tup, Dn.gLen_lst, Dn.gLen_rol, Dn.gTuple_tup, Dn.gTuple_lst, Dn.gList_tup, Dn.gList_lst, Dn.sSetI_eq, Dn.dMtL_eq, Dn.iSeq_lst, Dn.iSeq_tup, Dn.sSeq_eq, Dn.startE, List.set_cons_zero, List.set_cons_succ, List.map_cons, List.map_nil, List.length_cons, List.length_nil, List.cons_append, List.nil_append, List.append_nil, List.replicate_succ, List.replicate_zero, if_true, if_false, ite_true, ite_false, Bool.false_eq_true, decide_true, decide_false, Nat.reduceSub, Nat.reduceAdd, Nat.reduceLeDiff, Bool.not_true, Bool.not_false, reduceIte, reduceCtorEq, Nat.zero_add, Nat.add_zero, hx, hy, g1, z2]
noncomputable def dueB : DenS := (sSeq (sSet 5 (dCall F__law_narrow [] (aCons (dVar 0) (aCons (dVar 3) (aNil))))) (sSetD (dVar 2) (dVar 5) (dCall F__law_sum [] (aCons (dIf (xOf (dBin (gDIn false) (dVar 5) (dVar 2))) (dBin gDGet (dVar 2) (dVar 5)) (dTup (aCons (dC (.int 0)) (aCons (dC (.int 1)) (aNil))))) (aCons (dVar 4) (aNil))))))
def addD (T : Tre) (L : List (Nat × Nat)) (p : Dw) : List (Nat × Nat) := addF L (Tre.ev opN (sgN p.1) T) p.2
theorem due_loop {T : Tre} {e1 : Option D} {S : List O} {M n : Nat} (hM : M ≠ 0) (hMl : M < 4294967296) (hs : T.size < 60) (hok : T.ok n) : ∀ (Ds : List Dw) (L : List (Nat × Nat)), (∀ p ∈ Ds, p.1.length = n) → (keysF L).Nodup → (L.map (·.2)).sum + (Ds.map (·.2)).sum ≤ M → L.length + Ds.length < 1000000 →
    forD (.tp [.nm 3, .nm 4]) [3, 4, 5] dueB none (Ds.map (mkDw M)) [some T.val, e1, some (.ref S.length), none, none, none, none, none] (S ++ [fdO M L])
      = .nx [some T.val, e1, some (.ref S.length), none, none, none, none, none] (S ++ [fdO M (Ds.foldl (addD T) L)]) ∧ (keysF (Ds.foldl (addD T) L)).Nodup ∧ (Ds.foldl (addD T) L).length ≤ L.length + Ds.length
  | [], L, h, hn, hsum, hl => ⟨by rw [List.map_nil, forD_nil]; rfl, hn, by simp⟩
  | p :: Ds, L, h, hn, hsum, hl => by
    rw [List.map_cons, List.sum_cons] at hsum
    have hp := h p List.mem_cons_self
    have hal := addF_len (k := Tre.ev opN (sgN p.1) T) (s := p.2) (L := L)
    obtain ⟨ih, ih2, ih3⟩ := due_loop (T := T) (e1 := e1) (S := S) hM hMl hs hok Ds (addD T L p) (fun q hq => h q (List.mem_cons_of_mem _ hq)) (addF_nodup hn) (by unfold addD; rw [addF_sum]; omega) (by unfold addD; simp at hl; omega)
    refine ⟨?_, ih2, by unfold addD at ih3; rw [List.foldl_cons, List.length_cons]; unfold addD; omega⟩
    rw [List.map_cons, forD_cons, List.foldl_cons]
    have t1 : tset (.tp [.nm 3, .nm 4]) (mkDw M p) [some T.val, e1, some (.ref S.length), none, none, none, none, none] = some [some T.val, e1, some (.ref S.length), some (.tup (p.1.map fun (j : Nat) => D.int (j : Nat))), some (fr (mkRat (p.2 : Int) M)), none, none, none] := by
      simp -implicitDefEqProofs only [Dn.rbind_ok, Dn.rbind_bad, Dn.rbind_exc, Dn.obind_ok, Dn.obind_bad, Dn.nox_ok, Dn.dVar_zero, Dn.dVar_succ, Dn.dC_eq, Dn.dUn_eq, Dn.dBin_eq, Dn.dBl_eq, Dn.xOf_eq, Dn.xAnd_eq, Dn.xOr_eq, Dn.xNot_eq, Dn.xYes_eq, Dn.dAnd_eq, Dn.dOr_eq, Dn.dNot_eq, Dn.dIf_eq, Dn.aNil_eq, Dn.aCons_eq, Dn.dApp_eq, Dn.dTup_eq, Dn.dLst_eq, Dn.nLst_eq, Dn.dCall_eq, Dn.dChain_eq, Dn.sSet_eq, Dn.sRet_eq, Dn.sRetN_eq, Dn.sDrop_eq, Dn.sIf_eq, Dn.sNext_eq, Dn.sBrk_eq, Dn.sCnt_eq, Dn.sPar_eq, Dn.sPar3_eq, Dn.sAsg_eq, Dn.tset_nm, Dn.tset_tp, Dn.tsets_nil, Dn.tsets_cons, Dn.grd_none, Dn.wipeE_nil, Dn.wipeE_cons, Dn.gEq_int, Dn.gIsN_non, Dn.gIsN_int, Dn.gIsN_str, Dn.gIsN_tup, Dn.gIsN_bl, Dn.gIsN_ib, Dn.gIsN_nb, Dn.gIsN_sb, Dn.gIsN_tb, Dn.gAdd_int, Dn.gAugAdd_int, Dn.gSubI_int, Dn.gLt_int, Dn.gLe_int, Dn.gGt_int, Dn.gGe_int, Dn.gNeg_int, Dn.gAbs_int, Dn.gInt_int, Dn.gMax2_int, Dn.gMin2_int, Dn.asQ_tup, Dn.asQ_lst, Dn.asL_lst, Dn.gIdx_tup0, Dn.gIdx_tup1, Dn.gIdx_tup2, Dn.gLen_tup, Dn.gLen_lst, Dn.gLen_rol, Dn.gTuple_tup, Dn.gTuple_lst, Dn.gList_tup, Dn.gList_lst, Dn.sSetI_eq, Dn.dMtL_eq, Dn.iSeq_lst, Dn.iSeq_tup, Dn.sSeq_eq, Dn.startE, List.set_cons_zero, List.set_cons_succ, List.map_cons, List.map_nil, List.length_cons, List.length_nil, List.cons_append, List.nil_append, List.append_nil, List.replicate_succ, List.replicate_zero, if_true, if_false, ite_true, ite_false, Bool.false_eq_true, decide_true, decide_false, Nat.reduceSub, Nat.reduceAdd, Nat.reduceLeDiff, Bool.not_true, Bool.not_false, reduceIte, reduceCtorEq, Nat.zero_add, Nat.add_zero, mkDw]
    rw [t1]
    have g1 : ∀ S, F__law_narrow [T.val, .tup (p.1.map fun (j : Nat) => D.int (j : Nat))] S = .ok (.int ((Tre.ev opN (sgN p.1) T : Nat) : Int)) S := fun S => ev_narrow hs (by rw [hp]; exact hok)
    have hle := getF_le (L := L) (k := Tre.ev opN (sgN p.1) T)
    have g2 := ev_found (x := dVar 2) (y := dVar 5) (ρ := [some T.val, e1, some (.ref S.length), some (.tup (p.1.map fun (j : Nat) => D.int (j : Nat))), some (fr (mkRat (p.2 : Int) M)), some (.int ((Tre.ev opN (sgN p.1) T : Nat) : Int)), none, none]) (S := S ++ [fdO M L]) (n := S.length) (k := Tre.ev opN (sgN p.1) T) hM (readI_ref get_last) (fun S => rfl) (fun S => rfl)
    have g3 : ∀ S, F__law_sum [fr (mkRat (getF L (Tre.ev opN (sgN p.1) T) : Int) M), fr (mkRat (p.2 : Int) M)] S = .ok (fr (mkRat ((getF L (Tre.ev opN (sgN p.1) T) + p.2 : Nat) : Int) M)) S := fun S => by
      rw [ev_sum (sm_mk (by omega) hMl hM) (sm_mk (by omega) hMl hM), mk_add hM]
    have g4 : ∀ ρ, sPut (.ref S.length) (.int ((Tre.ev opN (sgN p.1) T : Nat) : Int)) ρ (S ++ [fdO M L]) (fr (mkRat ((getF L (Tre.ev opN (sgN p.1) T) + p.2 : Nat) : Int) M)) = .nx ρ (S ++ [fdO M (addD T L p)]) := fun ρ => by
      rw [sPut_of (S := S ++ [fdO M L]) (ks := keysF L) (xs := valsF M L) (k := keyN (Tre.ev opN (sgN p.1) T)) get_last rfl (by unfold keysF; simp at hl ⊢; omega), set_last, putF hn]
      rfl
    generalize Tre.ev opN (sgN p.1) T = k at g1 g2 g3 g4
    have e5 : sSet 5 (dCall F__law_narrow [] (aCons (dVar 0) (aCons (dVar 3) (aNil)))) [some T.val, e1, some (.ref S.length), some (.tup (p.1.map fun (j : Nat) => D.int (j : Nat))), some (fr (mkRat (p.2 : Int) M)), none, none, none] (S ++ [fdO M L]) = .nx [some T.val, e1, some (.ref S.length), some (.tup (p.1.map fun (j : Nat) => D.int (j : Nat))), some (fr (mkRat (p.2 : Int) M)), some (.int (k : Nat)), none, none] (S ++ [fdO M L]) := by
      simp -implicitDefEqProofs only [Dn.rbind_ok, Dn.rbind_bad, Dn.rbind_exc, Dn.obind_ok, Dn.obind_bad, Dn.nox_ok, Dn.dVar_zero, Dn.dVar_succ, Dn.dC_eq, Dn.dUn_eq, Dn.dBin_eq, Dn.dBl_eq, Dn.xOf_eq, Dn.xAnd_eq, Dn.xOr_eq, Dn.xNot_eq, Dn.xYes_eq, Dn.dAnd_eq, Dn.dOr_eq, Dn.dNot_eq, Dn.dIf_eq, Dn.aNil_eq, Dn.aCons_eq, Dn.dApp_eq, Dn.dTup_eq, Dn.dLst_eq, Dn.nLst_eq, Dn.dCall_eq, Dn.dChain_eq, Dn.sSet_eq, Dn.sRet_eq, Dn.sRetN_eq, Dn.sDrop_eq, Dn.sIf_eq, Dn.sNext_eq, Dn.sBrk_eq, Dn.sCnt_eq, Dn.sPar_eq, Dn.sPar3_eq, Dn.sAsg_eq, Dn.tset_nm, Dn.tset_tp, Dn.tsets_nil, Dn.tsets_cons, Dn.grd_none, Dn.wipeE_nil, Dn.wipeE_cons, Dn.gEq_int, Dn.gIsN_non, Dn.gIsN_int, Dn.gIsN_str, Dn.gIsN_tup, Dn.gIsN_bl, Dn.gIsN_ib, Dn.gIsN_nb, Dn.gIsN_sb, Dn.gIsN_tb, Dn.gAdd_int, Dn.gAugAdd_int, Dn.gSubI_int, Dn.gLt_int, Dn.gLe_int, Dn.gGt_int, Dn.gGe_int, Dn.gNeg_int, Dn.gAbs_int, Dn.gInt_int, Dn.gMax2_int, Dn.gMin2_int, Dn.asQ_tup, Dn.asQ_lst, Dn.asL_lst, Dn.gIdx_tup0, Dn.gIdx_tup1, Dn.gIdx_tup2, Dn.gLen_tup, Dn.gLen_lst, Dn.gLen_rol, Dn.gTuple_tup, Dn.gTuple_lst, Dn.gList_tup, Dn.gList_lst, Dn.sSetI_eq, Dn.dMtL_eq, Dn.iSeq_lst, Dn.iSeq_tup, Dn.sSeq_eq, Dn.startE, List.set_cons_zero, List.set_cons_succ, List.map_cons, List.map_nil, List.length_cons, List.length_nil, List.cons_append, List.nil_append, List.append_nil, List.replicate_succ, List.replicate_zero, if_true, if_false, ite_true, ite_false, Bool.false_eq_true, decide_true, decide_false, Nat.reduceSub, Nat.reduceAdd, Nat.reduceLeDiff, Bool.not_true, Bool.not_false, reduceIte, reduceCtorEq, Nat.zero_add, Nat.add_zero, g1]
    have e6 : sSetD (dVar 2) (dVar 5) (dCall F__law_sum [] (aCons (dIf (xOf (dBin (gDIn false) (dVar 5) (dVar 2))) (dBin gDGet (dVar 2) (dVar 5)) (dTup (aCons (dC (.int 0)) (aCons (dC (.int 1)) (aNil))))) (aCons (dVar 4) (aNil)))) [some T.val, e1, some (.ref S.length), some (.tup (p.1.map fun (j : Nat) => D.int (j : Nat))), some (fr (mkRat (p.2 : Int) M)), some (.int (k : Nat)), none, none] (S ++ [fdO M L])
        = .nx [some T.val, e1, some (.ref S.length), some (.tup (p.1.map fun (j : Nat) => D.int (j : Nat))), some (fr (mkRat (p.2 : Int) M)), some (.int (k : Nat)), none, none] (S ++ [fdO M (addD T L p)]) := by
      rw [sSetD_eq, dCall_eq, aCons_eq, g2]
      simp -implicitDefEqProofs only [Dn.rbind_ok, Dn.rbind_bad, Dn.rbind_exc, Dn.obind_ok, Dn.obind_bad, Dn.nox_ok, Dn.dVar_zero, Dn.dVar_succ, Dn.dC_eq, Dn.dUn_eq, Dn.dBin_eq, Dn.dBl_eq, Dn.xOf_eq, Dn.xAnd_eq, Dn.xOr_eq, Dn.xNot_eq, Dn.xYes_eq, Dn.dAnd_eq, Dn.dOr_eq, Dn.dNot_eq, Dn.dIf_eq, Dn.aNil_eq, Dn.aCons_eq, Dn.dApp_eq, Dn.dTup_eq, Dn.dLst_eq, Dn.nLst_eq, Dn.dCall_eq, Dn.dChain_eq, Dn.sSet_eq, Dn.sRet_eq, Dn.sRetN_eq, Dn.sDrop_eq, Dn.sIf_eq, Dn.sNext_eq, Dn.sBrk_eq, Dn.sCnt_eq, Dn.sPar_eq, Dn.sPar3_eq, Dn.sAsg_eq, Dn.tset_nm, Dn.tset_tp, Dn.tsets_nil, Dn.tsets_cons, Dn.grd_none, Dn.wipeE_nil, Dn.wipeE_cons, Dn.gEq_int, Dn.gIsN_non, Dn.gIsN_int, Dn.gIsN_str, Dn.gIsN_tup, Dn.gIsN_bl, Dn.gIsN_ib, Dn.gIsN_nb, Dn.gIsN_sb, Dn.gIsN_tb, Dn.gAdd_int, Dn.gAugAdd_int, Dn.gSubI_int, Dn.gLt_int, Dn.gLe_int, Dn.gGt_int, Dn.gGe_int, Dn.gNeg_int, Dn.gAbs_int, Dn.gInt_int, Dn.gMax2_int, Dn.gMin2_int, Dn.asQ_tup, Dn.asQ_lst, Dn.asL_lst, Dn.gIdx_tup0, Dn.gIdx_tup1, Dn.gIdx_tup2, Dn.gLen_tup, Dn.gLen_lst, Dn.gLen_rol, Dn.gTuple_tup, Dn.gTuple_lst, Dn.gList_tup, Dn.gList_lst, Dn.sSetI_eq, Dn.dMtL_eq, Dn.iSeq_lst, Dn.iSeq_tup, Dn.sSeq_eq, Dn.startE, List.set_cons_zero, List.set_cons_succ, List.map_cons, List.map_nil, List.length_cons, List.length_nil, List.cons_append, List.nil_append, List.append_nil, List.replicate_succ, List.replicate_zero, if_true, if_false, ite_true, ite_false, Bool.false_eq_true, decide_true, decide_false, Nat.reduceSub, Nat.reduceAdd, Nat.reduceLeDiff, Bool.not_true, Bool.not_false, reduceIte, reduceCtorEq, Nat.zero_add, Nat.add_zero, g3, g4]
    have e7 : dueB [some T.val, e1, some (.ref S.length), some (.tup (p.1.map fun (j : Nat) => D.int (j : Nat))), some (fr (mkRat (p.2 : Int) M)), none, none, none] (S ++ [fdO M L]) = .nx [some T.val, e1, some (.ref S.length), some (.tup (p.1.map fun (j : Nat) => D.int (j : Nat))), some (fr (mkRat (p.2 : Int) M)), some (.int (k : Nat)), none, none] (S ++ [fdO M (addD T L p)]) := by
      unfold dueB
      rw [sSeq_eq, e5]
      simp only
      rw [e6]
    simp only
    rw [e7]
    simp only [wipeE_cons, wipeE_nil, List.set_cons_succ, List.set_cons_zero]
    exact ih
theorem foldl_getF {T : Tre} {k : Nat} : ∀ (Ds : List Dw) (L : List (Nat × Nat)), getF (Ds.foldl (addD T) L) k = getF L k + SD Ds (fun w => if Tre.ev opN (sgN w) T = k then 1 else 0)
  | [], L => by simp [SD]
  | p :: Ds, L => by
    rw [List.foldl_cons, foldl_getF Ds]
    unfold addD SD
    rw [getF_add, List.map_cons, List.sum_cons]
    show _ = getF L k + (p.2 * (if Tre.ev opN (sgN p.1) T = k then 1 else 0) + _)
    by_cases h : Tre.ev opN (sgN p.1) T = k
    · rw [if_pos h, if_pos h]; omega
    · rw [if_neg h, if_neg h]; omega
end Cm

set_option maxHeartbeats 1000000
namespace Mt
theorem R_one : ∀ (cs : List (List Nat)) (w : List Nat), R cs (fun _ => 1) w = (cs.map List.sum).prod
  | [], w => rfl
  | c :: cs, w => by
    rw [R, List.map_cons, List.prod_cons]
    have : (fun x => R cs (fun _ => 1) (w ++ [x])) = fun _ => (cs.map List.sum).prod * 1 := by
      funext x; rw [R_one cs, Nat.mul_one]
    rw [this]
    unfold dot
    rw [dotF_mul, dotF_one, Nat.mul_comm]
theorem SD_one (L : List Dw) : SD L (fun _ => 1) = (L.map (·.2)).sum := by
  unfold SD
  congr 1
  refine List.map_congr_left fun p _ => ?_
  exact Nat.mul_one _
theorem getD_out {A : List Nat} {k : Nat} (h : A.length ≤ k) : A.getD k 0 = 0 := by
  rw [List.getD_eq_getElem?_getD, List.getElem?_eq_none h]; rfl
end Mt
namespace Cm
open PySem PySem.Spec PyProof.Rows L2 Dn Mt
theorem trim_last : ∀ {A : List Nat}, trimV A = A → A ≠ [] → A.getD (A.length - 1) 0 ≠ 0
  | [], _, h => absurd rfl h
  | [a], h, _ => by
    rw [trimV, trimV] at h
    simp at h ⊢
    exact h
  | a :: b :: A, h, _ => by
    rw [trimV] at h
    split at h
    · cases h
    · have h2 : trimV (b :: A) = b :: A := (List.cons.inj h).2
      have := trim_last h2 (by simp)
      simpa using this
/-- chances from an assoc list, 0 to the last one that may be -/
theorem range_getD (A : List Nat) : (List.range A.length).map (fun k => A.getD k 0) = A := by
  refine List.ext_getElem? fun i => ?_
  rw [List.getElem?_map]
  by_cases h : i < A.length
  · rw [List.getElem?_range h, List.getElem?_eq_getElem h]
    simp [List.getD_eq_getElem?_getD, List.getElem?_eq_getElem h]
  · rw [List.getElem?_eq_none (by simpa using h), List.getElem?_eq_none (by omega)]
    rfl
noncomputable def dueM : Den := dLock 2 (dLc (iDictI (dVar 2)) [5] (.nm 5) (xOf (dBin (gGt) (dBin gIdx (dBin gDGet (dVar 2) (dVar 5)) (dC (.int 0))) (dC (.int 0)))) (dVar 5))
noncomputable def dueT : Den := dLc (iRange1 (dBin gAdd (dVar 6) (dC (.int 1)))) [5] (.nm 5) (xYes) (dIf (xOf (dBin (gDIn false) (dVar 5) (dVar 2))) (dBin gDGet (dVar 2) (dVar 5)) (dTup (aCons (dC (.int 0)) (aCons (dC (.int 1)) (aNil)))))
theorem due_body : B__law_due = sSeq (sSet 2 (nDict)) (sSeq (sFor (iSeq (dCall F__law_draws [] (aCons (dLc (iSeq (dVar 1)) [7] (.nm 7) (xYes) (dLenum (dVar 7))) (aNil)))) (.tp [.nm 3, .nm 4]) [3, 4, 5] dueB) (sSeq (sSet 6 (dApp gMaxA (aCons dueM (aNil)))) (sRet (dApp gTuple (aCons dueT (aNil)))))) := rfl
def isPosD (L : List (Nat × Nat)) : D → Bool
  | .int i => decide (0 < getF L i.toNat)
  | _ => false
theorem num_pos {c M : Nat} (hM : M ≠ 0) : (0 < (mkRat (c : Int) M).num) ↔ 0 < c := by
  have h0 := num_mk0 (a := c) hM
  have hnn : 0 ≤ (mkRat (c : Int) M).num := by
    rw [Rat.num_mkRat, if_neg hM]
    exact Int.ediv_nonneg (by omega) (by omega)
  constructor
  · intro h; have : c ≠ 0 := fun z => by rw [h0.mpr z] at h; omega
    omega
  · intro h; have : (mkRat (c : Int) M).num ≠ 0 := fun z => by have := h0.mp z; omega
    omega
theorem ev_dueM {a0 a1 : D} {e6 e7 : Option D} {S : List O} {M : Nat} {L : List (Nat × Nat)} (hM : M ≠ 0) (hl : L.length < 1000000) :
    dueM [some a0, some a1, some (.ref S.length), none, none, none, e6, e7] (S ++ [fdO M L]) = .ok (.lst (((L.map (·.1)).filter fun k => decide (0 < getF L k)).map fun (k : Nat) => D.int (k : Nat))) (S ++ [fdO M L]) := by
  have i1 : iDictI (dVar 2) [some a0, some a1, some (.ref S.length), none, none, none, e6, e7] (S ++ [.fI (keysF L) (valsF M L)]) = .ok ⟨(keysF L).map kD, some (S.length, .fI (keysF L) (valsF M L))⟩ (S ++ [.fI (keysF L) (valsF M L)]) := by
    unfold iDictI
    show (match (S ++ [O.fI (keysF L) (valsF M L)])[S.length]? with
      | some (.fI ks xs) => if ks.length ≤ sizeLine then Res.ok (Itm.mk (ks.map kD) (some (S.length, O.fI ks xs))) (S ++ [O.fI (keysF L) (valsF M L)]) else .bad
      | _ => .bad) = _
    rw [get_last]
    exact if_pos (small_line (by unfold keysF; rw [List.length_map]; omega))
  have hl2 : (((keysF L).map kD).filter (isPosD L)).map id = ((L.map (·.1)).filter fun k => decide (0 < getF L k)).map fun (k : Nat) => D.int (k : Nat) := by
    rw [List.map_id]
    unfold keysF
    rw [List.map_map]
    have : (kD ∘ fun p : Nat × Nat => keyN p.1) = (fun (k : Nat) => D.int (k : Nat)) ∘ fun p : Nat × Nat => p.1 := rfl
    rw [this, ← List.map_map, List.filter_map]
    congr 1
  have e1 : dLc (iDictI (dVar 2)) [5] (.nm 5) (xOf (dBin (gGt) (dBin gIdx (dBin gDGet (dVar 2) (dVar 5)) (dC (.int 0))) (dC (.int 0)))) (dVar 5) [some a0, some a1, some (.ref S.length), none, none, none, e6, e7] (S ++ [.fI (keysF L) (valsF M L)]) = .ok (.lst ((((keysF L).map kD).filter (isPosD L)).map id)) (S ++ [.fI (keysF L) (valsF M L)]) := by
    refine dLc_g i1 (fun acc => grd_app (o := O.fI (keysF L) (valsF M L)) get_last _) (fun x hx acc => ?_) ?_
    · obtain ⟨ky, hk, rfl⟩ := List.mem_map.mp hx
      have hk' := hk
      unfold keysF at hk'
      obtain ⟨p, hp, rfl⟩ := List.mem_map.mp hk'
      refine ⟨_, tset_nm, ?_, fun _ => rfl⟩
      have q0 : (S ++ [O.fI (keysF L) (valsF M L)] ++ [O.lst acc])[S.length]? = some (.fI (keysF L) (valsF M L)) := by rw [List.getElem?_append_left (by simp)]; exact get_last
      have q1 : gDGet (.ref S.length) (.int (p.1 : Nat)) (S ++ [.fI (keysF L) (valsF M L)] ++ [.lst acc]) = .ok (fr (mkRat (getF L p.1 : Int) M)) (S ++ [.fI (keysF L) (valsF M L)] ++ [.lst acc]) := gDGet_of (readI_fI q0) rfl (lkF hk)
      have q2 : ∀ S, gIdx (fr (mkRat (getF L p.1 : Int) M)) (.int 0) S = .ok (.int (mkRat (getF L p.1 : Int) M).num) S := fun S => gIdx_tup0
      have q3 : decide (0 < (mkRat (getF L p.1 : Int) M).num) = isPosD L (kD (keyN p.1)) := by
        show _ = decide (0 < getF L ((p.1 : Int)).toNat)
        rw [Int.toNat_natCast, decide_eq_decide.mpr (num_pos hM)]
      have q4 : kD (keyN p.1) = .int (p.1 : Nat) := rfl
      rw [← q3, q4]
      simp -implicitDefEqProofs only [Dn.rbind_ok, Dn.rbind_bad, Dn.rbind_exc, Dn.obind_ok, Dn.obind_bad, Dn.nox_ok, Dn.dVar_zero, Dn.dVar_succ, Dn.dC_eq, Dn.dUn_eq, Dn.dBin_eq, Dn.dBl_eq, Dn.xOf_eq, Dn.xAnd_eq, Dn.xOr_eq, Dn.xNot_eq, Dn.xYes_eq, Dn.dAnd_eq, Dn.dOr_eq, Dn.dNot_eq, Dn.dIf_eq, Dn.aNil_eq, Dn.aCons_eq, Dn.dApp_eq, Dn.dTup_eq, Dn.dLst_eq, Dn.nLst_eq, Dn.dCall_eq, Dn.dChain_eq, Dn.sSet_eq, Dn.sRet_eq, Dn.sRetN_eq, Dn.sDrop_eq, Dn.sIf_eq, Dn.sNext_eq, Dn.sBrk_eq, Dn.sCnt_eq, Dn.sPar_eq, Dn.sPar3_eq, Dn.sAsg_eq, Dn.tset_nm, Dn.tset_tp, Dn.tsets_nil, Dn.tsets_cons, Dn.grd_none, Dn.wipeE_nil, Dn.wipeE_cons, Dn.gEq_int, Dn.gIsN_non, Dn.gIsN_int, Dn.gIsN_str, Dn.gIsN_tup, Dn.gIsN_bl, Dn.gIsN_ib, Dn.gIsN_nb, Dn.gIsN_sb, Dn.gIsN_tb, Dn.gAdd_int, Dn.gAugAdd_int, Dn.gSubI_int, Dn.gLt_int, Dn.gLe_int, Dn.gGt_int, Dn.gGe_int, Dn.gNeg_int, Dn.gAbs_int, Dn.gInt_int, Dn.gMax2_int, Dn.gMin2_int, Dn.asQ_tup, Dn.asQ_lst, Dn.asL_lst, Dn.gIdx_tup0, Dn.gIdx_tup1, Dn.gIdx_tup2, Dn.gLen_tup, Dn.gLen_lst, Dn.gLen_rol, Dn.gTuple_tup, Dn.gTuple_lst, Dn.gList_tup, Dn.gList_lst, Dn.sSetI_eq, Dn.dMtL_eq, Dn.iSeq_lst, Dn.iSeq_tup, Dn.sSeq_eq, Dn.startE, List.set_cons_zero, List.set_cons_succ, List.map_cons, List.map_nil, List.length_cons, List.length_nil, List.cons_append, List.nil_append, List.append_nil, List.replicate_succ, List.replicate_zero, if_true, if_false, ite_true, ite_false, Bool.false_eq_true, decide_true, decide_false, Nat.reduceSub, Nat.reduceAdd, Nat.reduceLeDiff, Bool.not_true, Bool.not_false, reduceIte, reduceCtorEq, Nat.zero_add, Nat.add_zero, wipeC, q1, q2]
    · rw [hl2]
      exact lows_pure _ _ (pure_nums _)
  rw [hl2] at e1
  unfold dueM dLock
  show (match (S ++ [fdO M L])[S.length]? with
    | some (.dI ks xs) => rbind (nox (dLc (iDictI (dVar 2)) [5] (.nm 5) (xOf (dBin (gGt) (dBin gIdx (dBin gDGet (dVar 2) (dVar 5)) (dC (.int 0))) (dC (.int 0)))) (dVar 5) [some a0, some a1, some (.ref S.length), none, none, none, e6, e7] ((S ++ [fdO M L]).set S.length (O.fI ks xs)))) fun d S1 => match S1[S.length]? with
      | some (.fI ks1 xs1) => Res.ok d (S1.set S.length (.dI ks1 xs1))
      | _ => .bad
    | _ => .bad) = _
  rw [get_last]
  show rbind (nox (dLc (iDictI (dVar 2)) [5] (.nm 5) (xOf (dBin (gGt) (dBin gIdx (dBin gDGet (dVar 2) (dVar 5)) (dC (.int 0))) (dC (.int 0)))) (dVar 5) [some a0, some a1, some (.ref S.length), none, none, none, e6, e7] ((S ++ [fdO M L]).set S.length (O.fI (keysF L) (valsF M L))))) _ = _
  rw [set_last, e1, nox_ok, rbind_ok, get_last]
  show Res.ok _ ((S ++ [O.fI (keysF L) (valsF M L)]).set S.length (.dI (keysF L) (valsF M L))) = _
  rw [set_last]
  rfl
theorem ev_dueT {a0 a1 : D} {e7 : Option D} {S : List O} {M m : Nat} {L : List (Nat × Nat)} (hM : M ≠ 0) (hm : m < 1000000) :
    dueT [some a0, some a1, some (.ref S.length), none, none, none, some (.int (m : Nat)), e7] (S ++ [fdO M L]) = .ok (.lst (mks M ((List.range (m + 1)).map (getF L)))) (S ++ [fdO M L]) := by
  have i1 : iRange1 (dBin gAdd (dVar 6) (dC (.int 1))) [some a0, some a1, some (.ref S.length), none, none, none, some (.int (m : Nat)), e7] (S ++ [fdO M L]) = .ok ⟨rangeL 0 (m + 1), none⟩ (S ++ [fdO M L]) := by
    refine iRange1_of (k := m + 1) ?_ (by omega)
    simp -implicitDefEqProofs only [Dn.rbind_ok, Dn.rbind_bad, Dn.rbind_exc, Dn.obind_ok, Dn.obind_bad, Dn.nox_ok, Dn.dVar_zero, Dn.dVar_succ, Dn.dC_eq, Dn.dUn_eq, Dn.dBin_eq, Dn.dBl_eq, Dn.xOf_eq, Dn.xAnd_eq, Dn.xOr_eq, Dn.xNot_eq, Dn.xYes_eq, Dn.dAnd_eq, Dn.dOr_eq, Dn.dNot_eq, Dn.dIf_eq, Dn.aNil_eq, Dn.aCons_eq, Dn.dApp_eq, Dn.dTup_eq, Dn.dLst_eq, Dn.nLst_eq, Dn.dCall_eq, Dn.dChain_eq, Dn.sSet_eq, Dn.sRet_eq, Dn.sRetN_eq, Dn.sDrop_eq, Dn.sIf_eq, Dn.sNext_eq, Dn.sBrk_eq, Dn.sCnt_eq, Dn.sPar_eq, Dn.sPar3_eq, Dn.sAsg_eq, Dn.tset_nm, Dn.tset_tp, Dn.tsets_nil, Dn.tsets_cons, Dn.grd_none, Dn.wipeE_nil, Dn.wipeE_cons, Dn.gEq_int, Dn.gIsN_non, Dn.gIsN_int, Dn.gIsN_str, Dn.gIsN_tup, Dn.gIsN_bl, Dn.gIsN_ib, Dn.gIsN_nb, Dn.gIsN_sb, Dn.gIsN_tb, Dn.gAdd_int, Dn.gAugAdd_int, Dn.gSubI_int, Dn.gLt_int, Dn.gLe_int, Dn.gGt_int, Dn.gGe_int, Dn.gNeg_int, Dn.gAbs_int, Dn.gInt_int, Dn.gMax2_int, Dn.gMin2_int, Dn.asQ_tup, Dn.asQ_lst, Dn.asL_lst, Dn.gIdx_tup0, Dn.gIdx_tup1, Dn.gIdx_tup2, Dn.gLen_tup, Dn.gLen_lst, Dn.gLen_rol, Dn.gTuple_tup, Dn.gTuple_lst, Dn.gList_tup, Dn.gList_lst, Dn.sSetI_eq, Dn.dMtL_eq, Dn.iSeq_lst, Dn.iSeq_tup, Dn.sSeq_eq, Dn.startE, List.set_cons_zero, List.set_cons_succ, List.map_cons, List.map_nil, List.length_cons, List.length_nil, List.cons_append, List.nil_append, List.append_nil, List.replicate_succ, List.replicate_zero, if_true, if_false, ite_true, ite_false, Bool.false_eq_true, decide_true, decide_false, Nat.reduceSub, Nat.reduceAdd, Nat.reduceLeDiff, Bool.not_true, Bool.not_false, reduceIte, reduceCtorEq, Nat.zero_add, Nat.add_zero]
    rw [Int.natCast_add]
    rfl
  unfold dueT
  refine dLc_rel i1 (fun acc => trivial) ?_ (lows_pure _ _ (pure_mks _ _))
  unfold rangeL mks
  rw [List.map_map]
  have key : ∀ ks : List Nat, F2 (fun x y => ∀ acc : List D, ∃ ρ1, tset (.nm 5) x (wipeC [some a0, some a1, some (.ref S.length), none, none, none, some (.int (m : Nat)), e7] [5]) = some ρ1 ∧ (dIf (xOf (dBin (gDIn false) (dVar 5) (dVar 2))) (dBin gDGet (dVar 2) (dVar 5)) (dTup (aCons (dC (.int 0)) (aCons (dC (.int 1)) (aNil))))) ρ1 (S ++ [fdO M L] ++ [.lst acc]) = .ok y (S ++ [fdO M L] ++ [.lst acc]))
      (ks.map fun (i : Nat) => D.int (0 + (i : Nat))) (ks.map ((fun (c : Nat) => fr (mkRat (c : Int) M)) ∘ getF L)) := by
    intro ks
    induction ks with
    | nil => exact .nil
    | cons k ks ih =>
      refine .cons (fun acc => ⟨[some a0, some a1, some (.ref S.length), none, none, some (.int (k : Nat)), some (.int (m : Nat)), e7], ?_, ?_⟩) ih
      · have : ((0 : Int) + (k : Nat)) = (k : Nat) := Int.zero_add _
        show tset (.nm 5) (.int (0 + (k : Nat))) _ = _
        rw [this]
        simp -implicitDefEqProofs only [Dn.rbind_ok, Dn.rbind_bad, Dn.rbind_exc, Dn.obind_ok, Dn.obind_bad, Dn.nox_ok, Dn.dVar_zero, Dn.dVar_succ, Dn.dC_eq, Dn.dUn_eq, Dn.dBin_eq, Dn.dBl_eq, Dn.xOf_eq, Dn.xAnd_eq, Dn.xOr_eq, Dn.xNot_eq, Dn.xYes_eq, Dn.dAnd_eq, Dn.dOr_eq, Dn.dNot_eq, Dn.dIf_eq, Dn.aNil_eq, Dn.aCons_eq, Dn.dApp_eq, Dn.dTup_eq, Dn.dLst_eq, Dn.nLst_eq, Dn.dCall_eq, Dn.dChain_eq, Dn.sSet_eq, Dn.sRet_eq, Dn.sRetN_eq, Dn.sDrop_eq, Dn.sIf_eq, Dn.sNext_eq, Dn.sBrk_eq, Dn.sCnt_eq, Dn.sPar_eq, Dn.sPar3_eq, Dn.sAsg_eq, Dn.tset_nm, Dn.tset_tp, Dn.tsets_nil, Dn.tsets_cons, Dn.grd_none, Dn.wipeE_nil, Dn.wipeE_cons, Dn.gEq_int, Dn.gIsN_non, Dn.gIsN_int, Dn.gIsN_str, Dn.gIsN_tup, Dn.gIsN_bl, Dn.gIsN_ib, Dn.gIsN_nb, Dn.gIsN_sb, Dn.gIsN_tb, Dn.gAdd_int, Dn.gAugAdd_int, Dn.gSubI_int, Dn.gLt_int, Dn.gLe_int, Dn.gGt_int, Dn.gGe_int, Dn.gNeg_int, Dn.gAbs_int, Dn.gInt_int, Dn.gMax2_int, Dn.gMin2_int, Dn.asQ_tup, Dn.asQ_lst, Dn.asL_lst, Dn.gIdx_tup0, Dn.gIdx_tup1, Dn.gIdx_tup2, Dn.gLen_tup, Dn.gLen_lst, Dn.gLen_rol, Dn.gTuple_tup, Dn.gTuple_lst, Dn.gList_tup, Dn.gList_lst, Dn.sSetI_eq, Dn.dMtL_eq, Dn.iSeq_lst, Dn.iSeq_tup, Dn.sSeq_eq, Dn.startE, List.set_cons_zero, List.set_cons_succ, List.map_cons, List.map_nil, List.length_cons, List.length_nil, List.cons_append, List.nil_append, List.append_nil, List.replicate_succ, List.replicate_zero, if_true, if_false, ite_true, ite_false, Bool.false_eq_true, decide_true, decide_false, Nat.reduceSub, Nat.reduceAdd, Nat.reduceLeDiff, Bool.not_true, Bool.not_false, reduceIte, reduceCtorEq, Nat.zero_add, Nat.add_zero, wipeC]
      · have q0 : (S ++ [fdO M L] ++ [O.lst acc])[S.length]? = some (fdO M L) := by rw [List.getElem?_append_left (by simp)]; exact get_last
        exact ev_found (x := dVar 2) (y := dVar 5) (n := S.length) (k := k) hM (readI_ref q0) (fun S => rfl) (fun S => rfl)
  exact key _
/-- the rows as told -/
def rowD (r : Nat × List Nat) : D := .tup (mks r.1 r.2)
theorem ev_due {T : Tre} {rs : List (Nat × List Nat)} {S : List O} {A : List Nat} (h : ∀ r ∈ rs, r.1 ≠ 0 ∧ r.1 ≤ 60 ∧ r.2.sum = r.1 ∧ r.2.length ≤ 10) (h5 : rs.length ≤ 5) (hs : T.size < 60) (hok : T.ok rs.length)
    (hA0 : A ≠ []) (hAt : trimV A = A) (hA : ∀ k, A.getD k 0 = SD (drL [([], 1)] (rs.map (·.2))) (fun w => if Tre.ev opN (sgN w) T = k then 1 else 0)) (hAl : A.length < 1000) :
    F__law_due [T.val, .tup (rs.map rowD)] S = .ok (.tup (mks (rs.map (·.1)).prod A)) S := by
  have hM : (rs.map (·.1)).prod ≠ 0 := by
    have := prod_pos (fun r : Nat × List Nat => r.1) rs fun r hr => Nat.pos_of_ne_zero (h r hr).1
    omega
  have hMl : (rs.map (·.1)).prod < 4294967296 := by
    have key : ∀ l : List (Nat × List Nat), (∀ r ∈ l, r.1 ≤ 60) → (l.map (·.1)).prod ≤ 60 ^ l.length := by
      intro l
      induction l with
      | nil => intro _; simp
      | cons r l ih =>
        intro hl
        rw [List.map_cons, List.prod_cons, List.length_cons, Nat.pow_succ, Nat.mul_comm]
        exact Nat.mul_le_mul (ih fun q hq => hl q (List.mem_cons_of_mem _ hq)) (hl r List.mem_cons_self)
    have h1 := key rs fun r hr => (h r hr).2.1
    have h2 : 60 ^ rs.length ≤ 60 ^ 5 := Nat.pow_le_pow_right (by omega) h5
    omega
  obtain ⟨e1, ok⟩ := ev_draws (rs := rs) (S := S ++ [fdO (rs.map (·.1)).prod []]) (fun r hr => ⟨(h r hr).1, (h r hr).2.1, fun x hx => by rw [← (h r hr).2.2.1]; exact le_of_mem hx, (h r hr).2.2.2⟩) h5
  have hsum : ((drL [([], 1)] (rs.map (·.2))).map (·.2)).sum = (rs.map (·.1)).prod := by
    rw [← SD_one, SD_L]
    unfold SD
    rw [List.map_cons, List.map_nil, List.sum_cons, List.sum_nil, R_one, List.map_map]
    have : rs.map (List.sum ∘ fun r : Nat × List Nat => r.2) = rs.map (·.1) := List.map_congr_left fun r hr => (h r hr).2.2.1
    rw [this]
    simp
  have hlen : (drL [([], 1)] (rs.map (·.2))).length ≤ 100000 := by
    have h2 : 10 ^ rs.length ≤ 10 ^ 5 := Nat.pow_le_pow_right (by omega) h5
    exact Nat.le_trans ok.sz h2
  generalize hM' : (rs.map (·.1)).prod = M at *
  generalize drL [([], 1)] (rs.map (·.2)) = Ds at *
  obtain ⟨e2, hn, hll⟩ := due_loop (T := T) (e1 := some (.tup (rs.map rowD))) (S := S) hM hMl hs hok Ds [] (fun p hp => ok.ln p hp) List.nodup_nil (by rw [hsum]; simp) (by simp; omega)
  have hg : ∀ k, getF (Ds.foldl (addD T) []) k = A.getD k 0 := fun k => by rw [foldl_getF, hA, getF, Nat.zero_add]
  generalize Ds.foldl (addD T) [] = L at *
  have i0 : iSeq (dVar 1) [some T.val, some (.tup (rs.map rowD)), some (.ref S.length), none, none, none, none, none] (S ++ [fdO M []]) = .ok ⟨rs.map rowD, none⟩ (S ++ [fdO M []]) := iSeq_tup rfl
  have e0 : dLc (iSeq (dVar 1)) [7] (.nm 7) (xYes) (dLenum (dVar 7)) [some T.val, some (.tup (rs.map rowD)), some (.ref S.length), none, none, none, none, none] (S ++ [fdO M []]) = .ok (.lst (rs.map mkEn)) (S ++ [fdO M []]) := by
    refine dLc_rel i0 (fun acc => trivial) ?_ ?_
    · have key : ∀ l : List (Nat × List Nat), F2 (fun x y => ∀ acc : List D, ∃ ρ1, tset (.nm 7) x (wipeC [some T.val, some (.tup (rs.map rowD)), some (.ref S.length), none, none, none, none, none] [7]) = some ρ1 ∧ dLenum (dVar 7) ρ1 (S ++ [fdO M []] ++ [.lst acc]) = .ok y (S ++ [fdO M []] ++ [.lst acc])) (l.map rowD) (l.map mkEn) := by
        intro l
        induction l with
        | nil => exact .nil
        | cons r l ih => exact .cons (fun acc => ⟨_, tset_nm, rfl⟩) ih
      exact key rs
    · refine lows_pure _ _ (pures_iff.mpr fun x hx => ?_)
      obtain ⟨r, _, rfl⟩ := List.mem_map.mp hx
      show pureDs (enumL (mks r.1 r.2)) = true
      refine pures_iff.mpr fun y hy => ?_
      unfold enumL at hy
      obtain ⟨⟨z, i⟩, hz, rfl⟩ := List.mem_map.mp hy
      obtain ⟨_, _, e⟩ := List.mem_zipIdx hz
      have hz2 : pureD z = true := pures_iff.mp (pure_mks r.1 r.2) z (by rw [e]; exact List.getElem_mem _)
      simp [pureD, pureDs, hz2]
  have e3 := ev_dueM (a0 := T.val) (a1 := .tup (rs.map rowD)) (e6 := none) (e7 := none) (S := S) (M := M) (L := L) hM (by simp at hll; omega)
  have hlast := trim_last hAt hA0
  have hAp := List.length_pos_iff.mpr hA0
  have e4 : maxL (((L.map (·.1)).filter fun k => decide (0 < getF L k)).map fun (k : Nat) => ((k : Nat) : Int)) = some ((A.length - 1 : Nat) : Int) := by
    refine maxL_eq ?_ fun y hy => ?_
    · refine List.mem_map.mpr ⟨A.length - 1, List.mem_filter.mpr ⟨?_, ?_⟩, rfl⟩
      · refine mem_keysF.mp ?_
        refine Decidable.byContradiction fun z => ?_
        have := getF_none z
        rw [hg] at this
        exact hlast this
      · rw [hg]
        exact decide_eq_true (Nat.pos_of_ne_zero hlast)
    · obtain ⟨k, hk, rfl⟩ := List.mem_map.mp hy
      have hk2 := (List.mem_filter.mp hk).2
      rw [hg] at hk2
      have hk3 : 0 < A.getD k 0 := by simpa using hk2
      have : k < A.length := Decidable.byContradiction fun z => by rw [getD_out (by omega)] at hk3; omega
      omega
  have e5 : gMaxA [.lst (((L.map (·.1)).filter fun k => decide (0 < getF L k)).map fun (k : Nat) => D.int (k : Nat))] (S ++ [fdO M L]) = .ok (.int ((A.length - 1 : Nat) : Int)) (S ++ [fdO M L]) := by
    refine gMaxA_of (is := ((L.map (·.1)).filter fun k => decide (0 < getF L k)).map fun (k : Nat) => ((k : Nat) : Int)) ?_ e4
    rw [List.map_map]
    rfl
  have e6 := ev_dueT (a0 := T.val) (a1 := .tup (rs.map rowD)) (e7 := none) (S := S) (M := M) (m := A.length - 1) (L := L) hM (by omega)
  have e7 : (List.range (A.length - 1 + 1)).map (getF L) = A := by
    rw [show A.length - 1 + 1 = A.length by omega]
    have : getF L = fun k => A.getD k 0 := by funext k; exact hg k
    rw [this, range_getD]
  rw [e7] at e6
  refine def_end (S2 := S ++ [fdO M L]) (d := .tup (mks M A)) rfl ?_ (frzD_low _ (low_pure _ _ (by simpa [pureD] using pure_mks _ _))) (fun i o hi ho => .inl (by rwa [List.getElem?_append_left hi] at ho)) (by simp)
  rw [due_body]
  have n0 : ∀ ρ, nDict ρ S = .ok (.ref S.length) (S ++ [fdO M []]) := fun ρ => rfl
  have i2 : iSeq (dCall F__law_draws [] (aCons (dLc (iSeq (dVar 1)) [7] (.nm 7) (xYes) (dLenum (dVar 7))) (aNil))) [some T.val, some (.tup (rs.map rowD)), some (.ref S.length), none, none, none, none, none] (S ++ [fdO M []]) = .ok ⟨Ds.map (mkDw M), none⟩ (S ++ [fdO M []]) := by
    refine iSeq_lst ?_
    simp -implicitDefEqProofs only [Dn.rbind_ok, Dn.rbind_bad, Dn.rbind_exc, Dn.obind_ok, Dn.obind_bad, Dn.nox_ok, Dn.dVar_zero, Dn.dVar_succ, Dn.dC_eq, Dn.dUn_eq, Dn.dBin_eq, Dn.dBl_eq, Dn.xOf_eq, Dn.xAnd_eq, Dn.xOr_eq, Dn.xNot_eq, Dn.xYes_eq, Dn.dAnd_eq, Dn.dOr_eq, Dn.dNot_eq, Dn.dIf_eq, Dn.aNil_eq, Dn.aCons_eq, Dn.dApp_eq, Dn.dTup_eq, Dn.dLst_eq, Dn.nLst_eq, Dn.dCall_eq, Dn.dChain_eq, Dn.sSet_eq, Dn.sRet_eq, Dn.sRetN_eq, Dn.sDrop_eq, Dn.sIf_eq, Dn.sNext_eq, Dn.sBrk_eq, Dn.sCnt_eq, Dn.sPar_eq, Dn.sPar3_eq, Dn.sAsg_eq, Dn.tset_nm, Dn.tset_tp, Dn.tsets_nil, Dn.tsets_cons, Dn.grd_none, Dn.wipeE_nil, Dn.wipeE_cons, Dn.gEq_int, Dn.gIsN_non, Dn.gIsN_int, Dn.gIsN_str, Dn.gIsN_tup, Dn.gIsN_bl, Dn.gIsN_ib, Dn.gIsN_nb, Dn.gIsN_sb, Dn.gIsN_tb, Dn.gAdd_int, Dn.gAugAdd_int, Dn.gSubI_int, Dn.gLt_int, Dn.gLe_int, Dn.gGt_int, Dn.gGe_int, Dn.gNeg_int, Dn.gAbs_int, Dn.gInt_int, Dn.gMax2_int, Dn.gMin2_int, Dn.asQ_tup, Dn.asQ_lst, Dn.asL_lst, Dn.gIdx_tup0, Dn.gIdx_tup1, Dn.gIdx_tup2, Dn.gLen_tup, Dn.gLen_lst, Dn.gLen_rol, Dn.gTuple_tup, Dn.gTuple_lst, Dn.gList_tup, Dn.gList_lst, Dn.sSetI_eq, Dn.dMtL_eq, Dn.iSeq_lst, Dn.iSeq_tup, Dn.sSeq_eq, Dn.startE, List.set_cons_zero, List.set_cons_succ, List.map_cons, List.map_nil, List.length_cons, List.length_nil, List.cons_append, List.nil_append, List.append_nil, List.replicate_succ, List.replicate_zero, if_true, if_false, ite_true, ite_false, Bool.false_eq_true, decide_true, decide_false, Nat.reduceSub, Nat.reduceAdd, Nat.reduceLeDiff, Bool.not_true, Bool.not_false, reduceIte, reduceCtorEq, Nat.zero_add, Nat.add_zero, e0, e1]
  have st : startE 8 [T.val, .tup (rs.map rowD)] = [some T.val, some (.tup (rs.map rowD)), none, none, none, none, none, none] := rfl
  rw [st]
  generalize rs.map rowD = rows at *
  generalize Ds.map (mkDw M) = Dm at *
  generalize ((L.map (·.1)).filter fun k => decide (0 < getF L k)).map (fun (k : Nat) => D.int (k : Nat)) = mx at *
  simp -implicitDefEqProofs only [Dn.rbind_ok, Dn.rbind_bad, Dn.rbind_exc, Dn.obind_ok, Dn.obind_bad, Dn.nox_ok, Dn.dVar_zero, Dn.dVar_succ, Dn.dC_eq, Dn.dUn_eq, Dn.dBin_eq, Dn.dBl_eq, Dn.xOf_eq, Dn.xAnd_eq, Dn.xOr_eq, Dn.xNot_eq, Dn.xYes_eq, Dn.dAnd_eq, Dn.dOr_eq, Dn.dNot_eq, Dn.dIf_eq, Dn.aNil_eq, Dn.aCons_eq, Dn.dApp_eq, Dn.dTup_eq, Dn.dLst_eq, Dn.nLst_eq, Dn.dCall_eq, Dn.dChain_eq, Dn.sSet_eq, Dn.sRet_eq, Dn.sRetN_eq, Dn.sDrop_eq, Dn.sIf_eq, Dn.sNext_eq, Dn.sBrk_eq, Dn.sCnt_eq, Dn.sPar_eq, Dn.sPar3_eq, Dn.sAsg_eq, Dn.tset_nm, Dn.tset_tp, Dn.tsets_nil, Dn.tsets_cons, Dn.grd_none, Dn.wipeE_nil, Dn.wipeE_cons, Dn.gEq_int, Dn.gIsN_non, Dn.gIsN_int, Dn.gIsN_str, Dn.gIsN_tup, Dn.gIsN_bl, Dn.gIsN_ib, Dn.gIsN_nb, Dn.gIsN_sb, Dn.gIsN_tb, Dn.gAdd_int, Dn.gAugAdd_int, Dn.gSubI_int, Dn.gLt_int, Dn.gLe_int, Dn.gGt_int, Dn.gGe_int, Dn.gNeg_int, Dn.gAbs_int, Dn.gInt_int, Dn.gMax2_int, Dn.gMin2_int, Dn.asQ_tup, Dn.asQ_lst, Dn.asL_lst, Dn.gIdx_tup0, Dn.gIdx_tup1, Dn.gIdx_tup2, Dn.gLen_tup, Dn.gLen_lst, Dn.gLen_rol, Dn.gTuple_tup, Dn.gTuple_lst, Dn.gList_tup, Dn.gList_lst, Dn.sSetI_eq, Dn.dMtL_eq, Dn.iSeq_lst, Dn.iSeq_tup, Dn.sSeq_eq, Dn.startE, List.set_cons_zero, List.set_cons_succ, List.map_cons, List.map_nil, List.length_cons, List.length_nil, List.cons_append, List.nil_append, List.append_nil, List.replicate_succ, List.replicate_zero, if_true, if_false, ite_true, ite_false, Bool.false_eq_true, decide_true, decide_false, Nat.reduceSub, Nat.reduceAdd, Nat.reduceLeDiff, Bool.not_true, Bool.not_false, reduceIte, reduceCtorEq, Nat.zero_add, Nat.add_zero, n0, sFor_eq, i2, e2, e3, e5, e6]
end Cm

set_option maxHeartbeats 1000000
namespace Cm
open PySem PySem.Spec PyProof.Rows L2 Dn Mt
/-! ### told as due -/
theorem same_eq {n : Nat} {ds : List D} {S : Store} : F__law_same (n + 1) ds S = defD 2 4 (R__law_same (F__law_same n)) ds S := by rw [F__law_same]
theorem same_int {n : Nat} {i : Int} {S : Store} : F__law_same (n + 1) [.int i, .int i] S = .ok (.bl true) S := by
  rw [same_eq]
  refine def_rt rfl ?_ rfl
  simp -implicitDefEqProofs only [Dn.rbind_ok, Dn.rbind_bad, Dn.rbind_exc, Dn.obind_ok, Dn.obind_bad, Dn.nox_ok, Dn.dVar_zero, Dn.dVar_succ, Dn.dC_eq, Dn.dUn_eq, Dn.dBin_eq, Dn.dBl_eq, Dn.xOf_eq, Dn.xAnd_eq, Dn.xOr_eq, Dn.xNot_eq, Dn.xYes_eq, Dn.dAnd_eq, Dn.dOr_eq, Dn.dNot_eq, Dn.dIf_eq, Dn.aNil_eq, Dn.aCons_eq, Dn.dApp_eq, Dn.dTup_eq, Dn.dLst_eq, Dn.nLst_eq, Dn.dCall_eq, Dn.dChain_eq, Dn.sSet_eq, Dn.sRet_eq, Dn.sRetN_eq, Dn.sDrop_eq, Dn.sIf_eq, Dn.sNext_eq, Dn.sBrk_eq, Dn.sCnt_eq, Dn.sPar_eq, Dn.sPar3_eq, Dn.sAsg_eq, Dn.tset_nm, Dn.tset_tp, Dn.tsets_nil, Dn.tsets_cons, Dn.grd_none, Dn.wipeE_nil, Dn.wipeE_cons, Dn.gEq_int, Dn.gIsN_non, Dn.gIsN_int, Dn.gIsN_str, Dn.gIsN_tup, Dn.gIsN_bl, Dn.gIsN_ib, Dn.gIsN_nb, Dn.gIsN_sb, Dn.gIsN_tb, Dn.gAdd_int, Dn.gAugAdd_int, Dn.gSubI_int, Dn.gLt_int, Dn.gLe_int, Dn.gGt_int, Dn.gGe_int, Dn.gNeg_int, Dn.gAbs_int, Dn.gInt_int, Dn.gMax2_int, Dn.gMin2_int, Dn.asQ_tup, Dn.asQ_lst, Dn.asL_lst, Dn.gIdx_tup0, Dn.gIdx_tup1, Dn.gIdx_tup2, Dn.gLen_tup, Dn.gLen_lst, Dn.gLen_rol, Dn.gTuple_tup, Dn.gTuple_lst, Dn.gList_tup, Dn.gList_lst, Dn.sSetI_eq, Dn.dMtL_eq, Dn.iSeq_lst, Dn.iSeq_tup, Dn.sSeq_eq, Dn.startE, List.set_cons_zero, List.set_cons_succ, List.map_cons, List.map_nil, List.length_cons, List.length_nil, List.cons_append, List.nil_append, List.append_nil, List.replicate_succ, List.replicate_zero, if_true, if_false, ite_true, ite_false, Bool.false_eq_true, decide_true, decide_false, Nat.reduceSub, Nat.reduceAdd, Nat.reduceLeDiff, Bool.not_true, Bool.not_false, reduceIte, reduceCtorEq, Nat.zero_add, Nat.add_zero, R__law_same, isi_ti, isi_si, isi_ii, isi_bi]
theorem iZip_tup {f1 f2 : Den} {ρ : Dn.Env} {xs ys : List D} {S S1 S2 : Store} (h1 : f1 ρ S = .ok (.tup xs) S1) (h2 : f2 ρ S1 = .ok (.tup ys) S2) : Dn.iZip f1 f2 ρ S = .ok ⟨zipL xs ys, none⟩ S2 := by
  unfold Dn.iZip
  rw [h1, rbind_ok, h2]
  rfl
theorem same_loop {n : Nat} {e0 e1 : Option D} {S : Store} : ∀ xs : List D, (∀ x ∈ xs, F__law_same n [x, x] S = .ok (.bl true) S) →
    forD (.tp [.nm 2, .nm 3]) [2, 3] (sIf (xNot (xOf (dCall (F__law_same n) [] (aCons (dVar 2) (aCons (dVar 3) (aNil)))))) (sRet (dC (.bl false))) (sNext)) none (zipL xs xs) [e0, e1, none, none] S = .nx [e0, e1, none, none] S
  | [], h => forD_nil
  | x :: xs, h => by
    have ih := same_loop (n := n) (e0 := e0) (e1 := e1) (S := S) xs fun y hy => h y (List.mem_cons_of_mem _ hy)
    have e : zipL (x :: xs) (x :: xs) = .tup [x, x] :: zipL xs xs := rfl
    have e2 := h x List.mem_cons_self
    rw [e, forD_cons]
    have t1 : tset (.tp [.nm 2, .nm 3]) (.tup [x, x]) [e0, e1, none, none] = some [e0, e1, some x, some x] := by
      simp -implicitDefEqProofs only [Dn.rbind_ok, Dn.rbind_bad, Dn.rbind_exc, Dn.obind_ok, Dn.obind_bad, Dn.nox_ok, Dn.dVar_zero, Dn.dVar_succ, Dn.dC_eq, Dn.dUn_eq, Dn.dBin_eq, Dn.dBl_eq, Dn.xOf_eq, Dn.xAnd_eq, Dn.xOr_eq, Dn.xNot_eq, Dn.xYes_eq, Dn.dAnd_eq, Dn.dOr_eq, Dn.dNot_eq, Dn.dIf_eq, Dn.aNil_eq, Dn.aCons_eq, Dn.dApp_eq, Dn.dTup_eq, Dn.dLst_eq, Dn.nLst_eq, Dn.dCall_eq, Dn.dChain_eq, Dn.sSet_eq, Dn.sRet_eq, Dn.sRetN_eq, Dn.sDrop_eq, Dn.sIf_eq, Dn.sNext_eq, Dn.sBrk_eq, Dn.sCnt_eq, Dn.sPar_eq, Dn.sPar3_eq, Dn.sAsg_eq, Dn.tset_nm, Dn.tset_tp, Dn.tsets_nil, Dn.tsets_cons, Dn.grd_none, Dn.wipeE_nil, Dn.wipeE_cons, Dn.gEq_int, Dn.gIsN_non, Dn.gIsN_int, Dn.gIsN_str, Dn.gIsN_tup, Dn.gIsN_bl, Dn.gIsN_ib, Dn.gIsN_nb, Dn.gIsN_sb, Dn.gIsN_tb, Dn.gAdd_int, Dn.gAugAdd_int, Dn.gSubI_int, Dn.gLt_int, Dn.gLe_int, Dn.gGt_int, Dn.gGe_int, Dn.gNeg_int, Dn.gAbs_int, Dn.gInt_int, Dn.gMax2_int, Dn.gMin2_int, Dn.asQ_tup, Dn.asQ_lst, Dn.asL_lst, Dn.gIdx_tup0, Dn.gIdx_tup1, Dn.gIdx_tup2, Dn.gLen_tup, Dn.gLen_lst, Dn.gLen_rol, Dn.gTuple_tup, Dn.gTuple_lst, Dn.gList_tup, Dn.gList_lst, Dn.sSetI_eq, Dn.dMtL_eq, Dn.iSeq_lst, Dn.iSeq_tup, Dn.sSeq_eq, Dn.startE, List.set_cons_zero, List.set_cons_succ, List.map_cons, List.map_nil, List.length_cons, List.length_nil, List.cons_append, List.nil_append, List.append_nil, List.replicate_succ, List.replicate_zero, if_true, if_false, ite_true, ite_false, Bool.false_eq_true, decide_true, decide_false, Nat.reduceSub, Nat.reduceAdd, Nat.reduceLeDiff, Bool.not_true, Bool.not_false, reduceIte, reduceCtorEq, Nat.zero_add, Nat.add_zero]
    rw [t1]
    simp -implicitDefEqProofs only [Dn.rbind_ok, Dn.rbind_bad, Dn.rbind_exc, Dn.obind_ok, Dn.obind_bad, Dn.nox_ok, Dn.dVar_zero, Dn.dVar_succ, Dn.dC_eq, Dn.dUn_eq, Dn.dBin_eq, Dn.dBl_eq, Dn.xOf_eq, Dn.xAnd_eq, Dn.xOr_eq, Dn.xNot_eq, Dn.xYes_eq, Dn.dAnd_eq, Dn.dOr_eq, Dn.dNot_eq, Dn.dIf_eq, Dn.aNil_eq, Dn.aCons_eq, Dn.dApp_eq, Dn.dTup_eq, Dn.dLst_eq, Dn.nLst_eq, Dn.dCall_eq, Dn.dChain_eq, Dn.sSet_eq, Dn.sRet_eq, Dn.sRetN_eq, Dn.sDrop_eq, Dn.sIf_eq, Dn.sNext_eq, Dn.sBrk_eq, Dn.sCnt_eq, Dn.sPar_eq, Dn.sPar3_eq, Dn.sAsg_eq, Dn.tset_nm, Dn.tset_tp, Dn.tsets_nil, Dn.tsets_cons, Dn.grd_none, Dn.wipeE_nil, Dn.wipeE_cons, Dn.gEq_int, Dn.gIsN_non, Dn.gIsN_int, Dn.gIsN_str, Dn.gIsN_tup, Dn.gIsN_bl, Dn.gIsN_ib, Dn.gIsN_nb, Dn.gIsN_sb, Dn.gIsN_tb, Dn.gAdd_int, Dn.gAugAdd_int, Dn.gSubI_int, Dn.gLt_int, Dn.gLe_int, Dn.gGt_int, Dn.gGe_int, Dn.gNeg_int, Dn.gAbs_int, Dn.gInt_int, Dn.gMax2_int, Dn.gMin2_int, Dn.asQ_tup, Dn.asQ_lst, Dn.asL_lst, Dn.gIdx_tup0, Dn.gIdx_tup1, Dn.gIdx_tup2, Dn.gLen_tup, Dn.gLen_lst, Dn.gLen_rol, Dn.gTuple_tup, Dn.gTuple_lst, Dn.gList_tup, Dn.gList_lst, Dn.sSetI_eq, Dn.dMtL_eq, Dn.iSeq_lst, Dn.iSeq_tup, Dn.sSeq_eq, Dn.startE, List.set_cons_zero, List.set_cons_succ, List.map_cons, List.map_nil, List.length_cons, List.length_nil, List.cons_append, List.nil_append, List.append_nil, List.replicate_succ, List.replicate_zero, if_true, if_false, ite_true, ite_false, Bool.false_eq_true, decide_true, decide_false, Nat.reduceSub, Nat.reduceAdd, Nat.reduceLeDiff, Bool.not_true, Bool.not_false, reduceIte, reduceCtorEq, Nat.zero_add, Nat.add_zero, e2]
    exact ih
theorem same_tup {n : Nat} {xs : List D} {S : Store} (h : ∀ x ∈ xs, F__law_same n [x, x] S = .ok (.bl true) S) : F__law_same (n + 1) [.tup xs, .tup xs] S = .ok (.bl true) S := by
  rw [same_eq]
  refine def_rt rfl ?_ rfl
  have i1 : Dn.iZip (dVar 0) (dVar 1) [some (.tup xs), some (.tup xs), none, none] S = .ok ⟨zipL xs xs, none⟩ S := iZip_tup rfl rfl
  have e1 := same_loop (n := n) (e0 := some (.tup xs)) (e1 := some (.tup xs)) (S := S) xs h
  simp -implicitDefEqProofs only [Dn.rbind_ok, Dn.rbind_bad, Dn.rbind_exc, Dn.obind_ok, Dn.obind_bad, Dn.nox_ok, Dn.dVar_zero, Dn.dVar_succ, Dn.dC_eq, Dn.dUn_eq, Dn.dBin_eq, Dn.dBl_eq, Dn.xOf_eq, Dn.xAnd_eq, Dn.xOr_eq, Dn.xNot_eq, Dn.xYes_eq, Dn.dAnd_eq, Dn.dOr_eq, Dn.dNot_eq, Dn.dIf_eq, Dn.aNil_eq, Dn.aCons_eq, Dn.dApp_eq, Dn.dTup_eq, Dn.dLst_eq, Dn.nLst_eq, Dn.dCall_eq, Dn.dChain_eq, Dn.sSet_eq, Dn.sRet_eq, Dn.sRetN_eq, Dn.sDrop_eq, Dn.sIf_eq, Dn.sNext_eq, Dn.sBrk_eq, Dn.sCnt_eq, Dn.sPar_eq, Dn.sPar3_eq, Dn.sAsg_eq, Dn.tset_nm, Dn.tset_tp, Dn.tsets_nil, Dn.tsets_cons, Dn.grd_none, Dn.wipeE_nil, Dn.wipeE_cons, Dn.gEq_int, Dn.gIsN_non, Dn.gIsN_int, Dn.gIsN_str, Dn.gIsN_tup, Dn.gIsN_bl, Dn.gIsN_ib, Dn.gIsN_nb, Dn.gIsN_sb, Dn.gIsN_tb, Dn.gAdd_int, Dn.gAugAdd_int, Dn.gSubI_int, Dn.gLt_int, Dn.gLe_int, Dn.gGt_int, Dn.gGe_int, Dn.gNeg_int, Dn.gAbs_int, Dn.gInt_int, Dn.gMax2_int, Dn.gMin2_int, Dn.asQ_tup, Dn.asQ_lst, Dn.asL_lst, Dn.gIdx_tup0, Dn.gIdx_tup1, Dn.gIdx_tup2, Dn.gLen_tup, Dn.gLen_lst, Dn.gLen_rol, Dn.gTuple_tup, Dn.gTuple_lst, Dn.gList_tup, Dn.gList_lst, Dn.sSetI_eq, Dn.dMtL_eq, Dn.iSeq_lst, Dn.iSeq_tup, Dn.sSeq_eq, Dn.startE, List.set_cons_zero, List.set_cons_succ, List.map_cons, List.map_nil, List.length_cons, List.length_nil, List.cons_append, List.nil_append, List.append_nil, List.replicate_succ, List.replicate_zero, if_true, if_false, ite_true, ite_false, Bool.false_eq_true, decide_true, decide_false, Nat.reduceSub, Nat.reduceAdd, Nat.reduceLeDiff, Bool.not_true, Bool.not_false, reduceIte, reduceCtorEq, Nat.zero_add, Nat.add_zero, R__law_same, isi_tt, sFor_eq, i1, e1]
theorem same_rows {M : Nat} {A : List Nat} {S : Store} : F__law_same 8 [.tup (mks M A), .tup (mks M A)] S = .ok (.bl true) S := by
  refine same_tup fun x hx => ?_
  unfold mks at hx
  obtain ⟨c, _, rfl⟩ := List.mem_map.mp hx
  refine same_tup fun y hy => ?_
  simp only [List.mem_cons, List.not_mem_nil, or_false] at hy
  rcases hy with rfl | rfl
  · exact same_int
  · exact same_int
/-! ### the box -/
theorem ev_box {ns : List Int} {k : Nat} {S : List O} (hk : k < 1000) (hl : ns.length ≤ 63) : ∃ g c, F__law_box [.rol ns, .int (k : Nat)] S = .ok (.ref S.length) (S ++ [.lst [.int g, .int c]]) ∧ 0 ≤ g ∧ 0 ≤ c ∧ c ≤ 4294967296 := by
  -- the cell
  have fin : ∀ (cell : Int), 0 ≤ cell → ∀ (e3 : Option D), ∃ g c, (sSeq (sSet 3 (dIf (xOf (dBin (gGe) (dVar 2) (dBin gPow (dC (.int 10)) (dC (.int 18))))) (dVar 2) (dC (.int 0)))) (sRet (nLst (aCons (dVar 3) (aCons (dBin gAdd (dBin gMod (dApp gInt (aCons (dBin gAdd (dBin gMul (dBin gMod (dApp gInt (aCons (dVar 2) (aNil))) (dC (.int 2147483563))) (dC (.int 40709))) (dBin gMul (dC (.int 6329)) (dVar 1))) (aNil))) (dC (.int 2147483563))) (dC (.int 1))) (aNil))))))
      [some (.rol ns), some (.int (k : Nat)), some (.int cell), e3] S = .rt (.ref S.length) (S ++ [.lst [.int g, .int c]]) ∧ 0 ≤ g ∧ 0 ≤ c ∧ c ≤ 4294967296 := by
    intro cell h0 e3
    have z2 : (2 : Nat) ≤ sizeLine := small_line (by omega)
    have m0 : 0 ≤ cell % 2147483563 := Int.emod_nonneg _ (by omega)
    have m1 : cell % 2147483563 < 2147483563 := Int.emod_lt_of_pos _ (by omega)
    have e1 : ∀ i S, gMod (.int i) (.int 2147483563) S = .ok (.int (i % 2147483563)) S := fun i S => gMod_int (by omega)
    have e2 : ∀ S, gMul (.int (cell % 2147483563)) (.int 40709) S = .ok (.int (cell % 2147483563 * 40709)) S := fun S => gMul_int (by omega) (by omega)
    have e4 : ∀ S, gMul (.int 6329) (.int (k : Nat)) S = .ok (.int (6329 * (k : Nat))) S := fun S => gMul_int (by omega) (by omega)
    have e5 : ∀ S, gPow (.int 10) (.int 18) S = .ok (.int 1000000000000000000) S := fun S => gPow_ten
    generalize hx : (cell % 2147483563 * 40709 + 6329 * (k : Nat)) % 2147483563 = x
    have x0 : 0 ≤ x := by rw [← hx]; exact Int.emod_nonneg _ (by omega)
    have x1 : x < 2147483563 := by rw [← hx]; exact Int.emod_lt_of_pos _ (by omega)
    by_cases hc : (1000000000000000000 : Int) ≤ cell
    · refine ⟨cell, x + 1, ?_, h0, by omega, by omega⟩
      have d1 : decide ((1000000000000000000 : Int) ≤ cell) = true := decide_eq_true hc
      simp -implicitDefEqProofs only [Dn.rbind_ok, Dn.rbind_bad, Dn.rbind_exc, Dn.obind_ok, Dn.obind_bad, Dn.nox_ok, Dn.dVar_zero, Dn.dVar_succ, Dn.dC_eq, Dn.dUn_eq, Dn.dBin_eq, Dn.dBl_eq, Dn.xOf_eq, Dn.xAnd_eq, Dn.xOr_eq, Dn.xNot_eq, Dn.xYes_eq, Dn.dAnd_eq, Dn.dOr_eq, Dn.dNot_eq, Dn.dIf_eq, Dn.aNil_eq, Dn.aCons_eq, Dn.dApp_eq, Dn.dTup_eq, Dn.dLst_eq, Dn.nLst_eq, Dn.dCall_eq, Dn.dChain_eq, Dn.sSet_eq, Dn.sRet_eq, Dn.sRetN_eq, Dn.sDrop_eq, Dn.sIf_eq, Dn.sNext_eq, Dn.sBrk_eq, Dn.sCnt_eq, Dn.sPar_eq, Dn.sPar3_eq, Dn.sAsg_eq, Dn.tset_nm, Dn.tset_tp, Dn.tsets_nil, Dn.tsets_cons, Dn.grd_none, Dn.wipeE_nil, Dn.wipeE_cons, Dn.gEq_int, Dn.gIsN_non, Dn.gIsN_int, Dn.gIsN_str, Dn.gIsN_tup, Dn.gIsN_bl, Dn.gIsN_ib, Dn.gIsN_nb, Dn.gIsN_sb, Dn.gIsN_tb, Dn.gAdd_int, Dn.gAugAdd_int, Dn.gSubI_int, Dn.gLt_int, Dn.gLe_int, Dn.gGt_int, Dn.gGe_int, Dn.gNeg_int, Dn.gAbs_int, Dn.gInt_int, Dn.gMax2_int, Dn.gMin2_int, Dn.asQ_tup, Dn.asQ_lst, Dn.asL_lst, Dn.gIdx_tup0, Dn.gIdx_tup1, Dn.gIdx_tup2, Dn.gLen_tup, Dn.gLen_lst, Dn.gLen_rol, Dn.gTuple_tup, Dn.gTuple_lst, Dn.gList_tup, Dn.gList_lst, Dn.sSetI_eq, Dn.dMtL_eq, Dn.iSeq_lst, Dn.iSeq_tup, Dn.sSeq_eq, Dn.startE, List.set_cons_zero, List.set_cons_succ, List.map_cons, List.map_nil, List.length_cons, List.length_nil, List.cons_append, List.nil_append, List.append_nil, List.replicate_succ, List.replicate_zero, if_true, if_false, ite_true, ite_false, Bool.false_eq_true, decide_true, decide_false, Nat.reduceSub, Nat.reduceAdd, Nat.reduceLeDiff, Bool.not_true, Bool.not_false, reduceIte, reduceCtorEq, Nat.zero_add, Nat.add_zero, e5, d1, e1, e2, e4, hx, z2]
    · refine ⟨0, x + 1, ?_, by omega, by omega, by omega⟩
      have d1 : decide ((1000000000000000000 : Int) ≤ cell) = false := decide_eq_false hc
      simp -implicitDefEqProofs only [Dn.rbind_ok, Dn.rbind_bad, Dn.rbind_exc, Dn.obind_ok, Dn.obind_bad, Dn.nox_ok, Dn.dVar_zero, Dn.dVar_succ, Dn.dC_eq, Dn.dUn_eq, Dn.dBin_eq, Dn.dBl_eq, Dn.xOf_eq, Dn.xAnd_eq, Dn.xOr_eq, Dn.xNot_eq, Dn.xYes_eq, Dn.dAnd_eq, Dn.dOr_eq, Dn.dNot_eq, Dn.dIf_eq, Dn.aNil_eq, Dn.aCons_eq, Dn.dApp_eq, Dn.dTup_eq, Dn.dLst_eq, Dn.nLst_eq, Dn.dCall_eq, Dn.dChain_eq, Dn.sSet_eq, Dn.sRet_eq, Dn.sRetN_eq, Dn.sDrop_eq, Dn.sIf_eq, Dn.sNext_eq, Dn.sBrk_eq, Dn.sCnt_eq, Dn.sPar_eq, Dn.sPar3_eq, Dn.sAsg_eq, Dn.tset_nm, Dn.tset_tp, Dn.tsets_nil, Dn.tsets_cons, Dn.grd_none, Dn.wipeE_nil, Dn.wipeE_cons, Dn.gEq_int, Dn.gIsN_non, Dn.gIsN_int, Dn.gIsN_str, Dn.gIsN_tup, Dn.gIsN_bl, Dn.gIsN_ib, Dn.gIsN_nb, Dn.gIsN_sb, Dn.gIsN_tb, Dn.gAdd_int, Dn.gAugAdd_int, Dn.gSubI_int, Dn.gLt_int, Dn.gLe_int, Dn.gGt_int, Dn.gGe_int, Dn.gNeg_int, Dn.gAbs_int, Dn.gInt_int, Dn.gMax2_int, Dn.gMin2_int, Dn.asQ_tup, Dn.asQ_lst, Dn.asL_lst, Dn.gIdx_tup0, Dn.gIdx_tup1, Dn.gIdx_tup2, Dn.gLen_tup, Dn.gLen_lst, Dn.gLen_rol, Dn.gTuple_tup, Dn.gTuple_lst, Dn.gList_tup, Dn.gList_lst, Dn.sSetI_eq, Dn.dMtL_eq, Dn.iSeq_lst, Dn.iSeq_tup, Dn.sSeq_eq, Dn.startE, List.set_cons_zero, List.set_cons_succ, List.map_cons, List.map_nil, List.length_cons, List.length_nil, List.cons_append, List.nil_append, List.append_nil, List.replicate_succ, List.replicate_zero, if_true, if_false, ite_true, ite_false, Bool.false_eq_true, decide_true, decide_false, Nat.reduceSub, Nat.reduceAdd, Nat.reduceLeDiff, Bool.not_true, Bool.not_false, reduceIte, reduceCtorEq, Nat.zero_add, Nat.add_zero, e5, d1, e1, e2, e4, hx, z2]
  have e0 : ∀ S, gMul (.int 8513) (.int (k : Nat)) S = .ok (.int (8513 * (k : Nat))) S := fun S => gMul_int (by omega) (by omega)
  have habs : ∀ i : Int, 0 ≤ (if i < 0 then -i else i) := fun i => by split <;> omega
  have hdef : ∀ g c, B__law_box (startE 4 [.rol ns, .int (k : Nat)]) S = .rt (.ref S.length) (S ++ [.lst [.int g, .int c]]) → F__law_box [.rol ns, .int (k : Nat)] S = .ok (.ref S.length) (S ++ [.lst [.int g, .int c]]) := fun g c h => by
    unfold F__law_box defR
    rw [if_pos (show [D.rol ns, D.int (k : Nat)].length = 2 from rfl), h]
    rfl
  have body : ∀ (cell : Int), 0 ≤ cell → (sIf (xOf (dBin (gLt) (dVar 1) (dApp gLen (aCons (dVar 0) (aNil))))) (sSet 2 (dApp gAbs (aCons (dApp gInt (aCons (dBin gIdx (dVar 0) (dVar 1)) (aNil))) (aNil)))) (sIf (xOf (dBin (gGt) (dApp gLen (aCons (dVar 0) (aNil))) (dC (.int 0)))) (sSet 2 (dBin gAdd (dVar 2) (dBin gMul (dBin gMod (dApp gInt (aCons (dApp gAbs (aCons (dApp gInt (aCons (dBin gIdx (dVar 0) (dBin gMod (dApp gInt (aCons (dVar 1) (aNil))) (dApp gLen (aCons (dVar 0) (aNil))))) (aNil))) (aNil))) (aNil))) (dC (.int 2147483563))) (dC (.int 50331))))) (sNext)))
      [some (.rol ns), some (.int (k : Nat)), some (.int (8513 * (k : Nat) + 6329)), none] S = .nx [some (.rol ns), some (.int (k : Nat)), some (.int cell), none] S → ∃ g c, F__law_box [.rol ns, .int (k : Nat)] S = .ok (.ref S.length) (S ++ [.lst [.int g, .int c]]) ∧ 0 ≤ g ∧ 0 ≤ c ∧ c ≤ 4294967296 := by
    intro cell h0 h
    obtain ⟨g, c, e, h1, h2, h3⟩ := fin cell h0 none
    refine ⟨g, c, hdef g c ?_, h1, h2, h3⟩
    have st : startE 4 [.rol ns, .int (k : Nat)] = [some (.rol ns), some (.int (k : Nat)), none, none] := rfl
    have s1 : sSet 2 (dBin gAdd (dBin gMul (dC (.int 8513)) (dVar 1)) (dC (.int 6329))) [some (.rol ns), some (.int (k : Nat)), none, none] S = .nx [some (.rol ns), some (.int (k : Nat)), some (.int (8513 * (k : Nat) + 6329)), none] S := by
      simp -implicitDefEqProofs only [Dn.rbind_ok, Dn.rbind_bad, Dn.rbind_exc, Dn.obind_ok, Dn.obind_bad, Dn.nox_ok, Dn.dVar_zero, Dn.dVar_succ, Dn.dC_eq, Dn.dUn_eq, Dn.dBin_eq, Dn.dBl_eq, Dn.xOf_eq, Dn.xAnd_eq, Dn.xOr_eq, Dn.xNot_eq, Dn.xYes_eq, Dn.dAnd_eq, Dn.dOr_eq, Dn.dNot_eq, Dn.dIf_eq, Dn.aNil_eq, Dn.aCons_eq, Dn.dApp_eq, Dn.dTup_eq, Dn.dLst_eq, Dn.nLst_eq, Dn.dCall_eq, Dn.dChain_eq, Dn.sSet_eq, Dn.sRet_eq, Dn.sRetN_eq, Dn.sDrop_eq, Dn.sIf_eq, Dn.sNext_eq, Dn.sBrk_eq, Dn.sCnt_eq, Dn.sPar_eq, Dn.sPar3_eq, Dn.sAsg_eq, Dn.tset_nm, Dn.tset_tp, Dn.tsets_nil, Dn.tsets_cons, Dn.grd_none, Dn.wipeE_nil, Dn.wipeE_cons, Dn.gEq_int, Dn.gIsN_non, Dn.gIsN_int, Dn.gIsN_str, Dn.gIsN_tup, Dn.gIsN_bl, Dn.gIsN_ib, Dn.gIsN_nb, Dn.gIsN_sb, Dn.gIsN_tb, Dn.gAdd_int, Dn.gAugAdd_int, Dn.gSubI_int, Dn.gLt_int, Dn.gLe_int, Dn.gGt_int, Dn.gGe_int, Dn.gNeg_int, Dn.gAbs_int, Dn.gInt_int, Dn.gMax2_int, Dn.gMin2_int, Dn.asQ_tup, Dn.asQ_lst, Dn.asL_lst, Dn.gIdx_tup0, Dn.gIdx_tup1, Dn.gIdx_tup2, Dn.gLen_tup, Dn.gLen_lst, Dn.gLen_rol, Dn.gTuple_tup, Dn.gTuple_lst, Dn.gList_tup, Dn.gList_lst, Dn.sSetI_eq, Dn.dMtL_eq, Dn.iSeq_lst, Dn.iSeq_tup, Dn.sSeq_eq, Dn.startE, List.set_cons_zero, List.set_cons_succ, List.map_cons, List.map_nil, List.length_cons, List.length_nil, List.cons_append, List.nil_append, List.append_nil, List.replicate_succ, List.replicate_zero, if_true, if_false, ite_true, ite_false, Bool.false_eq_true, decide_true, decide_false, Nat.reduceSub, Nat.reduceAdd, Nat.reduceLeDiff, Bool.not_true, Bool.not_false, reduceIte, reduceCtorEq, Nat.zero_add, Nat.add_zero, e0]
    unfold B__law_box
    rw [st, sSeq_eq, s1]
    simp only
    rw [sSeq_eq, h]
    exact e
  by_cases h1 : (k : Int) < (ns.length : Nat)
  · have hk2 : k < ns.length := by omega
    have d1 : decide ((k : Int) < (ns.length : Nat)) = true := decide_eq_true h1
    have g1 : ∀ S, gIdx (.rol ns) (.int (k : Nat)) S = .ok (.int ns[k]) S := fun S => gIdx_of (xs := ns.map D.int) rfl (by rw [List.getElem?_map, List.getElem?_eq_getElem hk2]; rfl)
    refine body (if ns[k] < 0 then -ns[k] else ns[k]) (habs _) ?_
    simp -implicitDefEqProofs only [Dn.rbind_ok, Dn.rbind_bad, Dn.rbind_exc, Dn.obind_ok, Dn.obind_bad, Dn.nox_ok, Dn.dVar_zero, Dn.dVar_succ, Dn.dC_eq, Dn.dUn_eq, Dn.dBin_eq, Dn.dBl_eq, Dn.xOf_eq, Dn.xAnd_eq, Dn.xOr_eq, Dn.xNot_eq, Dn.xYes_eq, Dn.dAnd_eq, Dn.dOr_eq, Dn.dNot_eq, Dn.dIf_eq, Dn.aNil_eq, Dn.aCons_eq, Dn.dApp_eq, Dn.dTup_eq, Dn.dLst_eq, Dn.nLst_eq, Dn.dCall_eq, Dn.dChain_eq, Dn.sSet_eq, Dn.sRet_eq, Dn.sRetN_eq, Dn.sDrop_eq, Dn.sIf_eq, Dn.sNext_eq, Dn.sBrk_eq, Dn.sCnt_eq, Dn.sPar_eq, Dn.sPar3_eq, Dn.sAsg_eq, Dn.tset_nm, Dn.tset_tp, Dn.tsets_nil, Dn.tsets_cons, Dn.grd_none, Dn.wipeE_nil, Dn.wipeE_cons, Dn.gEq_int, Dn.gIsN_non, Dn.gIsN_int, Dn.gIsN_str, Dn.gIsN_tup, Dn.gIsN_bl, Dn.gIsN_ib, Dn.gIsN_nb, Dn.gIsN_sb, Dn.gIsN_tb, Dn.gAdd_int, Dn.gAugAdd_int, Dn.gSubI_int, Dn.gLt_int, Dn.gLe_int, Dn.gGt_int, Dn.gGe_int, Dn.gNeg_int, Dn.gAbs_int, Dn.gInt_int, Dn.gMax2_int, Dn.gMin2_int, Dn.asQ_tup, Dn.asQ_lst, Dn.asL_lst, Dn.gIdx_tup0, Dn.gIdx_tup1, Dn.gIdx_tup2, Dn.gLen_tup, Dn.gLen_lst, Dn.gLen_rol, Dn.gTuple_tup, Dn.gTuple_lst, Dn.gList_tup, Dn.gList_lst, Dn.sSetI_eq, Dn.dMtL_eq, Dn.iSeq_lst, Dn.iSeq_tup, Dn.sSeq_eq, Dn.startE, List.set_cons_zero, List.set_cons_succ, List.map_cons, List.map_nil, List.length_cons, List.length_nil, List.cons_append, List.nil_append, List.append_nil, List.replicate_succ, List.replicate_zero, if_true, if_false, ite_true, ite_false, Bool.false_eq_true, decide_true, decide_false, Nat.reduceSub, Nat.reduceAdd, Nat.reduceLeDiff, Bool.not_true, Bool.not_false, reduceIte, reduceCtorEq, Nat.zero_add, Nat.add_zero, d1, g1]
  · have d1 : decide ((k : Int) < (ns.length : Nat)) = false := decide_eq_false h1
    by_cases h2 : (0 : Int) < (ns.length : Nat)
    · have d2 : decide ((0 : Int) < (ns.length : Nat)) = true := decide_eq_true h2
      have hm : k % ns.length < ns.length := Nat.mod_lt _ (by omega)
      have e1 : ∀ S, gMod (.int (k : Nat)) (.int (ns.length : Nat)) S = .ok (.int ((k % ns.length : Nat) : Int)) S := fun S => by rw [gMod_int h2, Int.natCast_emod]
      have g1 : ∀ S, gIdx (.rol ns) (.int ((k % ns.length : Nat) : Int)) S = .ok (.int ns[k % ns.length]) S := fun S => gIdx_of (xs := ns.map D.int) rfl (by rw [List.getElem?_map, List.getElem?_eq_getElem hm]; rfl)
      generalize hy : (if ns[k % ns.length] < 0 then -ns[k % ns.length] else ns[k % ns.length]) = y
      have e2 : ∀ i S, gMod (.int i) (.int 2147483563) S = .ok (.int (i % 2147483563)) S := fun i S => gMod_int (by omega)
      have m0 : 0 ≤ y % 2147483563 := Int.emod_nonneg _ (by omega)
      have m1 : y % 2147483563 < 2147483563 := Int.emod_lt_of_pos _ (by omega)
      have e3 : ∀ S, gMul (.int (y % 2147483563)) (.int 50331) S = .ok (.int (y % 2147483563 * 50331)) S := fun S => gMul_int (by omega) (by omega)
      refine body (8513 * (k : Nat) + 6329 + y % 2147483563 * 50331) (by omega) ?_
      simp -implicitDefEqProofs only [Dn.rbind_ok, Dn.rbind_bad, Dn.rbind_exc, Dn.obind_ok, Dn.obind_bad, Dn.nox_ok, Dn.dVar_zero, Dn.dVar_succ, Dn.dC_eq, Dn.dUn_eq, Dn.dBin_eq, Dn.dBl_eq, Dn.xOf_eq, Dn.xAnd_eq, Dn.xOr_eq, Dn.xNot_eq, Dn.xYes_eq, Dn.dAnd_eq, Dn.dOr_eq, Dn.dNot_eq, Dn.dIf_eq, Dn.aNil_eq, Dn.aCons_eq, Dn.dApp_eq, Dn.dTup_eq, Dn.dLst_eq, Dn.nLst_eq, Dn.dCall_eq, Dn.dChain_eq, Dn.sSet_eq, Dn.sRet_eq, Dn.sRetN_eq, Dn.sDrop_eq, Dn.sIf_eq, Dn.sNext_eq, Dn.sBrk_eq, Dn.sCnt_eq, Dn.sPar_eq, Dn.sPar3_eq, Dn.sAsg_eq, Dn.tset_nm, Dn.tset_tp, Dn.tsets_nil, Dn.tsets_cons, Dn.grd_none, Dn.wipeE_nil, Dn.wipeE_cons, Dn.gEq_int, Dn.gIsN_non, Dn.gIsN_int, Dn.gIsN_str, Dn.gIsN_tup, Dn.gIsN_bl, Dn.gIsN_ib, Dn.gIsN_nb, Dn.gIsN_sb, Dn.gIsN_tb, Dn.gAdd_int, Dn.gAugAdd_int, Dn.gSubI_int, Dn.gLt_int, Dn.gLe_int, Dn.gGt_int, Dn.gGe_int, Dn.gNeg_int, Dn.gAbs_int, Dn.gInt_int, Dn.gMax2_int, Dn.gMin2_int, Dn.asQ_tup, Dn.asQ_lst, Dn.asL_lst, Dn.gIdx_tup0, Dn.gIdx_tup1, Dn.gIdx_tup2, Dn.gLen_tup, Dn.gLen_lst, Dn.gLen_rol, Dn.gTuple_tup, Dn.gTuple_lst, Dn.gList_tup, Dn.gList_lst, Dn.sSetI_eq, Dn.dMtL_eq, Dn.iSeq_lst, Dn.iSeq_tup, Dn.sSeq_eq, Dn.startE, List.set_cons_zero, List.set_cons_succ, List.map_cons, List.map_nil, List.length_cons, List.length_nil, List.cons_append, List.nil_append, List.append_nil, List.replicate_succ, List.replicate_zero, if_true, if_false, ite_true, ite_false, Bool.false_eq_true, decide_true, decide_false, Nat.reduceSub, Nat.reduceAdd, Nat.reduceLeDiff, Bool.not_true, Bool.not_false, reduceIte, reduceCtorEq, Nat.zero_add, Nat.add_zero, d1, d2, e1, g1, hy, e2, e3]
    · have d2 : decide ((0 : Int) < (ns.length : Nat)) = false := decide_eq_false h2
      refine body (8513 * (k : Nat) + 6329) (by omega) ?_
      simp -implicitDefEqProofs only [Dn.rbind_ok, Dn.rbind_bad, Dn.rbind_exc, Dn.obind_ok, Dn.obind_bad, Dn.nox_ok, Dn.dVar_zero, Dn.dVar_succ, Dn.dC_eq, Dn.dUn_eq, Dn.dBin_eq, Dn.dBl_eq, Dn.xOf_eq, Dn.xAnd_eq, Dn.xOr_eq, Dn.xNot_eq, Dn.xYes_eq, Dn.dAnd_eq, Dn.dOr_eq, Dn.dNot_eq, Dn.dIf_eq, Dn.aNil_eq, Dn.aCons_eq, Dn.dApp_eq, Dn.dTup_eq, Dn.dLst_eq, Dn.nLst_eq, Dn.dCall_eq, Dn.dChain_eq, Dn.sSet_eq, Dn.sRet_eq, Dn.sRetN_eq, Dn.sDrop_eq, Dn.sIf_eq, Dn.sNext_eq, Dn.sBrk_eq, Dn.sCnt_eq, Dn.sPar_eq, Dn.sPar3_eq, Dn.sAsg_eq, Dn.tset_nm, Dn.tset_tp, Dn.tsets_nil, Dn.tsets_cons, Dn.grd_none, Dn.wipeE_nil, Dn.wipeE_cons, Dn.gEq_int, Dn.gIsN_non, Dn.gIsN_int, Dn.gIsN_str, Dn.gIsN_tup, Dn.gIsN_bl, Dn.gIsN_ib, Dn.gIsN_nb, Dn.gIsN_sb, Dn.gIsN_tb, Dn.gAdd_int, Dn.gAugAdd_int, Dn.gSubI_int, Dn.gLt_int, Dn.gLe_int, Dn.gGt_int, Dn.gGe_int, Dn.gNeg_int, Dn.gAbs_int, Dn.gInt_int, Dn.gMax2_int, Dn.gMin2_int, Dn.asQ_tup, Dn.asQ_lst, Dn.asL_lst, Dn.gIdx_tup0, Dn.gIdx_tup1, Dn.gIdx_tup2, Dn.gLen_tup, Dn.gLen_lst, Dn.gLen_rol, Dn.gTuple_tup, Dn.gTuple_lst, Dn.gList_tup, Dn.gList_lst, Dn.sSetI_eq, Dn.dMtL_eq, Dn.iSeq_lst, Dn.iSeq_tup, Dn.sSeq_eq, Dn.startE, List.set_cons_zero, List.set_cons_succ, List.map_cons, List.map_nil, List.length_cons, List.length_nil, List.cons_append, List.nil_append, List.append_nil, List.replicate_succ, List.replicate_zero, if_true, if_false, ite_true, ite_false, Bool.false_eq_true, decide_true, decide_false, Nat.reduceSub, Nat.reduceAdd, Nat.reduceLeDiff, Bool.not_true, Bool.not_false, reduceIte, reduceCtorEq, Nat.zero_add, Nat.add_zero, d1, d2]
end Cm

set_option maxHeartbeats 1000000
namespace Cm
open PySem PySem.Spec PyProof.Rows L2 Dn Mt
/-! ### number_chances tells what is due -/
theorem number_due {T : Tre} {n : Nat} {rs : List (Nat × List Nat)} {S : List O} (hn : rs.length = n) (h5 : n ≤ 5) (h : ∀ r ∈ rs, r.1 ≠ 0 ∧ r.1 ≤ 60 ∧ r.2.sum = r.1 ∧ r.2.length ≤ 10) (hok : T.ok n) (hlv : T.leaves.Perm (List.range n)) (hsz : T.size < 60) :
    ∃ M A, F_number_chances [T.val, .tup (rs.map rowD)] S = .ok (.tup (mks M A)) S ∧ F__law_due [T.val, .tup (rs.map rowD)] S = .ok (.tup (mks M A)) S := by
  have hgl : T.leaves.length = n := by rw [hlv.length_eq, List.length_range]
  have gD : ∀ i, i < n → rs[i]? = some (rs.getD i (1, [1])) := fun i hi => by
    rw [List.getD_eq_getElem?_getD, List.getElem?_eq_getElem (by omega)]
    rfl
  have gO : ∀ i, ¬ i < n → rs.getD i (1, [1]) = (1, [1]) := fun i hi => by
    rw [List.getD_eq_getElem?_getD, List.getElem?_eq_none (by omega)]
    rfl
  have hM : ∀ i, (rs.getD i (1, [1])).1 ≠ 0 ∧ (rs.getD i (1, [1])).1 ≤ 60 := fun i => by
    by_cases hi : i < n
    · have := h _ (List.mem_of_getElem? (gD i hi))
      exact ⟨this.1, this.2.1⟩
    · rw [gO i hi]
      exact ⟨by simp, by simp⟩
  obtain ⟨A, e1, hV⟩ := ev_number (Ms := fun i => (rs.getD i (1, [1])).1) (cs := fun i => (rs.getD i (1, [1])).2) (n := n) (t := T) (rows := rs.map rowD) (S := S) (fun i => (hM i).1) (fun i => (hM i).2) (fun i hi => by
    have h1 := gD i hi
    have h2 := h _ (List.mem_of_getElem? h1)
    refine ⟨?_, h2.2.2.1, h2.2.2.2⟩
    rw [List.getElem?_map, h1]
    rfl) hok (by omega) (by omega)
  have hmap : ∀ {β : Type} (f : Nat × List Nat → β), (List.range n).map (fun i => f (rs.getD i (1, [1]))) = rs.map f := fun f => by
    refine List.ext_getElem? fun i => ?_
    rw [List.getElem?_map, List.getElem?_map]
    by_cases hi : i < n
    · rw [List.getElem?_range hi, gD i hi]; rfl
    · rw [List.getElem?_eq_none (by simpa using hi), List.getElem?_eq_none (by omega)]; rfl
  have hprod : prodL (fun i => (rs.getD i (1, [1])).1) T.leaves = (rs.map (·.1)).prod := by
    unfold prodL
    rw [(hlv.map _).prod_nat, hmap (fun r => r.1)]
  have hA : ∀ k, A.getD k 0 = SD (drL [([], 1)] (rs.map (·.2))) (fun w => if Tre.ev opN (sgN w) T = k then 1 else 0) := fun k => by
    have nd : T.leaves.Nodup := hlv.nodup_iff.mpr List.nodup_range
    rw [← dot_ind, hV.dt, Tre.I_eq T _ (fun _ => 0) nd, E_perm hlv nd, List.range_eq_range', SD_L]
    rw [E_R (n := n) (G := fun w => if Tre.ev opN (sgN w) T = k then 1 else 0) (fun σ w hw hs => ?_) n 0 (fun _ => 0) [] (by omega) rfl (fun i hi => by simp at hi)]
    · rw [← List.range_eq_range', hmap (fun r => r.2)]
      unfold SD
      simp
    · have : Tre.ev opN σ T = Tre.ev opN (sgN w) T := Tre.ev_congr T fun i hi => by
        have hi2 : i < n := by simpa using hlv.mem_iff.mp hi
        rw [hs i (by omega)]
        unfold sgN
        rw [List.getD_eq_getElem?_getD, List.getElem?_eq_getElem (by omega)]
        rfl
      simp only [this]
  refine ⟨(rs.map (·.1)).prod, A, by rw [e1, hprod], ?_⟩
  refine ev_due h (by omega) hsz (by rw [hn]; exact hok) hV.ne hV.tr hA ?_
  have := hV.len
  omega
noncomputable def lawT : DenS := sIf (xNot (xOf (dCall (F__law_same 8) [] (aCons (dCall F_number_chances [] (aCons (dVar 3) (aCons (dVar 6) (aNil)))) (aCons (dCall F__law_due [] (aCons (dVar 3) (aCons (dVar 6) (aNil)))) (aNil)))))) (sRet (dC (.bl false))) (sNext)
noncomputable def lawM : Den := dCall F__law_many [] (aCons (dCall F__law_family [] (aCons (dVar 4) (aNil))) (aNil))
noncomputable def lawB : DenS := (sSeq (sSet 2 (dCall F__law_box [] (aCons (dVar 0) (aCons (dVar 1) (aNil))))) (sSeq (sAsg (.tp [.nm 3, .nm 4]) (dCall F__law_once [] (aCons (dVar 2) (aCons (dLrg1 (dBin gAdd (dC (.int 1)) (dCall F__law_take [] (aCons (dVar 2) (aCons (dC (.int 5)) (aNil)))))) (aCons (dC (.int 9)) (aNil)))))) (sSeq (sSet 5 (dIf (xOf (dBin (gLt) lawM (dC (.int 5)))) (dCall F__law_pick [] (aCons (dVar 2) (aCons (dLst (aCons (dC (.int 2)) (aCons (dC (.int 3)) (aCons (dC (.int 4)) (aNil))))) (aNil)))) (dC (.int 3)))) (sSeq (sSet 6 (dApp gTuple (aCons (dLc (iRange1 lawM) [7] (.nm 7) (xYes) (dCall F__law_split_row [] (aCons (dVar 2) (aCons (dBin gAdd (dC (.int 1)) (dCall F__law_take [] (aCons (dVar 2) (aCons (dVar 5) (aNil))))) (aNil))))) (aNil)))) lawT))))
noncomputable def lawE : DenS := (sRet (dCall (F__law_same 8) [] (aCons (dCallP F_number_chances [1, 0] (aCons (dTup (aCons (dTup (aCons (dTup (aCons (dC (.int 0)) (aCons (dC (.int 1)) (aNil)))) (aCons (dTup (aCons (dC (.int 1)) (aCons (dC (.int 2)) (aNil)))) (aCons (dTup (aCons (dC (.int 1)) (aCons (dC (.int 2)) (aNil)))) (aNil))))) (aCons (dTup (aCons (dTup (aCons (dC (.int 1)) (aCons (dC (.int 2)) (aNil)))) (aCons (dTup (aCons (dC (.int 1)) (aCons (dC (.int 2)) (aNil)))) (aNil)))) (aCons (dTup (aCons (dTup (aCons (dC (.int 2)) (aCons (dC (.int 3)) (aNil)))) (aCons (dTup (aCons (dC (.int 1)) (aCons (dC (.int 3)) (aNil)))) (aNil)))) (aNil))))) (aCons (dTup (aCons (dC (.str "row")) (aCons (dTup (aCons (dC (.int 0)) (aCons (dTup (aCons (dC (.str "side")) (aCons (dTup (aCons (dC (.int 1)) (aCons (dC (.int 2)) (aNil)))) (aNil)))) (aNil)))) (aNil)))) (aNil)))) (aCons (dTup (aCons (dTup (aCons (dC (.int 1)) (aCons (dC (.int 3)) (aNil)))) (aCons (dTup (aCons (dC (.int 7)) (aCons (dC (.int 12)) (aNil)))) (aCons (dTup (aCons (dC (.int 1)) (aCons (dC (.int 12)) (aNil)))) (aNil))))) (aNil)))))
theorem law_body : B_law = sSeq (sFor (iRange1 (dC (.int 3))) (.nm 1) [1, 2, 3, 4, 5, 6] lawB) lawE := rfl
theorem ev_once_n {b n : Nat} {S : List O} (hn : 1 ≤ n) (h5 : n ≤ 12) (hb : ∃ g c, BoxAt S b g c) : ∃ (T : Tre) (W : List (List Int)) (S' : Store), F__law_once [.ref b, .lst (kidsD 0 n), .int 9] S = .ok (mkP T.val W) S' ∧ Bx b S S' ∧ T.ok n ∧ T.leaves.Perm (List.range n) ∧ T.size + 1 ≤ 2 * n ∧ (∀ S, F__law_family [.lst (W.map mkT)] S = .ok (.tup ((sortT W).map mkT)) S) ∧ (∀ S, F__law_many [.tup ((sortT W).map mkT)] S = .ok (.int (n : Nat)) S) := by
  have hk : kidsD 0 n = ((List.range n).map fun (i : Nat) => (i : Int)).map D.int := by
    unfold kidsD
    rw [List.map_map]
    refine List.map_congr_left fun i _ => ?_
    rw [Nat.zero_add]; rfl
  obtain ⟨t, W, ls, S', e, hB, g, p⟩ := ev_once (most := 9) (ns := (List.range n).map fun (i : Nat) => (i : Int)) (S := S) (by omega) (by omega) (by simp; omega) (by
    intro z
    have := congrArg List.length z
    simp at this
    omega) hb
  have hmem : ∀ i ∈ ls, 0 ≤ i ∧ i < (n : Int) := fun i hi => by
    have := p.mem_iff.mp hi
    simp only [List.mem_map, List.mem_range] at this
    obtain ⟨j, hj, rfl⟩ := this
    omega
  obtain ⟨T, hT⟩ := g.tree (n := n) hmem
  have f := g.facts (by omega)
  have hperm : T.leaves.Perm (List.range n) := by
    have h1 := hT.lv.trans p
    have h2 := h1.map Int.toNat
    rw [List.map_map, List.map_map] at h2
    have : ∀ l : List Nat, l.map (Int.toNat ∘ fun (i : Nat) => (i : Int)) = l := fun l => by
      have : (Int.toNat ∘ fun (i : Nat) => (i : Int)) = id := by funext i; simp
      rw [this, List.map_id]
    rw [this, this] at h2
    exact h2
  have hs := List.mergeSort_perm W (fun a b => !HT.lexLt b a)
  refine ⟨T, W, S', by rw [hk, hT.val]; exact e, hB, hT.ok, hperm, by have := hT.sz; rw [hperm.length_eq, List.length_range] at this; exact this, fun S => ev_family f.wne, fun S => ev_many (fun w hw => f.wne w (hs.mem_iff.mp hw)) (fun w hw i hi => (hmem i (f.sub w (hs.mem_iff.mp hw) i hi)).2) ?_⟩
  have hin : ((n - 1 : Nat) : Int) ∈ ls := p.mem_iff.mpr (by
    simp only [List.mem_map, List.mem_range]
    exact ⟨n - 1, by omega, rfl⟩)
  obtain ⟨w, hw, hi⟩ := f.all _ hin
  exact ⟨w, hs.mem_iff.mpr hw, by rw [show ((n : Int) - 1) = ((n - 1 : Nat) : Int) by omega]; exact hi⟩
theorem f2_rows {α : Type} {Q : Nat × List Nat → Prop} {xs : List α} {ys : List D} (h : F2 (fun _ y => ∃ r, y = rowD r ∧ Q r) xs ys) : ∃ rs : List (Nat × List Nat), ys = rs.map rowD ∧ rs.length = xs.length ∧ ∀ r ∈ rs, Q r := by
  induction h with
  | nil => exact ⟨[], rfl, rfl, by simp⟩
  | cons h t ih =>
    obtain ⟨v, rfl, q⟩ := h
    obtain ⟨vs, rfl, l, q'⟩ := ih
    refine ⟨v :: vs, rfl, by simp [l], fun u hu => ?_⟩
    rcases List.mem_cons.mp hu with rfl | hu
    · exact q
    · exact q' u hu
theorem law_turn {ns : List Int} {k : Nat} {S : List O} (hk : k < 1000) (hl : ns.length ≤ 63) : ∃ x2 x3 x4 x5 x6 S', lawB [some (.rol ns), some (.int (k : Nat)), none, none, none, none, none, none] S = .nx [some (.rol ns), some (.int (k : Nat)), x2, x3, x4, x5, x6, none] S' := by
  obtain ⟨g, c, e1, g0, c0, c1⟩ := ev_box (k := k) (S := S) hk hl
  have hb1 : ∃ g' c', BoxAt (S ++ [O.lst [.int g, .int c]]) S.length g' c' := ⟨g, c, get_last, g0, c0, c1⟩
  obtain ⟨v, S2, e2, b2, v0, v1⟩ := ev_take hb1 (m := 5) (by omega) (by omega)
  obtain ⟨n, hn⟩ : ∃ n : Nat, 1 + v = (n : Nat) := ⟨(1 + v).toNat, by omega⟩
  obtain ⟨T, W, S3, e3, b3, hok, hlv, hsz, ef, em⟩ := ev_once_n (b := S.length) (n := n) (S := S2) (by omega) (by omega) b2.box
  -- high
  have hh : ∃ m S4, dIf (xOf (dBin (gLt) lawM (dC (.int 5)))) (dCall F__law_pick [] (aCons (dVar 2) (aCons (dLst (aCons (dC (.int 2)) (aCons (dC (.int 3)) (aCons (dC (.int 4)) (aNil))))) (aNil)))) (dC (.int 3))
      [some (.rol ns), some (.int (k : Nat)), some (.ref S.length), some T.val, some (.lst (W.map mkT)), none, none, none] S3 = .ok (.int (m : Nat)) S4 ∧ Bx S.length S3 S4 ∧ 1 ≤ m ∧ m ≤ 4 := by
    have z3 : (3 : Nat) ≤ sizeLine := small_line (by omega)
    by_cases h : (n : Int) < 5
    · obtain ⟨x, S4, e4, b4, hx⟩ := ev_pick (xs := [.int 2, .int 3, .int 4]) b3.box rfl (by simp) (by simp)
      have d1 : decide ((n : Int) < 5) = true := decide_eq_true h
      have ee : dIf (xOf (dBin (gLt) lawM (dC (.int 5)))) (dCall F__law_pick [] (aCons (dVar 2) (aCons (dLst (aCons (dC (.int 2)) (aCons (dC (.int 3)) (aCons (dC (.int 4)) (aNil))))) (aNil)))) (dC (.int 3))
          [some (.rol ns), some (.int (k : Nat)), some (.ref S.length), some T.val, some (.lst (W.map mkT)), none, none, none] S3 = .ok x S4 := by
        simp -implicitDefEqProofs only [Dn.rbind_ok, Dn.rbind_bad, Dn.rbind_exc, Dn.obind_ok, Dn.obind_bad, Dn.nox_ok, Dn.dVar_zero, Dn.dVar_succ, Dn.dC_eq, Dn.dUn_eq, Dn.dBin_eq, Dn.dBl_eq, Dn.xOf_eq, Dn.xAnd_eq, Dn.xOr_eq, Dn.xNot_eq, Dn.xYes_eq, Dn.dAnd_eq, Dn.dOr_eq, Dn.dNot_eq, Dn.dIf_eq, Dn.aNil_eq, Dn.aCons_eq, Dn.dApp_eq, Dn.dTup_eq, Dn.dLst_eq, Dn.nLst_eq, Dn.dCall_eq, Dn.dChain_eq, Dn.sSet_eq, Dn.sRet_eq, Dn.sRetN_eq, Dn.sDrop_eq, Dn.sIf_eq, Dn.sNext_eq, Dn.sBrk_eq, Dn.sCnt_eq, Dn.sPar_eq, Dn.sPar3_eq, Dn.sAsg_eq, Dn.tset_nm, Dn.tset_tp, Dn.tsets_nil, Dn.tsets_cons, Dn.grd_none, Dn.wipeE_nil, Dn.wipeE_cons, Dn.gEq_int, Dn.gIsN_non, Dn.gIsN_int, Dn.gIsN_str, Dn.gIsN_tup, Dn.gIsN_bl, Dn.gIsN_ib, Dn.gIsN_nb, Dn.gIsN_sb, Dn.gIsN_tb, Dn.gAdd_int, Dn.gAugAdd_int, Dn.gSubI_int, Dn.gLt_int, Dn.gLe_int, Dn.gGt_int, Dn.gGe_int, Dn.gNeg_int, Dn.gAbs_int, Dn.gInt_int, Dn.gMax2_int, Dn.gMin2_int, Dn.asQ_tup, Dn.asQ_lst, Dn.asL_lst, Dn.gIdx_tup0, Dn.gIdx_tup1, Dn.gIdx_tup2, Dn.gLen_tup, Dn.gLen_lst, Dn.gLen_rol, Dn.gTuple_tup, Dn.gTuple_lst, Dn.gList_tup, Dn.gList_lst, Dn.sSetI_eq, Dn.dMtL_eq, Dn.iSeq_lst, Dn.iSeq_tup, Dn.sSeq_eq, Dn.startE, List.set_cons_zero, List.set_cons_succ, List.map_cons, List.map_nil, List.length_cons, List.length_nil, List.cons_append, List.nil_append, List.append_nil, List.replicate_succ, List.replicate_zero, if_true, if_false, ite_true, ite_false, Bool.false_eq_true, decide_true, decide_false, Nat.reduceSub, Nat.reduceAdd, Nat.reduceLeDiff, Bool.not_true, Bool.not_false, reduceIte, reduceCtorEq, Nat.zero_add, Nat.add_zero, lawM, ef, em, d1, z3, e4]
      simp only [List.mem_cons, List.not_mem_nil, or_false] at hx
      rcases hx with rfl | rfl | rfl
      · exact ⟨2, S4, ee, b4, by omega, by omega⟩
      · exact ⟨3, S4, ee, b4, by omega, by omega⟩
      · exact ⟨4, S4, ee, b4, by omega, by omega⟩
    · have d1 : decide ((n : Int) < 5) = false := decide_eq_false h
      refine ⟨3, S3, ?_, .refl b3.box, by omega, by omega⟩
      simp -implicitDefEqProofs only [Dn.rbind_ok, Dn.rbind_bad, Dn.rbind_exc, Dn.obind_ok, Dn.obind_bad, Dn.nox_ok, Dn.dVar_zero, Dn.dVar_succ, Dn.dC_eq, Dn.dUn_eq, Dn.dBin_eq, Dn.dBl_eq, Dn.xOf_eq, Dn.xAnd_eq, Dn.xOr_eq, Dn.xNot_eq, Dn.xYes_eq, Dn.dAnd_eq, Dn.dOr_eq, Dn.dNot_eq, Dn.dIf_eq, Dn.aNil_eq, Dn.aCons_eq, Dn.dApp_eq, Dn.dTup_eq, Dn.dLst_eq, Dn.nLst_eq, Dn.dCall_eq, Dn.dChain_eq, Dn.sSet_eq, Dn.sRet_eq, Dn.sRetN_eq, Dn.sDrop_eq, Dn.sIf_eq, Dn.sNext_eq, Dn.sBrk_eq, Dn.sCnt_eq, Dn.sPar_eq, Dn.sPar3_eq, Dn.sAsg_eq, Dn.tset_nm, Dn.tset_tp, Dn.tsets_nil, Dn.tsets_cons, Dn.grd_none, Dn.wipeE_nil, Dn.wipeE_cons, Dn.gEq_int, Dn.gIsN_non, Dn.gIsN_int, Dn.gIsN_str, Dn.gIsN_tup, Dn.gIsN_bl, Dn.gIsN_ib, Dn.gIsN_nb, Dn.gIsN_sb, Dn.gIsN_tb, Dn.gAdd_int, Dn.gAugAdd_int, Dn.gSubI_int, Dn.gLt_int, Dn.gLe_int, Dn.gGt_int, Dn.gGe_int, Dn.gNeg_int, Dn.gAbs_int, Dn.gInt_int, Dn.gMax2_int, Dn.gMin2_int, Dn.asQ_tup, Dn.asQ_lst, Dn.asL_lst, Dn.gIdx_tup0, Dn.gIdx_tup1, Dn.gIdx_tup2, Dn.gLen_tup, Dn.gLen_lst, Dn.gLen_rol, Dn.gTuple_tup, Dn.gTuple_lst, Dn.gList_tup, Dn.gList_lst, Dn.sSetI_eq, Dn.dMtL_eq, Dn.iSeq_lst, Dn.iSeq_tup, Dn.sSeq_eq, Dn.startE, List.set_cons_zero, List.set_cons_succ, List.map_cons, List.map_nil, List.length_cons, List.length_nil, List.cons_append, List.nil_append, List.append_nil, List.replicate_succ, List.replicate_zero, if_true, if_false, ite_true, ite_false, Bool.false_eq_true, decide_true, decide_false, Nat.reduceSub, Nat.reduceAdd, Nat.reduceLeDiff, Bool.not_true, Bool.not_false, reduceIte, reduceCtorEq, Nat.zero_add, Nat.add_zero, lawM, ef, em, d1]
      rfl
  obtain ⟨m, S4, e4, b4, m1, m4⟩ := hh
  have i5 : iRange1 lawM [some (.rol ns), some (.int (k : Nat)), some (.ref S.length), some T.val, some (.lst (W.map mkT)), some (.int (m : Nat)), none, none] S4 = .ok ⟨rangeL 0 n, none⟩ S4 := by
    refine iRange1_of (k := n) ?_ (by omega)
    simp -implicitDefEqProofs only [Dn.rbind_ok, Dn.rbind_bad, Dn.rbind_exc, Dn.obind_ok, Dn.obind_bad, Dn.nox_ok, Dn.dVar_zero, Dn.dVar_succ, Dn.dC_eq, Dn.dUn_eq, Dn.dBin_eq, Dn.dBl_eq, Dn.xOf_eq, Dn.xAnd_eq, Dn.xOr_eq, Dn.xNot_eq, Dn.xYes_eq, Dn.dAnd_eq, Dn.dOr_eq, Dn.dNot_eq, Dn.dIf_eq, Dn.aNil_eq, Dn.aCons_eq, Dn.dApp_eq, Dn.dTup_eq, Dn.dLst_eq, Dn.nLst_eq, Dn.dCall_eq, Dn.dChain_eq, Dn.sSet_eq, Dn.sRet_eq, Dn.sRetN_eq, Dn.sDrop_eq, Dn.sIf_eq, Dn.sNext_eq, Dn.sBrk_eq, Dn.sCnt_eq, Dn.sPar_eq, Dn.sPar3_eq, Dn.sAsg_eq, Dn.tset_nm, Dn.tset_tp, Dn.tsets_nil, Dn.tsets_cons, Dn.grd_none, Dn.wipeE_nil, Dn.wipeE_cons, Dn.gEq_int, Dn.gIsN_non, Dn.gIsN_int, Dn.gIsN_str, Dn.gIsN_tup, Dn.gIsN_bl, Dn.gIsN_ib, Dn.gIsN_nb, Dn.gIsN_sb, Dn.gIsN_tb, Dn.gAdd_int, Dn.gAugAdd_int, Dn.gSubI_int, Dn.gLt_int, Dn.gLe_int, Dn.gGt_int, Dn.gGe_int, Dn.gNeg_int, Dn.gAbs_int, Dn.gInt_int, Dn.gMax2_int, Dn.gMin2_int, Dn.asQ_tup, Dn.asQ_lst, Dn.asL_lst, Dn.gIdx_tup0, Dn.gIdx_tup1, Dn.gIdx_tup2, Dn.gLen_tup, Dn.gLen_lst, Dn.gLen_rol, Dn.gTuple_tup, Dn.gTuple_lst, Dn.gList_tup, Dn.gList_lst, Dn.sSetI_eq, Dn.dMtL_eq, Dn.iSeq_lst, Dn.iSeq_tup, Dn.sSeq_eq, Dn.startE, List.set_cons_zero, List.set_cons_succ, List.map_cons, List.map_nil, List.length_cons, List.length_nil, List.cons_append, List.nil_append, List.append_nil, List.replicate_succ, List.replicate_zero, if_true, if_false, ite_true, ite_false, Bool.false_eq_true, decide_true, decide_false, Nat.reduceSub, Nat.reduceAdd, Nat.reduceLeDiff, Bool.not_true, Bool.not_false, reduceIte, reduceCtorEq, Nat.zero_add, Nat.add_zero, lawM, ef, em]
  obtain ⟨ys, S5, e5, b5, f5⟩ := dLc_box (n := S.length) (it := iRange1 lawM) (vs := [7]) (t := .nm 7) (fe := dCall F__law_split_row [] (aCons (dVar 2) (aCons (dBin gAdd (dC (.int 1)) (dCall F__law_take [] (aCons (dVar 2) (aCons (dVar 5) (aNil))))) (aNil)))) (P := fun _ y => ∃ r : Nat × List Nat, y = rowD r ∧ (r.1 ≠ 0 ∧ r.1 ≤ 60 ∧ r.2.sum = r.1 ∧ r.2.length ≤ 10)) i5 b4.box (by
    intro x hx S6 acc hl6 hb6
    obtain ⟨u, S7, e7, b7, u0, u1⟩ := ev_take (box_app (L := [O.lst acc]) hb6) (m := (m : Nat)) (by omega) (by omega)
    obtain ⟨q, hq⟩ : ∃ q : Nat, 1 + u = (q : Nat) := ⟨(1 + u).toNat, by omega⟩
    obtain ⟨M, cs, S8, e8, b8, h1, h2, h3, h4⟩ := ev_split (m := q) b7.box (by omega) (by omega)
    obtain ⟨S9, rfl, b9⟩ := (b7.trans b8).cut (by rw [hl6]; exact b4.lt)
    refine ⟨_, rowD (M, cs), S9, tset_nm, ?_, b9, (M, cs), rfl, h1, h2, h4, by show cs.length ≤ 10; omega⟩
    simp -implicitDefEqProofs only [Dn.rbind_ok, Dn.rbind_bad, Dn.rbind_exc, Dn.obind_ok, Dn.obind_bad, Dn.nox_ok, Dn.dVar_zero, Dn.dVar_succ, Dn.dC_eq, Dn.dUn_eq, Dn.dBin_eq, Dn.dBl_eq, Dn.xOf_eq, Dn.xAnd_eq, Dn.xOr_eq, Dn.xNot_eq, Dn.xYes_eq, Dn.dAnd_eq, Dn.dOr_eq, Dn.dNot_eq, Dn.dIf_eq, Dn.aNil_eq, Dn.aCons_eq, Dn.dApp_eq, Dn.dTup_eq, Dn.dLst_eq, Dn.nLst_eq, Dn.dCall_eq, Dn.dChain_eq, Dn.sSet_eq, Dn.sRet_eq, Dn.sRetN_eq, Dn.sDrop_eq, Dn.sIf_eq, Dn.sNext_eq, Dn.sBrk_eq, Dn.sCnt_eq, Dn.sPar_eq, Dn.sPar3_eq, Dn.sAsg_eq, Dn.tset_nm, Dn.tset_tp, Dn.tsets_nil, Dn.tsets_cons, Dn.grd_none, Dn.wipeE_nil, Dn.wipeE_cons, Dn.gEq_int, Dn.gIsN_non, Dn.gIsN_int, Dn.gIsN_str, Dn.gIsN_tup, Dn.gIsN_bl, Dn.gIsN_ib, Dn.gIsN_nb, Dn.gIsN_sb, Dn.gIsN_tb, Dn.gAdd_int, Dn.gAugAdd_int, Dn.gSubI_int, Dn.gLt_int, Dn.gLe_int, Dn.gGt_int, Dn.gGe_int, Dn.gNeg_int, Dn.gAbs_int, Dn.gInt_int, Dn.gMax2_int, Dn.gMin2_int, Dn.asQ_tup, Dn.asQ_lst, Dn.asL_lst, Dn.gIdx_tup0, Dn.gIdx_tup1, Dn.gIdx_tup2, Dn.gLen_tup, Dn.gLen_lst, Dn.gLen_rol, Dn.gTuple_tup, Dn.gTuple_lst, Dn.gList_tup, Dn.gList_lst, Dn.sSetI_eq, Dn.dMtL_eq, Dn.iSeq_lst, Dn.iSeq_tup, Dn.sSeq_eq, Dn.startE, List.set_cons_zero, List.set_cons_succ, List.map_cons, List.map_nil, List.length_cons, List.length_nil, List.cons_append, List.nil_append, List.append_nil, List.replicate_succ, List.replicate_zero, if_true, if_false, ite_true, ite_false, Bool.false_eq_true, decide_true, decide_false, Nat.reduceSub, Nat.reduceAdd, Nat.reduceLeDiff, Bool.not_true, Bool.not_false, reduceIte, reduceCtorEq, Nat.zero_add, Nat.add_zero, wipeC, e7, hq, e8]
    rfl) (by
    rintro x y ⟨r, rfl, _⟩
    show pureDs (mks r.1 r.2) = true
    exact pure_mks _ _)
  obtain ⟨rs, rfl, hrl, hrq⟩ := f2_rows f5
  have hrl : rs.length = n := by rw [hrl]; unfold rangeL; simp
  obtain ⟨M, A, e8, e9⟩ := number_due (S := S5) hrl (by omega) hrq hok hlv (by omega)
  have e10 := same_rows (M := M) (A := A) (S := S5)
  refine ⟨some (.ref S.length), some T.val, some (.lst (W.map mkT)), some (.int (m : Nat)), some (.tup (rs.map rowD)), S5, ?_⟩
  have l2 : dLrg1 (dBin gAdd (dC (.int 1)) (dCall F__law_take [] (aCons (dVar 2) (aCons (dC (.int 5)) (aNil))))) [some (.rol ns), some (.int (k : Nat)), some (.ref S.length), none, none, none, none, none] (S ++ [.lst [.int g, .int c]]) = .ok (.lst (kidsD 0 n)) S2 := by
    unfold dLrg1
    simp -implicitDefEqProofs only [Dn.rbind_ok, Dn.rbind_bad, Dn.rbind_exc, Dn.obind_ok, Dn.obind_bad, Dn.nox_ok, Dn.dVar_zero, Dn.dVar_succ, Dn.dC_eq, Dn.dUn_eq, Dn.dBin_eq, Dn.dBl_eq, Dn.xOf_eq, Dn.xAnd_eq, Dn.xOr_eq, Dn.xNot_eq, Dn.xYes_eq, Dn.dAnd_eq, Dn.dOr_eq, Dn.dNot_eq, Dn.dIf_eq, Dn.aNil_eq, Dn.aCons_eq, Dn.dApp_eq, Dn.dTup_eq, Dn.dLst_eq, Dn.nLst_eq, Dn.dCall_eq, Dn.dChain_eq, Dn.sSet_eq, Dn.sRet_eq, Dn.sRetN_eq, Dn.sDrop_eq, Dn.sIf_eq, Dn.sNext_eq, Dn.sBrk_eq, Dn.sCnt_eq, Dn.sPar_eq, Dn.sPar3_eq, Dn.sAsg_eq, Dn.tset_nm, Dn.tset_tp, Dn.tsets_nil, Dn.tsets_cons, Dn.grd_none, Dn.wipeE_nil, Dn.wipeE_cons, Dn.gEq_int, Dn.gIsN_non, Dn.gIsN_int, Dn.gIsN_str, Dn.gIsN_tup, Dn.gIsN_bl, Dn.gIsN_ib, Dn.gIsN_nb, Dn.gIsN_sb, Dn.gIsN_tb, Dn.gAdd_int, Dn.gAugAdd_int, Dn.gSubI_int, Dn.gLt_int, Dn.gLe_int, Dn.gGt_int, Dn.gGe_int, Dn.gNeg_int, Dn.gAbs_int, Dn.gInt_int, Dn.gMax2_int, Dn.gMin2_int, Dn.asQ_tup, Dn.asQ_lst, Dn.asL_lst, Dn.gIdx_tup0, Dn.gIdx_tup1, Dn.gIdx_tup2, Dn.gLen_tup, Dn.gLen_lst, Dn.gLen_rol, Dn.gTuple_tup, Dn.gTuple_lst, Dn.gList_tup, Dn.gList_lst, Dn.sSetI_eq, Dn.dMtL_eq, Dn.iSeq_lst, Dn.iSeq_tup, Dn.sSeq_eq, Dn.startE, List.set_cons_zero, List.set_cons_succ, List.map_cons, List.map_nil, List.length_cons, List.length_nil, List.cons_append, List.nil_append, List.append_nil, List.replicate_succ, List.replicate_zero, if_true, if_false, ite_true, ite_false, Bool.false_eq_true, decide_true, decide_false, Nat.reduceSub, Nat.reduceAdd, Nat.reduceLeDiff, Bool.not_true, Bool.not_false, reduceIte, reduceCtorEq, Nat.zero_add, Nat.add_zero, e2, hn]
    unfold lrg
    rw [if_pos (rgOk_of (by omega) (by omega) (by omega) (by omega)), rgD_zero]
  have s3 : sAsg (.tp [.nm 3, .nm 4]) (dCall F__law_once [] (aCons (dVar 2) (aCons (dLrg1 (dBin gAdd (dC (.int 1)) (dCall F__law_take [] (aCons (dVar 2) (aCons (dC (.int 5)) (aNil)))))) (aCons (dC (.int 9)) (aNil))))) [some (.rol ns), some (.int (k : Nat)), some (.ref S.length), none, none, none, none, none] (S ++ [.lst [.int g, .int c]])
      = .nx [some (.rol ns), some (.int (k : Nat)), some (.ref S.length), some T.val, some (.lst (W.map mkT)), none, none, none] S3 := by
    simp -implicitDefEqProofs only [Dn.rbind_ok, Dn.rbind_bad, Dn.rbind_exc, Dn.obind_ok, Dn.obind_bad, Dn.nox_ok, Dn.dVar_zero, Dn.dVar_succ, Dn.dC_eq, Dn.dUn_eq, Dn.dBin_eq, Dn.dBl_eq, Dn.xOf_eq, Dn.xAnd_eq, Dn.xOr_eq, Dn.xNot_eq, Dn.xYes_eq, Dn.dAnd_eq, Dn.dOr_eq, Dn.dNot_eq, Dn.dIf_eq, Dn.aNil_eq, Dn.aCons_eq, Dn.dApp_eq, Dn.dTup_eq, Dn.dLst_eq, Dn.nLst_eq, Dn.dCall_eq, Dn.dChain_eq, Dn.sSet_eq, Dn.sRet_eq, Dn.sRetN_eq, Dn.sDrop_eq, Dn.sIf_eq, Dn.sNext_eq, Dn.sBrk_eq, Dn.sCnt_eq, Dn.sPar_eq, Dn.sPar3_eq, Dn.sAsg_eq, Dn.tset_nm, Dn.tset_tp, Dn.tsets_nil, Dn.tsets_cons, Dn.grd_none, Dn.wipeE_nil, Dn.wipeE_cons, Dn.gEq_int, Dn.gIsN_non, Dn.gIsN_int, Dn.gIsN_str, Dn.gIsN_tup, Dn.gIsN_bl, Dn.gIsN_ib, Dn.gIsN_nb, Dn.gIsN_sb, Dn.gIsN_tb, Dn.gAdd_int, Dn.gAugAdd_int, Dn.gSubI_int, Dn.gLt_int, Dn.gLe_int, Dn.gGt_int, Dn.gGe_int, Dn.gNeg_int, Dn.gAbs_int, Dn.gInt_int, Dn.gMax2_int, Dn.gMin2_int, Dn.asQ_tup, Dn.asQ_lst, Dn.asL_lst, Dn.gIdx_tup0, Dn.gIdx_tup1, Dn.gIdx_tup2, Dn.gLen_tup, Dn.gLen_lst, Dn.gLen_rol, Dn.gTuple_tup, Dn.gTuple_lst, Dn.gList_tup, Dn.gList_lst, Dn.sSetI_eq, Dn.dMtL_eq, Dn.iSeq_lst, Dn.iSeq_tup, Dn.sSeq_eq, Dn.startE, List.set_cons_zero, List.set_cons_succ, List.map_cons, List.map_nil, List.length_cons, List.length_nil, List.cons_append, List.nil_append, List.append_nil, List.replicate_succ, List.replicate_zero, if_true, if_false, ite_true, ite_false, Bool.false_eq_true, decide_true, decide_false, Nat.reduceSub, Nat.reduceAdd, Nat.reduceLeDiff, Bool.not_true, Bool.not_false, reduceIte, reduceCtorEq, Nat.zero_add, Nat.add_zero, l2, e3, mkP]
  have s2 : sSet 2 (dCall F__law_box [] (aCons (dVar 0) (aCons (dVar 1) (aNil)))) [some (.rol ns), some (.int (k : Nat)), none, none, none, none, none, none] S = .nx [some (.rol ns), some (.int (k : Nat)), some (.ref S.length), none, none, none, none, none] (S ++ [.lst [.int g, .int c]]) := by
    simp -implicitDefEqProofs only [Dn.rbind_ok, Dn.rbind_bad, Dn.rbind_exc, Dn.obind_ok, Dn.obind_bad, Dn.nox_ok, Dn.dVar_zero, Dn.dVar_succ, Dn.dC_eq, Dn.dUn_eq, Dn.dBin_eq, Dn.dBl_eq, Dn.xOf_eq, Dn.xAnd_eq, Dn.xOr_eq, Dn.xNot_eq, Dn.xYes_eq, Dn.dAnd_eq, Dn.dOr_eq, Dn.dNot_eq, Dn.dIf_eq, Dn.aNil_eq, Dn.aCons_eq, Dn.dApp_eq, Dn.dTup_eq, Dn.dLst_eq, Dn.nLst_eq, Dn.dCall_eq, Dn.dChain_eq, Dn.sSet_eq, Dn.sRet_eq, Dn.sRetN_eq, Dn.sDrop_eq, Dn.sIf_eq, Dn.sNext_eq, Dn.sBrk_eq, Dn.sCnt_eq, Dn.sPar_eq, Dn.sPar3_eq, Dn.sAsg_eq, Dn.tset_nm, Dn.tset_tp, Dn.tsets_nil, Dn.tsets_cons, Dn.grd_none, Dn.wipeE_nil, Dn.wipeE_cons, Dn.gEq_int, Dn.gIsN_non, Dn.gIsN_int, Dn.gIsN_str, Dn.gIsN_tup, Dn.gIsN_bl, Dn.gIsN_ib, Dn.gIsN_nb, Dn.gIsN_sb, Dn.gIsN_tb, Dn.gAdd_int, Dn.gAugAdd_int, Dn.gSubI_int, Dn.gLt_int, Dn.gLe_int, Dn.gGt_int, Dn.gGe_int, Dn.gNeg_int, Dn.gAbs_int, Dn.gInt_int, Dn.gMax2_int, Dn.gMin2_int, Dn.asQ_tup, Dn.asQ_lst, Dn.asL_lst, Dn.gIdx_tup0, Dn.gIdx_tup1, Dn.gIdx_tup2, Dn.gLen_tup, Dn.gLen_lst, Dn.gLen_rol, Dn.gTuple_tup, Dn.gTuple_lst, Dn.gList_tup, Dn.gList_lst, Dn.sSetI_eq, Dn.dMtL_eq, Dn.iSeq_lst, Dn.iSeq_tup, Dn.sSeq_eq, Dn.startE, List.set_cons_zero, List.set_cons_succ, List.map_cons, List.map_nil, List.length_cons, List.length_nil, List.cons_append, List.nil_append, List.append_nil, List.replicate_succ, List.replicate_zero, if_true, if_false, ite_true, ite_false, Bool.false_eq_true, decide_true, decide_false, Nat.reduceSub, Nat.reduceAdd, Nat.reduceLeDiff, Bool.not_true, Bool.not_false, reduceIte, reduceCtorEq, Nat.zero_add, Nat.add_zero, e1]
  have s6 : sSet 6 (dApp gTuple (aCons (dLc (iRange1 lawM) [7] (.nm 7) (xYes) (dCall F__law_split_row [] (aCons (dVar 2) (aCons (dBin gAdd (dC (.int 1)) (dCall F__law_take [] (aCons (dVar 2) (aCons (dVar 5) (aNil))))) (aNil))))) (aNil))) [some (.rol ns), some (.int (k : Nat)), some (.ref S.length), some T.val, some (.lst (W.map mkT)), some (.int (m : Nat)), none, none] S4
      = .nx [some (.rol ns), some (.int (k : Nat)), some (.ref S.length), some T.val, some (.lst (W.map mkT)), some (.int (m : Nat)), some (.tup (rs.map rowD)), none] S5 := by
    simp -implicitDefEqProofs only [Dn.rbind_ok, Dn.rbind_bad, Dn.rbind_exc, Dn.obind_ok, Dn.obind_bad, Dn.nox_ok, Dn.dVar_zero, Dn.dVar_succ, Dn.dC_eq, Dn.dUn_eq, Dn.dBin_eq, Dn.dBl_eq, Dn.xOf_eq, Dn.xAnd_eq, Dn.xOr_eq, Dn.xNot_eq, Dn.xYes_eq, Dn.dAnd_eq, Dn.dOr_eq, Dn.dNot_eq, Dn.dIf_eq, Dn.aNil_eq, Dn.aCons_eq, Dn.dApp_eq, Dn.dTup_eq, Dn.dLst_eq, Dn.nLst_eq, Dn.dCall_eq, Dn.dChain_eq, Dn.sSet_eq, Dn.sRet_eq, Dn.sRetN_eq, Dn.sDrop_eq, Dn.sIf_eq, Dn.sNext_eq, Dn.sBrk_eq, Dn.sCnt_eq, Dn.sPar_eq, Dn.sPar3_eq, Dn.sAsg_eq, Dn.tset_nm, Dn.tset_tp, Dn.tsets_nil, Dn.tsets_cons, Dn.grd_none, Dn.wipeE_nil, Dn.wipeE_cons, Dn.gEq_int, Dn.gIsN_non, Dn.gIsN_int, Dn.gIsN_str, Dn.gIsN_tup, Dn.gIsN_bl, Dn.gIsN_ib, Dn.gIsN_nb, Dn.gIsN_sb, Dn.gIsN_tb, Dn.gAdd_int, Dn.gAugAdd_int, Dn.gSubI_int, Dn.gLt_int, Dn.gLe_int, Dn.gGt_int, Dn.gGe_int, Dn.gNeg_int, Dn.gAbs_int, Dn.gInt_int, Dn.gMax2_int, Dn.gMin2_int, Dn.asQ_tup, Dn.asQ_lst, Dn.asL_lst, Dn.gIdx_tup0, Dn.gIdx_tup1, Dn.gIdx_tup2, Dn.gLen_tup, Dn.gLen_lst, Dn.gLen_rol, Dn.gTuple_tup, Dn.gTuple_lst, Dn.gList_tup, Dn.gList_lst, Dn.sSetI_eq, Dn.dMtL_eq, Dn.iSeq_lst, Dn.iSeq_tup, Dn.sSeq_eq, Dn.startE, List.set_cons_zero, List.set_cons_succ, List.map_cons, List.map_nil, List.length_cons, List.length_nil, List.cons_append, List.nil_append, List.append_nil, List.replicate_succ, List.replicate_zero, if_true, if_false, ite_true, ite_false, Bool.false_eq_true, decide_true, decide_false, Nat.reduceSub, Nat.reduceAdd, Nat.reduceLeDiff, Bool.not_true, Bool.not_false, reduceIte, reduceCtorEq, Nat.zero_add, Nat.add_zero, e5]
  unfold lawB
  rw [sSeq_eq, s2]
  simp only
  rw [sSeq_eq, s3]
  simp only
  rw [sSeq_eq, sSet_eq, e4]
  simp only [obind_ok, List.set_cons_succ, List.set_cons_zero]
  rw [sSeq_eq, s6]
  simp only
  generalize rs.map rowD = rows at *
  generalize mks M A = mm at *
  simp -implicitDefEqProofs only [Dn.rbind_ok, Dn.rbind_bad, Dn.rbind_exc, Dn.obind_ok, Dn.obind_bad, Dn.nox_ok, Dn.dVar_zero, Dn.dVar_succ, Dn.dC_eq, Dn.dUn_eq, Dn.dBin_eq, Dn.dBl_eq, Dn.xOf_eq, Dn.xAnd_eq, Dn.xOr_eq, Dn.xNot_eq, Dn.xYes_eq, Dn.dAnd_eq, Dn.dOr_eq, Dn.dNot_eq, Dn.dIf_eq, Dn.aNil_eq, Dn.aCons_eq, Dn.dApp_eq, Dn.dTup_eq, Dn.dLst_eq, Dn.nLst_eq, Dn.dCall_eq, Dn.dChain_eq, Dn.sSet_eq, Dn.sRet_eq, Dn.sRetN_eq, Dn.sDrop_eq, Dn.sIf_eq, Dn.sNext_eq, Dn.sBrk_eq, Dn.sCnt_eq, Dn.sPar_eq, Dn.sPar3_eq, Dn.sAsg_eq, Dn.tset_nm, Dn.tset_tp, Dn.tsets_nil, Dn.tsets_cons, Dn.grd_none, Dn.wipeE_nil, Dn.wipeE_cons, Dn.gEq_int, Dn.gIsN_non, Dn.gIsN_int, Dn.gIsN_str, Dn.gIsN_tup, Dn.gIsN_bl, Dn.gIsN_ib, Dn.gIsN_nb, Dn.gIsN_sb, Dn.gIsN_tb, Dn.gAdd_int, Dn.gAugAdd_int, Dn.gSubI_int, Dn.gLt_int, Dn.gLe_int, Dn.gGt_int, Dn.gGe_int, Dn.gNeg_int, Dn.gAbs_int, Dn.gInt_int, Dn.gMax2_int, Dn.gMin2_int, Dn.asQ_tup, Dn.asQ_lst, Dn.asL_lst, Dn.gIdx_tup0, Dn.gIdx_tup1, Dn.gIdx_tup2, Dn.gLen_tup, Dn.gLen_lst, Dn.gLen_rol, Dn.gTuple_tup, Dn.gTuple_lst, Dn.gList_tup, Dn.gList_lst, Dn.sSetI_eq, Dn.dMtL_eq, Dn.iSeq_lst, Dn.iSeq_tup, Dn.sSeq_eq, Dn.startE, List.set_cons_zero, List.set_cons_succ, List.map_cons, List.map_nil, List.length_cons, List.length_nil, List.cons_append, List.nil_append, List.append_nil, List.replicate_succ, List.replicate_zero, if_true, if_false, ite_true, ite_false, Bool.false_eq_true, decide_true, decide_false, Nat.reduceSub, Nat.reduceAdd, Nat.reduceLeDiff, Bool.not_true, Bool.not_false, reduceIte, reduceCtorEq, Nat.zero_add, Nat.add_zero, lawT, e8, e9, e10]
end Cm

set_option maxHeartbeats 1000000
namespace Cm
open PySem PySem.Spec PyProof.Rows L2 Dn Mt
def exT : Tre := .node "row" [.leaf 0, .node "side" [.leaf 1, .leaf 2]]
def exR : List (Nat × List Nat) := [(2, [0, 1, 1]), (2, [1, 1]), (3, [2, 1])]
theorem exR_eq : exR.map rowD = [.tup [.tup [.int 0, .int 1], .tup [.int 1, .int 2], .tup [.int 1, .int 2]], .tup [.tup [.int 1, .int 2], .tup [.int 1, .int 2]], .tup [.tup [.int 2, .int 3], .tup [.int 1, .int 3]]] := by
  have a : fr (mkRat ((0 : Nat) : Int) 2) = .tup [.int 0, .int 1] := rfl
  have b : fr (mkRat ((1 : Nat) : Int) 2) = .tup [.int 1, .int 2] := rfl
  have c : fr (mkRat ((2 : Nat) : Int) 3) = .tup [.int 2, .int 3] := rfl
  have d : fr (mkRat ((1 : Nat) : Int) 3) = .tup [.int 1, .int 3] := rfl
  simp only [exR, List.map_cons, List.map_nil, rowD, mks, a, b, c, d]
theorem exD_eq : mks 12 [4, 7, 1] = [.tup [.int 1, .int 3], .tup [.int 7, .int 12], .tup [.int 1, .int 12]] := by
  have a : fr (mkRat ((4 : Nat) : Int) 12) = .tup [.int 1, .int 3] := rfl
  have b : fr (mkRat ((7 : Nat) : Int) 12) = .tup [.int 7, .int 12] := rfl
  have c : fr (mkRat ((1 : Nat) : Int) 12) = .tup [.int 1, .int 12] := rfl
  simp only [List.map_cons, List.map_nil, mks, a, b, c]
theorem exT_val : exT.val = .tup [.str "row", .tup [.int 0, .tup [.str "side", .tup [.int 1, .int 2]]]] := by
  simp only [exT, Tre.val, Tre.vals]
  rfl
theorem vec_three {A : List Nat} {a b c : Nat} (h0 : A.getD 0 0 = a) (h1 : A.getD 1 0 = b) (h2 : A.getD 2 0 = c) (hc : c ≠ 0) (hs : A.sum = a + b + c) (ht : trimV A = A) : A = [a, b, c] := by
  match A, h0, h1, h2, hs, ht with
  | [], h0, h1, h2, hs, ht => exact absurd h2.symm hc
  | [_], h0, h1, h2, hs, ht => exact absurd h2.symm hc
  | [_, _], h0, h1, h2, hs, ht => exact absurd h2.symm hc
  | x :: y :: z :: r, h0, h1, h2, hs, ht =>
    simp at h0 h1 h2 hs
    cases r with
    | nil => rw [h0, h1, h2]
    | cons u r =>
      have hl := trim_last ht (by simp)
      have hle := le_sum (T := x :: y :: z :: u :: r) (k := (x :: y :: z :: u :: r).length - 1) (by simp)
      have hl2 : (u :: r).getD ((u :: r).length - 1) 0 ≠ 0 := by
        have e : (x :: y :: z :: u :: r).getD ((x :: y :: z :: u :: r).length - 1) 0 = (u :: r).getD ((u :: r).length - 1) 0 := by simp [List.getD_eq_getElem?_getD]
        rw [← e]; exact hl
      have hle2 := le_sum (T := u :: r) (k := (u :: r).length - 1) (by simp)
      simp at hs hle2 hl2
      omega
theorem ev_example {S : Store} : F_number_chances [exT.val, .tup (exR.map rowD)] S = .ok (.tup (mks 12 [4, 7, 1])) S := by
  have ok : exT.ok 3 := by simp [exT, Tre.ok, Tre.oks]
  have lv : exT.leaves = [0, 1, 2] := by simp [exT, Tre.leaves, Tre.leavess]
  have sz : exT.size = 5 := by simp [exT, Tre.size, Tre.sizes]
  obtain ⟨A, e, hV⟩ := ev_number (Ms := fun i => (exR.getD i (1, [1])).1) (cs := fun i => (exR.getD i (1, [1])).2) (n := 3) (t := exT) (rows := exR.map rowD) (S := S)
    (fun i => match i with | 0 => by simp [exR] | 1 => by simp [exR] | 2 => by simp [exR] | i + 3 => by simp [exR])
    (fun i => match i with | 0 => by simp [exR] | 1 => by simp [exR] | 2 => by simp [exR] | i + 3 => by simp [exR])
    (fun i hi => match i, hi with | 0, _ => ⟨rfl, rfl, by simp [exR]⟩ | 1, _ => ⟨rfl, rfl, by simp [exR]⟩ | 2, _ => ⟨rfl, rfl, by simp [exR]⟩)
    ok (by rw [lv]; simp) (by rw [sz]; omega)
  have hp : prodL (fun i => (exR.getD i (1, [1])).1) exT.leaves = 12 := by rw [lv]; rfl
  have hI : ∀ f, Tre.I opN (fun i => (exR.getD i (1, [1])).2) exT f = 4 * f 0 + 7 * f 1 + f 2 := fun f => by
    have o1 : ∀ a b, opN "side" a b = a + b := fun a b => if_neg ne_side_row
    have o2 : ∀ a b, opN "row" a b = min a b := fun a b => if_pos rfl
    simp [exT, Tre.I, Tre.Is, Tre.If, dot, dotF, exR, o1, o2]
    omega
  have hg : ∀ k, A.getD k 0 = Tre.I opN (fun i => (exR.getD i (1, [1])).2) exT (fun i => if i = k then 1 else 0) := fun k => by rw [← dot_ind, hV.dt]
  have hA : A = [4, 7, 1] := by
    refine vec_three ?_ ?_ ?_ (by omega) ?_ hV.tr
    · rw [hg, hI]; simp
    · rw [hg, hI]; simp
    · rw [hg, hI]; simp
    · rw [hV.sum, hp]
  rw [e, hp, hA]
theorem law55_true (ns : List Int) (hl : ns.length ≤ 63) : ∃ S, F_law [.rol ns] [] = .ok (.bl true) S := by
  have i1 : ∀ (ρ : Dn.Env) (S : Store), iRange1 (dC (.int 3)) ρ S = .ok ⟨rangeL 0 3, none⟩ S := fun ρ S => iRange1_of (k := 3) rfl (by omega)
  obtain ⟨ρ', S', e, hρ⟩ := forD_run (t := .nm 1) (dead := [1, 2, 3, 4, 5, 6]) (body := lawB) (grd := none)
    (fun done ρ S' => ρ = [some (.rol ns), none, none, none, none, none, none, none]) (rangeL 0 3) [] [some (.rol ns), none, none, none, none, none, none, none] [] rfl (fun d r ρ S h he => trivial) (by
      rintro d x r ρ S1 rfl he
      obtain ⟨k, hk, rfl⟩ : ∃ k : Nat, k < 1000 ∧ x = .int (k : Nat) := by
        have hm : x ∈ rangeL 0 3 := by
          rw [← List.nil_append (rangeL 0 3), ← he]
          exact List.mem_append_right _ List.mem_cons_self
        unfold rangeL at hm
        obtain ⟨i, hi, rfl⟩ := List.mem_map.mp hm
        have := List.mem_range.mp hi
        exact ⟨i, by omega, by rw [Int.zero_add]⟩
      obtain ⟨x2, x3, x4, x5, x6, S2, e⟩ := law_turn (S := S1) hk hl
      exact ⟨_, _, S2, tset_nm, .inl e, rfl⟩)
  subst hρ
  refine ⟨[], def_end (S2 := S') (d := .bl true) rfl ?_ rfl (fun i o hi _ => by cases hi) rfl⟩
  have z2 : (2 : Nat) ≤ sizeLine := small_line (by omega)
  have z3 : (3 : Nat) ≤ sizeLine := small_line (by omega)
  have e1 := ev_example (S := S')
  have e2 := same_rows (M := 12) (A := [4, 7, 1]) (S := S')
  rw [exT_val, exR_eq, exD_eq] at e1
  rw [exD_eq] at e2
  rw [law_body, sSeq_eq, sFor_eq, i1, obind_ok]
  have st : startE 8 [.rol ns] = [some (.rol ns), none, none, none, none, none, none, none] := rfl
  rw [st, e]
  simp only
  have ep : ∀ (a b : D), permL [1, 0] [a, b] = [b, a] := fun a b => rfl
  have ecp : ∀ (F : List D → Store → Res D) (pm : List Nat) (a : DenA) (ρ : Dn.Env) (S : Store), dCallP F pm a ρ S = rbind (a ρ S) fun ds S1 => if ds.length = pm.length then nox (F (permL pm ds) S1) else .bad := fun _ _ _ _ _ => rfl
  simp -implicitDefEqProofs only [Dn.rbind_ok, Dn.rbind_bad, Dn.rbind_exc, Dn.obind_ok, Dn.obind_bad, Dn.nox_ok, Dn.dVar_zero, Dn.dVar_succ, Dn.dC_eq, Dn.dUn_eq, Dn.dBin_eq, Dn.dBl_eq, Dn.xOf_eq, Dn.xAnd_eq, Dn.xOr_eq, Dn.xNot_eq, Dn.xYes_eq, Dn.dAnd_eq, Dn.dOr_eq, Dn.dNot_eq, Dn.dIf_eq, Dn.aNil_eq, Dn.aCons_eq, Dn.dApp_eq, Dn.dTup_eq, Dn.dLst_eq, Dn.nLst_eq, Dn.dCall_eq, Dn.dChain_eq, Dn.sSet_eq, Dn.sRet_eq, Dn.sRetN_eq, Dn.sDrop_eq, Dn.sIf_eq, Dn.sNext_eq, Dn.sBrk_eq, Dn.sCnt_eq, Dn.sPar_eq, Dn.sPar3_eq, Dn.sAsg_eq, Dn.tset_nm, Dn.tset_tp, Dn.tsets_nil, Dn.tsets_cons, Dn.grd_none, Dn.wipeE_nil, Dn.wipeE_cons, Dn.gEq_int, Dn.gIsN_non, Dn.gIsN_int, Dn.gIsN_str, Dn.gIsN_tup, Dn.gIsN_bl, Dn.gIsN_ib, Dn.gIsN_nb, Dn.gIsN_sb, Dn.gIsN_tb, Dn.gAdd_int, Dn.gAugAdd_int, Dn.gSubI_int, Dn.gLt_int, Dn.gLe_int, Dn.gGt_int, Dn.gGe_int, Dn.gNeg_int, Dn.gAbs_int, Dn.gInt_int, Dn.gMax2_int, Dn.gMin2_int, Dn.asQ_tup, Dn.asQ_lst, Dn.asL_lst, Dn.gIdx_tup0, Dn.gIdx_tup1, Dn.gIdx_tup2, Dn.gLen_tup, Dn.gLen_lst, Dn.gLen_rol, Dn.gTuple_tup, Dn.gTuple_lst, Dn.gList_tup, Dn.gList_lst, Dn.sSetI_eq, Dn.dMtL_eq, Dn.iSeq_lst, Dn.iSeq_tup, Dn.sSeq_eq, Dn.startE, List.set_cons_zero, List.set_cons_succ, List.map_cons, List.map_nil, List.length_cons, List.length_nil, List.cons_append, List.nil_append, List.append_nil, List.replicate_succ, List.replicate_zero, if_true, if_false, ite_true, ite_false, Bool.false_eq_true, decide_true, decide_false, Nat.reduceSub, Nat.reduceAdd, Nat.reduceLeDiff, Bool.not_true, Bool.not_false, reduceIte, reduceCtorEq, Nat.zero_add, Nat.add_zero, lawE, z2, z3, ecp, ep, e1, e2]
end Cm

set_option maxHeartbeats 4000000
namespace Lk55
open PySem PySem.Spec PyProof.Rows L2 Dn
abbrev top (i : Nat) : Stmt := PySem.Challenge.pw_sameorapart_k55_how_many_by_all_draws.main.body.getD i (.Pass ⟨0, 0, 0, 0⟩)
abbrev s_is_int : Stmt := top 2
abbrev s_is_number : Stmt := top 3
abbrev s_joined_lots : Stmt := top 4
abbrev s_term_rows : Stmt := top 12
abbrev s_trimmed_row : Stmt := top 14
abbrev s_common_part : Stmt := top 7
abbrev s_fraction_of : Stmt := top 8
abbrev s_plus_fractions : Stmt := top 9
abbrev s_times_fractions : Stmt := top 10
abbrev s_summed_row : Stmt := top 15
abbrev s_least_row : Stmt := top 16
abbrev s_number_chances : Stmt := top 17
abbrev s__law_box : Stmt := top 19
abbrev s__law_take : Stmt := top 20
abbrev s__law_pick : Stmt := top 21
abbrev s__law_same : Stmt := top 22
abbrev s__law_order : Stmt := top 23
abbrev s__law_joined : Stmt := top 24
abbrev s__law_row : Stmt := top 25
abbrev s__law_side : Stmt := top 26
abbrev s__law_things : Stmt := top 27
abbrev s__law_once : Stmt := top 28
abbrev s__law_family : Stmt := top 29
abbrev s__law_many : Stmt := top 30
abbrev s__law_lowest : Stmt := top 31
abbrev s__law_split_row : Stmt := top 34
abbrev s__law_sum : Stmt := top 32
abbrev s__law_times : Stmt := top 33
abbrev s__law_draws : Stmt := top 35
abbrev s__law_paths : Stmt := top 36
abbrev s__law_narrow : Stmt := top 37
abbrev s__law_due : Stmt := top 38
abbrev s_law : Stmt := top 39
structure Adr where
  f_is_int : Addr
  d_is_int : FuncData
  f_is_number : Addr
  d_is_number : FuncData
  f_joined_lots : Addr
  d_joined_lots : FuncData
  f_term_rows : Addr
  d_term_rows : FuncData
  f_trimmed_row : Addr
  d_trimmed_row : FuncData
  f_common_part : Addr
  d_common_part : FuncData
  f_fraction_of : Addr
  d_fraction_of : FuncData
  f_plus_fractions : Addr
  d_plus_fractions : FuncData
  f_times_fractions : Addr
  d_times_fractions : FuncData
  f_summed_row : Addr
  d_summed_row : FuncData
  f_least_row : Addr
  d_least_row : FuncData
  f_number_chances : Addr
  d_number_chances : FuncData
  f__law_box : Addr
  d__law_box : FuncData
  f__law_take : Addr
  d__law_take : FuncData
  f__law_pick : Addr
  d__law_pick : FuncData
  f__law_same : Addr
  d__law_same : FuncData
  f__law_order : Addr
  d__law_order : FuncData
  f__law_joined : Addr
  d__law_joined : FuncData
  f__law_row : Addr
  d__law_row : FuncData
  f__law_side : Addr
  d__law_side : FuncData
  f__law_things : Addr
  d__law_things : FuncData
  f__law_once : Addr
  d__law_once : FuncData
  f__law_family : Addr
  d__law_family : FuncData
  f__law_many : Addr
  d__law_many : FuncData
  f__law_lowest : Addr
  d__law_lowest : FuncData
  f__law_split_row : Addr
  d__law_split_row : FuncData
  f__law_sum : Addr
  d__law_sum : FuncData
  f__law_times : Addr
  d__law_times : FuncData
  f__law_draws : Addr
  d__law_draws : FuncData
  f__law_paths : Addr
  d__law_paths : FuncData
  f__law_narrow : Addr
  d__law_narrow : FuncData
  f__law_due : Addr
  d__law_due : FuncData
  f_law : Addr
  d_law : FuncData
  t_NOUGHT : Addr
  u_NOUGHT : Value
  w_NOUGHT : V
  u_ROW : Value
  w_ROW : V
structure Txt (a : Adr) (K : PySem.W.Frag) (mg : Str → Option Value) : Prop where
  dummy : True
  z_abs : mg "abs" = none
  z_bool : mg "bool" = none
  z_enumerate : mg "enumerate" = none
  z_int : mg "int" = none
  z_isinstance : mg "isinstance" = none
  z_len : mg "len" = none
  z_list : mg "list" = none
  z_max : mg "max" = none
  z_min : mg "min" = none
  z_range : mg "range" = none
  z_reversed : mg "reversed" = none
  z_sorted : mg "sorted" = none
  z_str : mg "str" = none
  z_sum : mg "sum" = none
  z_tuple : mg "tuple" = none
  z_zip : mg "zip" = none
  F_is_int : Fun K "is_int" "is_int" s_is_int a.f_is_int a.d_is_int
  b_is_int : Binds K a.d_is_int ["value"] []
  g_is_int : mg "is_int" = some (.ref a.f_is_int)
  F_is_number : FunD K "is_number" "is_number" (defArgs s_is_number) (defBody s_is_number) (defScope s_is_number) [.int 0, .non] [] a.f_is_number a.d_is_number
  g_is_number : mg "is_number" = some (.ref a.f_is_number)
  F_joined_lots : Fun K "joined_lots" "joined_lots" s_joined_lots a.f_joined_lots a.d_joined_lots
  b_joined_lots : Binds K a.d_joined_lots ["lots"] []
  g_joined_lots : mg "joined_lots" = some (.ref a.f_joined_lots)
  F_term_rows : Fun K "term_rows" "term_rows" s_term_rows a.f_term_rows a.d_term_rows
  b_term_rows : Binds K a.d_term_rows ["term"] []
  g_term_rows : mg "term_rows" = some (.ref a.f_term_rows)
  F_trimmed_row : Fun K "trimmed_row" "trimmed_row" s_trimmed_row a.f_trimmed_row a.d_trimmed_row
  b_trimmed_row : Binds K a.d_trimmed_row ["row"] []
  g_trimmed_row : mg "trimmed_row" = some (.ref a.f_trimmed_row)
  F_common_part : Fun K "common_part" "common_part" s_common_part a.f_common_part a.d_common_part
  b_common_part : Binds K a.d_common_part ["one", "two"] []
  g_common_part : mg "common_part" = some (.ref a.f_common_part)
  F_fraction_of : Fun K "fraction_of" "fraction_of" s_fraction_of a.f_fraction_of a.d_fraction_of
  b_fraction_of : Binds K a.d_fraction_of ["numerator", "denominator"] []
  g_fraction_of : mg "fraction_of" = some (.ref a.f_fraction_of)
  F_plus_fractions : Fun K "plus_fractions" "plus_fractions" s_plus_fractions a.f_plus_fractions a.d_plus_fractions
  b_plus_fractions : Binds K a.d_plus_fractions ["one", "two"] []
  g_plus_fractions : mg "plus_fractions" = some (.ref a.f_plus_fractions)
  F_times_fractions : Fun K "times_fractions" "times_fractions" s_times_fractions a.f_times_fractions a.d_times_fractions
  b_times_fractions : Binds K a.d_times_fractions ["one", "two"] []
  g_times_fractions : mg "times_fractions" = some (.ref a.f_times_fractions)
  F_summed_row : Fun K "summed_row" "summed_row" s_summed_row a.f_summed_row a.d_summed_row
  b_summed_row : Binds K a.d_summed_row ["one", "two"] []
  g_summed_row : mg "summed_row" = some (.ref a.f_summed_row)
  F_least_row : Fun K "least_row" "least_row" s_least_row a.f_least_row a.d_least_row
  b_least_row : Binds K a.d_least_row ["one", "two"] []
  g_least_row : mg "least_row" = some (.ref a.f_least_row)
  F_number_chances : Fun K "number_chances" "number_chances" s_number_chances a.f_number_chances a.d_number_chances
  b_number_chances : Binds K a.d_number_chances ["term", "rows"] []
  g_number_chances : mg "number_chances" = some (.ref a.f_number_chances)
  F__law_box : Fun K "_law_box" "_law_box" s__law_box a.f__law_box a.d__law_box
  b__law_box : Binds K a.d__law_box ["script", "k"] []
  g__law_box : mg "_law_box" = some (.ref a.f__law_box)
  F__law_take : Fun K "_law_take" "_law_take" s__law_take a.f__law_take a.d__law_take
  b__law_take : Binds K a.d__law_take ["box", "many"] []
  g__law_take : mg "_law_take" = some (.ref a.f__law_take)
  F__law_pick : Fun K "_law_pick" "_law_pick" s__law_pick a.f__law_pick a.d__law_pick
  b__law_pick : Binds K a.d__law_pick ["box", "some"] []
  g__law_pick : mg "_law_pick" = some (.ref a.f__law_pick)
  F__law_same : Fun K "_law_same" "_law_same" s__law_same a.f__law_same a.d__law_same
  b__law_same : Binds K a.d__law_same ["told", "due"] []
  g__law_same : mg "_law_same" = some (.ref a.f__law_same)
  F__law_order : Fun K "_law_order" "_law_order" s__law_order a.f__law_order a.d__law_order
  b__law_order : Binds K a.d__law_order ["box", "some"] []
  g__law_order : mg "_law_order" = some (.ref a.f__law_order)
  F__law_joined : Fun K "_law_joined" "_law_joined" s__law_joined a.f__law_joined a.d__law_joined
  b__law_joined : Binds K a.d__law_joined ["one", "two"] []
  g__law_joined : mg "_law_joined" = some (.ref a.f__law_joined)
  F__law_row : Fun K "_law_row" "_law_row" s__law_row a.f__law_row a.d__law_row
  b__law_row : Binds K a.d__law_row ["box", "parts"] []
  g__law_row : mg "_law_row" = some (.ref a.f__law_row)
  F__law_side : Fun K "_law_side" "_law_side" s__law_side a.f__law_side a.d__law_side
  b__law_side : Binds K a.d__law_side ["box", "parts"] []
  g__law_side : mg "_law_side" = some (.ref a.f__law_side)
  F__law_things : Fun K "_law_things" "_law_things" s__law_things a.f__law_things a.d__law_things
  b__law_things : Binds K a.d__law_things ["names"] []
  g__law_things : mg "_law_things" = some (.ref a.f__law_things)
  F__law_once : Fun K "_law_once" "_law_once" s__law_once a.f__law_once a.d__law_once
  b__law_once : Binds K a.d__law_once ["box", "names", "most"] []
  g__law_once : mg "_law_once" = some (.ref a.f__law_once)
  F__law_family : Fun K "_law_family" "_law_family" s__law_family a.f__law_family a.d__law_family
  b__law_family : Binds K a.d__law_family ["ways"] []
  g__law_family : mg "_law_family" = some (.ref a.f__law_family)
  F__law_many : Fun K "_law_many" "_law_many" s__law_many a.f__law_many a.d__law_many
  b__law_many : Binds K a.d__law_many ["family"] []
  g__law_many : mg "_law_many" = some (.ref a.f__law_many)
  F__law_lowest : Fun K "_law_lowest" "_law_lowest" s__law_lowest a.f__law_lowest a.d__law_lowest
  b__law_lowest : Binds K a.d__law_lowest ["number", "parts"] []
  g__law_lowest : mg "_law_lowest" = some (.ref a.f__law_lowest)
  F__law_split_row : Fun K "_law_split_row" "_law_split_row" s__law_split_row a.f__law_split_row a.d__law_split_row
  b__law_split_row : Binds K a.d__law_split_row ["box", "many"] []
  g__law_split_row : mg "_law_split_row" = some (.ref a.f__law_split_row)
  F__law_sum : Fun K "_law_sum" "_law_sum" s__law_sum a.f__law_sum a.d__law_sum
  b__law_sum : Binds K a.d__law_sum ["one", "two"] []
  g__law_sum : mg "_law_sum" = some (.ref a.f__law_sum)
  F__law_times : Fun K "_law_times" "_law_times" s__law_times a.f__law_times a.d__law_times
  b__law_times : Binds K a.d__law_times ["one", "two"] []
  g__law_times : mg "_law_times" = some (.ref a.f__law_times)
  F__law_draws : Fun K "_law_draws" "_law_draws" s__law_draws a.f__law_draws a.d__law_draws
  b__law_draws : Binds K a.d__law_draws ["rows"] []
  g__law_draws : mg "_law_draws" = some (.ref a.f__law_draws)
  F__law_paths : Fun K "_law_paths" "_law_paths" s__law_paths a.f__law_paths a.d__law_paths
  b__law_paths : Binds K a.d__law_paths ["term"] []
  g__law_paths : mg "_law_paths" = some (.ref a.f__law_paths)
  F__law_narrow : Fun K "_law_narrow" "_law_narrow" s__law_narrow a.f__law_narrow a.d__law_narrow
  b__law_narrow : Binds K a.d__law_narrow ["term", "widths"] []
  g__law_narrow : mg "_law_narrow" = some (.ref a.f__law_narrow)
  F__law_due : Fun K "_law_due" "_law_due" s__law_due a.f__law_due a.d__law_due
  b__law_due : Binds K a.d__law_due ["term", "rows"] []
  g__law_due : mg "_law_due" = some (.ref a.f__law_due)
  F_law : Fun K "law" "law" s_law a.f_law a.d_law
  b_law : Binds K a.d_law ["script"] []
  g_law : mg "law" = some (.ref a.f_law)
  b_is_number_1 : ∃ ds, Vals [.int 0, .non] ds ∧ Binds K a.d_is_number ["value", "least", "most"] ds
  kb_number_chances_rows_term : KPerm K a.d_number_chances ["term", "rows"] ["rows", "term"] [1, 0]
  m_NOUGHT : mg "NOUGHT" = some a.u_NOUGHT
  v_NOUGHT : RelV a.w_NOUGHT a.u_NOUGHT
  r_NOUGHT : ∀ α H, Rep ⟨K, mg⟩ α H Cm.c_NOUGHT a.w_NOUGHT
  m_ROW : mg "ROW" = some a.u_ROW
  v_ROW : RelV a.w_ROW a.u_ROW
  r_ROW : ∀ α H, Rep ⟨K, mg⟩ α H Cm.c_ROW a.w_ROW
section
variable {P : Program} {w : World} {K : PySem.W.Frag} {mg : Str → Option Value} {base : Heap} {a : Adr}
theorem sc_is_int : FnScope ["value"] ["value"] (defScope s_is_int) := ⟨rfl, rfl, rfl, by decide +kernel, rfl, by decide +kernel, by decide +kernel⟩
theorem ok_is_int (T : Txt a K mg) : FnOk P w K mg base CX0 1 a.f_is_int a.d_is_int ["value"] (SpD ⟨K, mg⟩ Cm.F_is_int) := fn_den (N := ["value"]) (ps := ["value"]) (fb := Cm.B_is_int) T.F_is_int sc_is_int fun cdv A outer s H E hr =>
  (sb_one (ss_ret (se_and (se_isi (by rfl) T.z_isinstance (by rfl) T.z_int (by decide +kernel) (by decide) (se_var (pv 0))) (se_one (se_not (se_isi (by rfl) T.z_isinstance (by rfl) T.z_bool (by decide +kernel) (by decide) (se_var (pv 0))))))))
theorem sc_is_number : FnScope ["value", "least", "most"] ["value", "least", "most"] (defScope s_is_number) := ⟨rfl, rfl, rfl, by decide +kernel, rfl, by decide +kernel, by decide +kernel⟩
theorem ok_is_number (T : Txt a K mg) : FnOk P w K mg base CX0 2 a.f_is_number a.d_is_number ["value", "least", "most"] (SpD ⟨K, mg⟩ Cm.F_is_number) := fn_denD (N := ["value", "least", "most"]) (ps := ["value", "least", "most"]) (fb := Cm.B_is_number) T.F_is_number sc_is_number fun cdv A outer s H E hr =>
  (sb_one (ss_ret (se_and (se_call (pe_call (ok_is_int T) (hr.mono (by decide)) (by rfl) T.g_is_int T.F_is_int.kp T.b_is_int .nil pass0 (sa_cons (se_var (pv 0)) (sa_nil))) (fun _ _ => .nil)) (se_and (se_cmp op_ge v_ge (se_var (pv 0)) (se_var (pv 1)) (by rfl)) (se_one (se_or (se_cmp op_isA v_is (se_var (pv 2)) (se_non) (by rfl)) (se_one (se_cmp (op_leA (hu0 hr)) v_le (se_var (pv 0)) (se_var (pv 2)) (by rfl)))))))))
theorem sc_joined_lots : FnScope ["lots", "found", "lot", "entry"] ["lots"] (defScope s_joined_lots) := ⟨rfl, rfl, rfl, by decide +kernel, rfl, by decide +kernel, by decide +kernel⟩
theorem ok_joined_lots (T : Txt a K mg) : FnOk P w K mg base CX0 1 a.f_joined_lots a.d_joined_lots ["lots"] (SpD ⟨K, mg⟩ Cm.F_joined_lots) := fn_den (N := ["lots", "found", "lot", "entry"]) (ps := ["lots"]) (fb := Cm.B_joined_lots) T.F_joined_lots sc_joined_lots fun cdv A outer s H E hr =>
  (sb_cons (ss_set (ps_set (i := 1) sc_joined_lots.nd rfl (.inl rfl) (se_ndict))) (sb_cons (ss_for [2, 3] PassesOwn.never rfl (si_seq (se_var (pv 0))) (sg_nm (pg_name (i := 2) sc_joined_lots.nd rfl (.inl rfl))) (sb_one (ss_for [3] PassesOwn.never rfl (si_seq (se_var (pv 2))) (sg_nm (pg_name (i := 3) sc_joined_lots.nd rfl (.inl rfl))) (sb_one (ss_setD (hu1 hr) (se_var (pv 1)) (se_var (pv 3)) (se_bl)))))) (sb_one (ss_ret (se_app (pe_callTy call_tuple_of (by rfl) T.z_tuple (by decide +kernel) (sa_cons (se_app (pe_callB (call_sortA rfl) (by rfl) T.z_sorted (by decide +kernel) (sa_cons (se_app (pe_callTy (call_list_dK rfl) (by rfl) T.z_list (by decide +kernel) (sa_cons (se_var (pv 1)) (sa_nil))) v_listD) (sa_nil))) v_sortA) (sa_nil))) v_tuple)))))
theorem sc_term_rows : FnScope ["term", "rows", "stack", "one", "ahead", "number"] ["term"] (defScope s_term_rows) := ⟨rfl, rfl, rfl, by decide +kernel, rfl, by decide +kernel, by decide +kernel⟩
theorem ok_term_rows (T : Txt a K mg) : FnOk P w K mg base CX0 3 a.f_term_rows a.d_term_rows ["term"] (SpD ⟨K, mg⟩ Cm.F_term_rows) := fn_den (N := ["term", "rows", "stack", "one", "ahead", "number"]) (ps := ["term"]) (fb := Cm.B_term_rows) T.F_term_rows sc_term_rows fun cdv A outer s H E hr =>
  (sb_cons (ss_asg (se_tup (sa_cons (sn_lst (sa_nil)) (sa_cons (sn_lst (sa_cons (se_tup (sa_cons (se_var (pv 0)) (sa_cons (sn_lst (sa_nil)) (sa_nil)))) (sa_nil))) (sa_nil)))) (sg_tup rfl (sgs_cons (sg_nm (pg_name (i := 1) sc_term_rows.nd rfl (.inr rfl))) (sgs_cons (sg_nm (pg_name (i := 2) sc_term_rows.nd rfl (.inl rfl))) (sgs_nil))))) (sb_cons (ss_while [3, 4] PassesOwn.never (sx_cmp op_gt v_gt (se_app (pe_callB call_lenA (by rfl) T.z_len (by decide +kernel) (sa_cons (se_var (pv 2)) (sa_nil))) v_len) (se_int) (by rfl)) (sb_cons (ss_asg (se_idx (se_var (pv 2)) (se_un un_neg v_neg (se_int))) (sg_tup rfl (sgs_cons (sg_nm (pg_name (i := 3) sc_term_rows.nd rfl (.inl rfl))) (sgs_cons (sg_nm (pg_name (i := 4) sc_term_rows.nd rfl (.inl rfl))) (sgs_nil))))) (sb_one (ss_if (sx_w (sw_and (sx_not (sx_val (se_call (pe_call (ok_is_number T) (hr.mono (by decide)) (by rfl) T.g_is_number T.F_is_number.kp T.b_is_number_1.choose_spec.2 T.b_is_number_1.choose_spec.1 pass0 (sa_cons (se_var (pv 3)) (sa_nil))) (fun _ _ => .cons (.int _) (.cons (.non) (.nil)))))) (sw_and1 (sx_cmp (op_ltA (hu0 hr)) v_lt (se_app (pe_callB call_lenA (by rfl) T.z_len (by decide +kernel) (sa_cons (se_var (pv 4)) (sa_nil))) v_len) (se_app (pe_callB call_lenA (by rfl) T.z_len (by decide +kernel) (sa_cons (se_idx (se_var (pv 3)) (se_int)) (sa_nil))) v_len) (by rfl))))) (sb_one (ss_expr (se_mtL (pe_bm PySem.F.plainAttrs_list PySem.F.slot_list_append PySem.F.type_list_append mt_append (se_var (pv 2)) (sa_cons (se_tup (sa_cons (se_idx (se_idx (se_var (pv 3)) (se_int)) (se_app (pe_callB call_lenA (by rfl) T.z_len (by decide +kernel) (sa_cons (se_var (pv 4)) (sa_nil))) v_len)) (sa_cons (sn_lst (sa_nil)) (sa_nil)))) (sa_nil))) v_append))) (sb_cons (ss_if (sx_val (se_call (pe_call (ok_is_number T) (hr.mono (by decide)) (by rfl) T.g_is_number T.F_is_number.kp T.b_is_number_1.choose_spec.2 T.b_is_number_1.choose_spec.1 pass0 (sa_cons (se_var (pv 3)) (sa_nil))) (fun _ _ => .cons (.int _) (.cons (.non) (.nil))))) (sb_one (ss_expr (se_mtL (pe_bm PySem.F.plainAttrs_list PySem.F.slot_list_append PySem.F.type_list_append mt_append (se_var (pv 1)) (sa_cons (se_tup (sa_cons (se_non) (sa_cons (se_tup (sa_nil)) (sa_cons (se_tup (sa_cons (se_var (pv 3)) (sa_nil))) (sa_nil))))) (sa_nil))) v_append))) (sb_one (ss_expr (se_mtL (pe_bm PySem.F.plainAttrs_list PySem.F.slot_list_append PySem.F.type_list_append mt_append (se_var (pv 1)) (sa_cons (se_tup (sa_cons (se_idx (se_var (pv 3)) (se_int)) (sa_cons (se_app (pe_callTy call_tuple_of (by rfl) T.z_tuple (by decide +kernel) (sa_cons (se_var (pv 4)) (sa_nil))) v_tuple) (sa_cons (se_call (pe_call (ok_joined_lots T) (hr.mono (by decide)) (by rfl) T.g_joined_lots T.F_joined_lots.kp T.b_joined_lots .nil pass0 (sa_cons (se_dlc (own := [("number", 5)]) (pe_lc (own := [("number", 5)]) rfl sc_term_rows.nd (si_seq (se_var (pv 4))) (blkOk_by (N := ["term", "rows", "stack", "one", "ahead", "number"]) (sc := (defScope s_term_rows)) (by decide +kernel)) (fun _ _ _ _ _ => sg_nm (pg_name (i := 5) sc_term_rows.nd rfl (.inl rfl))) (fun _ _ _ _ _ => sts_nil) (fun _ _ _ _ _ => se_idx (se_idx (se_var (pv 1)) (se_var (pv 5))) (se_int))) (by simp [Tgt.slots, slotsL])) (sa_nil))) (fun _ _ => .nil)) (sa_nil))))) (sa_nil))) v_append)))) (sb_cons (ss_expr (se_mtL0 (pe_bm0 PySem.F.plainAttrs_list PySem.F.slot_list_pop PySem.F.type_list_pop mt_pop (se_var (pv 2))) v_pop)) (sb_one (ss_if (sx_cmp op_gt v_gt (se_app (pe_callB call_lenA (by rfl) T.z_len (by decide +kernel) (sa_cons (se_var (pv 2)) (sa_nil))) v_len) (se_int) (by rfl)) (sb_one (ss_expr (se_mtL (pe_bm PySem.F.plainAttrs_list PySem.F.slot_list_append PySem.F.type_list_append mt_append (se_idx (se_idx (se_var (pv 2)) (se_un un_neg v_neg (se_int))) (se_int)) (sa_cons (se_bin op_sub v_sub (se_app (pe_callB call_lenA (by rfl) T.z_len (by decide +kernel) (sa_cons (se_var (pv 1)) (sa_nil))) v_len) (se_int)) (sa_nil))) v_append))) (sb_nil))))))))) (sb_one (ss_ret (se_app (pe_callTy call_tuple_of (by rfl) T.z_tuple (by decide +kernel) (sa_cons (se_var (pv 1)) (sa_nil))) v_tuple)))))
theorem sc_trimmed_row : FnScope ["row", "many", "place", "chance"] ["row"] (defScope s_trimmed_row) := ⟨rfl, rfl, rfl, by decide +kernel, rfl, by decide +kernel, by decide +kernel⟩
theorem ok_trimmed_row (T : Txt a K mg) : FnOk P w K mg base CX0 1 a.f_trimmed_row a.d_trimmed_row ["row"] (SpD ⟨K, mg⟩ Cm.F_trimmed_row) := fn_den (N := ["row", "many", "place", "chance"]) (ps := ["row"]) (fb := Cm.B_trimmed_row) T.F_trimmed_row sc_trimmed_row fun cdv A outer s H E hr =>
  (sb_cons (ss_set (ps_set (i := 1) sc_trimmed_row.nd rfl (.inl rfl) (se_app (pe_callB (call_maxA rfl) (by rfl) T.z_max (by decide +kernel) (sa_cons (se_dlc (own := [("place", 2), ("chance", 3)]) (pe_lc (own := [("place", 2), ("chance", 3)]) rfl sc_trimmed_row.nd (si_enum (by rfl) T.z_enumerate (se_var (pv 0))) (blkOk_by (N := ["row", "many", "place", "chance"]) (sc := (defScope s_trimmed_row)) (by decide +kernel)) (fun _ _ _ _ _ => sg_tup rfl (sgs_cons (sg_nm (pg_name (i := 2) sc_trimmed_row.nd rfl (.inl rfl))) (sgs_cons (sg_nm (pg_name (i := 3) sc_trimmed_row.nd rfl (.inl rfl))) (sgs_nil)))) (fun _ _ _ _ _ => sts_one (sx_cmp (op_neDn (hu64 hr)) v_eq (se_var (pv 3)) (se_glob (by rfl) T.m_NOUGHT T.v_NOUGHT T.r_NOUGHT) (by rfl))) (fun _ _ _ _ _ => se_bin op_add3 v_add (se_var (pv 2)) (se_int))) (by simp [Tgt.slots, slotsL])) (sa_nil))) v_maxA))) (sb_one (ss_ret (se_app (pe_callTy call_tuple_of (by rfl) T.z_tuple (by decide +kernel) (sa_cons (se_slice (se_var (pv 0)) (so_none) (so_some (se_var (pv 1)))) (sa_nil))) v_tuple))))
theorem sc_common_part : FnScope ["one", "two"] ["one", "two"] (defScope s_common_part) := ⟨rfl, rfl, rfl, by decide +kernel, rfl, by decide +kernel, by decide +kernel⟩
theorem ok_common_part (T : Txt a K mg) : FnOk P w K mg base CX0 1 a.f_common_part a.d_common_part ["one", "two"] (SpD ⟨K, mg⟩ Cm.F_common_part) := fn_den (N := ["one", "two"]) (ps := ["one", "two"]) (fb := Cm.B_common_part) T.F_common_part sc_common_part fun cdv A outer s H E hr =>
  (sb_cons (ss_while [] PassesOwn.never (sx_cmp (op_neDn (hu64 hr)) v_eq (se_var (pv 1)) (se_int) (by rfl)) (sb_one (ss_par (ps_par (i := 0) (j := 1) rfl sc_common_part.nd rfl rfl (by decide) rfl rfl (sa_cons (se_var (pv 1)) (sa_cons (se_bin op_mod v_mod (se_var (pv 0)) (se_var (pv 1))) (sa_nil))) (by rfl))))) (sb_one (ss_ret (se_app (pe_callB call_abs (by rfl) T.z_abs (by decide +kernel) (sa_cons (se_var (pv 0)) (sa_nil))) v_abs))))
theorem sc_fraction_of : FnScope ["numerator", "denominator", "part"] ["numerator", "denominator"] (defScope s_fraction_of) := ⟨rfl, rfl, rfl, by decide +kernel, rfl, by decide +kernel, by decide +kernel⟩
theorem ok_fraction_of (T : Txt a K mg) : FnOk P w K mg base CX0 2 a.f_fraction_of a.d_fraction_of ["numerator", "denominator"] (SpD ⟨K, mg⟩ Cm.F_fraction_of) := fn_den (N := ["numerator", "denominator", "part"]) (ps := ["numerator", "denominator"]) (fb := Cm.B_fraction_of) T.F_fraction_of sc_fraction_of fun cdv A outer s H E hr =>
  (sb_cons (ss_set (ps_set (i := 2) sc_fraction_of.nd rfl (.inl rfl) (se_call (pe_call (ok_common_part T) (hr.mono (by decide)) (by rfl) T.g_common_part T.F_common_part.kp T.b_common_part .nil pass0 (sa_cons (se_var (pv 0)) (sa_cons (se_var (pv 1)) (sa_nil)))) (fun _ _ => .nil)))) (sb_one (ss_ret (se_tup (sa_cons (se_bin op_fdivW v_div (se_var (pv 0)) (se_var (pv 2))) (sa_cons (se_bin op_fdivW v_div (se_var (pv 1)) (se_var (pv 2))) (sa_nil)))))))
theorem sc_plus_fractions : FnScope ["one", "two"] ["one", "two"] (defScope s_plus_fractions) := ⟨rfl, rfl, rfl, by decide +kernel, rfl, by decide +kernel, by decide +kernel⟩
theorem ok_plus_fractions (T : Txt a K mg) : FnOk P w K mg base CX0 3 a.f_plus_fractions a.d_plus_fractions ["one", "two"] (SpD ⟨K, mg⟩ Cm.F_plus_fractions) := fn_den (N := ["one", "two"]) (ps := ["one", "two"]) (fb := Cm.B_plus_fractions) T.F_plus_fractions sc_plus_fractions fun cdv A outer s H E hr =>
  (sb_one (ss_ret (se_call (pe_call (ok_fraction_of T) (hr.mono (by decide)) (by rfl) T.g_fraction_of T.F_fraction_of.kp T.b_fraction_of .nil pass0 (sa_cons (se_bin op_add3 v_add (se_bin op_mul3 v_mul (se_idx (se_var (pv 0)) (se_int)) (se_idx (se_var (pv 1)) (se_int))) (se_bin op_mul3 v_mul (se_idx (se_var (pv 1)) (se_int)) (se_idx (se_var (pv 0)) (se_int)))) (sa_cons (se_bin op_mul3 v_mul (se_idx (se_var (pv 0)) (se_int)) (se_idx (se_var (pv 1)) (se_int))) (sa_nil)))) (fun _ _ => .nil))))
theorem sc_times_fractions : FnScope ["one", "two"] ["one", "two"] (defScope s_times_fractions) := ⟨rfl, rfl, rfl, by decide +kernel, rfl, by decide +kernel, by decide +kernel⟩
theorem ok_times_fractions (T : Txt a K mg) : FnOk P w K mg base CX0 3 a.f_times_fractions a.d_times_fractions ["one", "two"] (SpD ⟨K, mg⟩ Cm.F_times_fractions) := fn_den (N := ["one", "two"]) (ps := ["one", "two"]) (fb := Cm.B_times_fractions) T.F_times_fractions sc_times_fractions fun cdv A outer s H E hr =>
  (sb_one (ss_ret (se_call (pe_call (ok_fraction_of T) (hr.mono (by decide)) (by rfl) T.g_fraction_of T.F_fraction_of.kp T.b_fraction_of .nil pass0 (sa_cons (se_bin op_mul3 v_mul (se_idx (se_var (pv 0)) (se_int)) (se_idx (se_var (pv 1)) (se_int))) (sa_cons (se_bin op_mul3 v_mul (se_idx (se_var (pv 0)) (se_int)) (se_idx (se_var (pv 1)) (se_int))) (sa_nil)))) (fun _ _ => .nil))))
theorem sc_summed_row : FnScope ["one", "two", "told", "place", "mine", "spot", "other"] ["one", "two"] (defScope s_summed_row) := ⟨rfl, rfl, rfl, by decide +kernel, rfl, by decide +kernel, by decide +kernel⟩
theorem ok_summed_row (T : Txt a K mg) : FnOk P w K mg base CX0 4 a.f_summed_row a.d_summed_row ["one", "two"] (SpD ⟨K, mg⟩ Cm.F_summed_row) := fn_den (N := ["one", "two", "told", "place", "mine", "spot", "other"]) (ps := ["one", "two"]) (fb := Cm.B_summed_row) T.F_summed_row sc_summed_row fun cdv A outer s H E hr =>
  (sb_cons (ss_set (ps_set (i := 2) sc_summed_row.nd rfl (.inl rfl) (se_bin op_mul3 v_mulN (se_lst (sa_cons (se_glob (by rfl) T.m_NOUGHT T.v_NOUGHT T.r_NOUGHT) (sa_nil))) (se_bin op_sub v_sub (se_bin op_add3 v_add (se_app (pe_callB call_lenA (by rfl) T.z_len (by decide +kernel) (sa_cons (se_var (pv 0)) (sa_nil))) v_len) (se_app (pe_callB call_lenA (by rfl) T.z_len (by decide +kernel) (sa_cons (se_var (pv 1)) (sa_nil))) v_len)) (se_int))))) (sb_cons (ss_for [3, 4, 5, 6] PassesOwn.never rfl (si_enum (by rfl) T.z_enumerate (se_var (pv 0))) (sg_tup rfl (sgs_cons (sg_nm (pg_name (i := 3) sc_summed_row.nd rfl (.inl rfl))) (sgs_cons (sg_nm (pg_name (i := 4) sc_summed_row.nd rfl (.inl rfl))) (sgs_nil)))) (sb_one (ss_for [5, 6] PassesOwn.never rfl (si_enum (by rfl) T.z_enumerate (se_var (pv 1))) (sg_tup rfl (sgs_cons (sg_nm (pg_name (i := 5) sc_summed_row.nd rfl (.inl rfl))) (sgs_cons (sg_nm (pg_name (i := 6) sc_summed_row.nd rfl (.inl rfl))) (sgs_nil)))) (sb_one (ss_setI (ps_asg (se_call (pe_call (ok_plus_fractions T) (hr.mono (by decide)) (by rfl) T.g_plus_fractions T.F_plus_fractions.kp T.b_plus_fractions .nil pass0 (sa_cons (se_idx (se_var (pv 2)) (se_bin op_add3 v_add (se_var (pv 3)) (se_var (pv 5)))) (sa_cons (se_call (pe_call (ok_times_fractions T) (hr.mono (by decide)) (by rfl) T.g_times_fractions T.F_times_fractions.kp T.b_times_fractions .nil pass0 (sa_cons (se_var (pv 4)) (sa_cons (se_var (pv 6)) (sa_nil)))) (fun _ _ => .nil)) (sa_nil)))) (fun _ _ => .nil)) (pg_sub (se_var (pv 2)) (se_bin op_add3 v_add (se_var (pv 3)) (se_var (pv 5))) set_list))))))) (sb_one (ss_ret (se_app (pe_callTy call_tuple_of (by rfl) T.z_tuple (by decide +kernel) (sa_cons (se_var (pv 2)) (sa_nil))) v_tuple)))))
theorem sc_least_row : FnScope ["one", "two", "told", "place", "mine", "spot", "other"] ["one", "two"] (defScope s_least_row) := ⟨rfl, rfl, rfl, by decide +kernel, rfl, by decide +kernel, by decide +kernel⟩
theorem ok_least_row (T : Txt a K mg) : FnOk P w K mg base CX0 4 a.f_least_row a.d_least_row ["one", "two"] (SpD ⟨K, mg⟩ Cm.F_least_row) := fn_den (N := ["one", "two", "told", "place", "mine", "spot", "other"]) (ps := ["one", "two"]) (fb := Cm.B_least_row) T.F_least_row sc_least_row fun cdv A outer s H E hr =>
  (sb_cons (ss_set (ps_set (i := 2) sc_least_row.nd rfl (.inl rfl) (se_bin op_mul3 v_mulN (se_lst (sa_cons (se_glob (by rfl) T.m_NOUGHT T.v_NOUGHT T.r_NOUGHT) (sa_nil))) (se_app (pe_callB (call_min2 rfl) (by rfl) T.z_min (by decide +kernel) (sa_cons (se_app (pe_callB call_lenA (by rfl) T.z_len (by decide +kernel) (sa_cons (se_var (pv 0)) (sa_nil))) v_len) (sa_cons (se_app (pe_callB call_lenA (by rfl) T.z_len (by decide +kernel) (sa_cons (se_var (pv 1)) (sa_nil))) v_len) (sa_nil)))) v_min2)))) (sb_cons (ss_for [3, 4, 5, 6] PassesOwn.never rfl (si_enum (by rfl) T.z_enumerate (se_var (pv 0))) (sg_tup rfl (sgs_cons (sg_nm (pg_name (i := 3) sc_least_row.nd rfl (.inl rfl))) (sgs_cons (sg_nm (pg_name (i := 4) sc_least_row.nd rfl (.inl rfl))) (sgs_nil)))) (sb_one (ss_for [5, 6] PassesOwn.never rfl (si_enum (by rfl) T.z_enumerate (se_var (pv 1))) (sg_tup rfl (sgs_cons (sg_nm (pg_name (i := 5) sc_least_row.nd rfl (.inl rfl))) (sgs_cons (sg_nm (pg_name (i := 6) sc_least_row.nd rfl (.inl rfl))) (sgs_nil)))) (sb_one (ss_setI (ps_asg (se_call (pe_call (ok_plus_fractions T) (hr.mono (by decide)) (by rfl) T.g_plus_fractions T.F_plus_fractions.kp T.b_plus_fractions .nil pass0 (sa_cons (se_idx (se_var (pv 2)) (se_app (pe_callB (call_min2 rfl) (by rfl) T.z_min (by decide +kernel) (sa_cons (se_var (pv 3)) (sa_cons (se_var (pv 5)) (sa_nil)))) v_min2)) (sa_cons (se_call (pe_call (ok_times_fractions T) (hr.mono (by decide)) (by rfl) T.g_times_fractions T.F_times_fractions.kp T.b_times_fractions .nil pass0 (sa_cons (se_var (pv 4)) (sa_cons (se_var (pv 6)) (sa_nil)))) (fun _ _ => .nil)) (sa_nil)))) (fun _ _ => .nil)) (pg_sub (se_var (pv 2)) (se_app (pe_callB (call_min2 rfl) (by rfl) T.z_min (by decide +kernel) (sa_cons (se_var (pv 3)) (sa_cons (se_var (pv 5)) (sa_nil)))) v_min2) set_list))))))) (sb_one (ss_ret (se_app (pe_callTy call_tuple_of (by rfl) T.z_tuple (by decide +kernel) (sa_cons (se_var (pv 2)) (sa_nil))) v_tuple)))))
theorem sc_number_chances : FnScope ["term", "rows", "told", "kind", "numbers", "things", "row", "number"] ["term", "rows"] (defScope s_number_chances) := ⟨rfl, rfl, rfl, by decide +kernel, rfl, by decide +kernel, by decide +kernel⟩
theorem ok_number_chances (T : Txt a K mg) : FnOk P w K mg base CX0 5 a.f_number_chances a.d_number_chances ["term", "rows"] (SpD ⟨K, mg⟩ Cm.F_number_chances) := fn_den (N := ["term", "rows", "told", "kind", "numbers", "things", "row", "number"]) (ps := ["term", "rows"]) (fb := Cm.B_number_chances) T.F_number_chances sc_number_chances fun cdv A outer s H E hr =>
  (sb_cons (ss_set (ps_set (i := 2) sc_number_chances.nd rfl (.inl rfl) (sn_lst (sa_nil)))) (sb_cons (ss_for [3, 4, 5, 6, 7] PassesOwn.never rfl (si_seq (se_call (pe_call (ok_term_rows T) (hr.mono (by decide)) (by rfl) T.g_term_rows T.F_term_rows.kp T.b_term_rows .nil pass0 (sa_cons (se_var (pv 0)) (sa_nil))) (fun _ _ => .nil))) (sg_tup rfl (sgs_cons (sg_nm (pg_name (i := 3) sc_number_chances.nd rfl (.inl rfl))) (sgs_cons (sg_nm (pg_name (i := 4) sc_number_chances.nd rfl (.inl rfl))) (sgs_cons (sg_nm (pg_name (i := 5) sc_number_chances.nd rfl (.inl rfl))) (sgs_nil))))) (sb_cons (ss_set (ps_set (i := 6) sc_number_chances.nd rfl (.inl rfl) (se_ifE (sx_cmp op_isA v_is (se_var (pv 3)) (se_non) (by rfl)) (se_idx (se_var (pv 1)) (se_idx (se_var (pv 5)) (se_int))) (se_idx (se_var (pv 2)) (se_idx (se_var (pv 4)) (se_int)))))) (sb_cons (ss_for [7] PassesOwn.never rfl (si_seq (se_slice (se_var (pv 4)) (so_some (se_int)) (so_none))) (sg_nm (pg_name (i := 7) sc_number_chances.nd rfl (.inl rfl))) (sb_one (ss_set (ps_set (i := 6) sc_number_chances.nd rfl (.inl rfl) (se_ifE (sx_cmp (op_eqDn (hu64 hr)) v_eq (se_var (pv 3)) (se_glob (by rfl) T.m_ROW T.v_ROW T.r_ROW) (by rfl)) (se_call (pe_call (ok_least_row T) (hr.mono (by decide)) (by rfl) T.g_least_row T.F_least_row.kp T.b_least_row .nil pass0 (sa_cons (se_var (pv 6)) (sa_cons (se_idx (se_var (pv 2)) (se_var (pv 7))) (sa_nil)))) (fun _ _ => .nil)) (se_call (pe_call (ok_summed_row T) (hr.mono (by decide)) (by rfl) T.g_summed_row T.F_summed_row.kp T.b_summed_row .nil pass0 (sa_cons (se_var (pv 6)) (sa_cons (se_idx (se_var (pv 2)) (se_var (pv 7))) (sa_nil)))) (fun _ _ => .nil))))))) (sb_one (ss_expr (se_mtL (pe_bm PySem.F.plainAttrs_list PySem.F.slot_list_append PySem.F.type_list_append mt_append (se_var (pv 2)) (sa_cons (se_call (pe_call (ok_trimmed_row T) (hr.mono (by decide)) (by rfl) T.g_trimmed_row T.F_trimmed_row.kp T.b_trimmed_row .nil pass0 (sa_cons (se_var (pv 6)) (sa_nil))) (fun _ _ => .nil)) (sa_nil))) v_append)))))) (sb_one (ss_ret (se_idx (se_var (pv 2)) (se_un un_neg v_neg (se_int)))))))
theorem sc__law_box : FnScope ["script", "k", "cell", "great"] ["script", "k"] (defScope s__law_box) := ⟨rfl, rfl, rfl, by decide +kernel, rfl, by decide +kernel, by decide +kernel⟩
theorem ok__law_box (T : Txt a K mg) : FnOk P w K mg base CX0 1 a.f__law_box a.d__law_box ["script", "k"] (SpD ⟨K, mg⟩ Cm.F__law_box) := fn_denR (N := ["script", "k", "cell", "great"]) (ps := ["script", "k"]) (fb := Cm.B__law_box) T.F__law_box sc__law_box fun cdv A outer s H E hr =>
  (sb_cons (ss_set (ps_set (i := 2) sc__law_box.nd rfl (.inl rfl) (se_bin op_add3 v_add (se_bin op_mul3 v_mul (se_int) (se_var (pv 1))) (se_int)))) (sb_cons (ss_if (sx_cmp (op_ltA (hu0 hr)) v_lt (se_var (pv 1)) (se_app (pe_callB call_lenA (by rfl) T.z_len (by decide +kernel) (sa_cons (se_var (pv 0)) (sa_nil))) v_len) (by rfl)) (sb_one (ss_set (ps_set (i := 2) sc__law_box.nd rfl (.inl rfl) (se_app (pe_callB call_abs (by rfl) T.z_abs (by decide +kernel) (sa_cons (se_app (pe_callTy call_int1 (by rfl) T.z_int (by decide +kernel) (sa_cons (se_idx (se_var (pv 0)) (se_var (pv 1))) (sa_nil))) v_int) (sa_nil))) v_abs)))) (sb_one (ss_if (sx_cmp op_gt v_gt (se_app (pe_callB call_lenA (by rfl) T.z_len (by decide +kernel) (sa_cons (se_var (pv 0)) (sa_nil))) v_len) (se_int) (by rfl)) (sb_one (ss_set (ps_set (i := 2) sc__law_box.nd rfl (.inl rfl) (se_bin op_add3 v_add (se_var (pv 2)) (se_bin op_mul3 v_mul (se_bin op_mod v_mod (se_app (pe_callTy call_int1 (by rfl) T.z_int (by decide +kernel) (sa_cons (se_app (pe_callB call_abs (by rfl) T.z_abs (by decide +kernel) (sa_cons (se_app (pe_callTy call_int1 (by rfl) T.z_int (by decide +kernel) (sa_cons (se_idx (se_var (pv 0)) (se_bin op_mod v_mod (se_app (pe_callTy call_int1 (by rfl) T.z_int (by decide +kernel) (sa_cons (se_var (pv 1)) (sa_nil))) v_int) (se_app (pe_callB call_lenA (by rfl) T.z_len (by decide +kernel) (sa_cons (se_var (pv 0)) (sa_nil))) v_len))) (sa_nil))) v_int) (sa_nil))) v_abs) (sa_nil))) v_int) (se_int)) (se_int)))))) (sb_nil)))) (sb_cons (ss_set (ps_set (i := 3) sc__law_box.nd rfl (.inl rfl) (se_ifE (sx_cmp op_ge v_ge (se_var (pv 2)) (se_bin op_pow v_pow (se_int) (se_int)) (by rfl)) (se_var (pv 2)) (se_int)))) (sb_one (ss_ret (sn_lst (sa_cons (se_var (pv 3)) (sa_cons (se_bin op_add3 v_add (se_bin op_mod v_mod (se_app (pe_callTy call_int1 (by rfl) T.z_int (by decide +kernel) (sa_cons (se_bin op_add3 v_add (se_bin op_mul3 v_mul (se_bin op_mod v_mod (se_app (pe_callTy call_int1 (by rfl) T.z_int (by decide +kernel) (sa_cons (se_var (pv 2)) (sa_nil))) v_int) (se_int)) (se_int)) (se_bin op_mul3 v_mul (se_int) (se_var (pv 1)))) (sa_nil))) v_int) (se_int)) (se_int)) (sa_nil)))))))))
theorem sc__law_take : FnScope ["box", "many", "digit", "raw"] ["box", "many"] (defScope s__law_take) := ⟨rfl, rfl, rfl, by decide +kernel, rfl, by decide +kernel, by decide +kernel⟩
theorem ok__law_take (T : Txt a K mg) : FnOk P w K mg base CX0 1 a.f__law_take a.d__law_take ["box", "many"] (SpD ⟨K, mg⟩ Cm.F__law_take) := fn_den (N := ["box", "many", "digit", "raw"]) (ps := ["box", "many"]) (fb := Cm.B__law_take) T.F__law_take sc__law_take fun cdv A outer s H E hr =>
  (sb_cons (ss_if (sx_cmp op_gt v_gt (se_idx (se_var (pv 0)) (se_int)) (se_int) (by rfl)) (sb_cons (ss_set (ps_set (i := 2) sc__law_take.nd rfl (.inl rfl) (se_bin op_mod v_mod (se_app (pe_callTy call_int1 (by rfl) T.z_int (by decide +kernel) (sa_cons (se_idx (se_var (pv 0)) (se_int)) (sa_nil))) v_int) (se_var (pv 1))))) (sb_cons (ss_setI (ps_asg (se_bin op_fdivW v_div (se_idx (se_var (pv 0)) (se_int)) (se_var (pv 1))) (pg_sub (se_var (pv 0)) (se_int) set_list))) (sb_one (ss_ret (se_var (pv 2)))))) (sb_nil)) (sb_cons (ss_set (ps_set (i := 3) sc__law_take.nd rfl (.inl rfl) (se_bin op_mod v_mod (se_app (pe_callTy call_int1 (by rfl) T.z_int (by decide +kernel) (sa_cons (se_bin op_add3 v_add (se_bin op_mul3 v_mul (se_idx (se_var (pv 0)) (se_int)) (se_int)) (se_int)) (sa_nil))) v_int) (se_int)))) (sb_cons (ss_setI (ps_asg (se_bin op_add3 v_add (se_bin op_mod v_mod (se_app (pe_callTy call_int1 (by rfl) T.z_int (by decide +kernel) (sa_cons (se_bin op_add3 v_add (se_bin op_mul3 v_mul (se_var (pv 3)) (se_int)) (se_int)) (sa_nil))) v_int) (se_int)) (se_int)) (pg_sub (se_var (pv 0)) (se_int) set_list))) (sb_one (ss_ret (se_bin op_mod v_mod (se_app (pe_callTy call_int1 (by rfl) T.z_int (by decide +kernel) (sa_cons (se_bin op_fdivW v_div (se_bin op_add3 v_add (se_bin op_mul3 v_mul (se_var (pv 3)) (se_int)) (se_idx (se_var (pv 0)) (se_int))) (se_int)) (sa_nil))) v_int) (se_var (pv 1))))))))
theorem sc__law_pick : FnScope ["box", "some"] ["box", "some"] (defScope s__law_pick) := ⟨rfl, rfl, rfl, by decide +kernel, rfl, by decide +kernel, by decide +kernel⟩
theorem ok__law_pick (T : Txt a K mg) : FnOk P w K mg base CX0 2 a.f__law_pick a.d__law_pick ["box", "some"] (SpD ⟨K, mg⟩ Cm.F__law_pick) := fn_den (N := ["box", "some"]) (ps := ["box", "some"]) (fb := Cm.B__law_pick) T.F__law_pick sc__law_pick fun cdv A outer s H E hr =>
  (sb_one (ss_ret (se_idx (se_var (pv 1)) (se_call (pe_call (ok__law_take T) (hr.mono (by decide)) (by rfl) T.g__law_take T.F__law_take.kp T.b__law_take .nil pass0 (sa_cons (se_var (pv 0)) (sa_cons (se_app (pe_callB call_lenA (by rfl) T.z_len (by decide +kernel) (sa_cons (se_var (pv 1)) (sa_nil))) v_len) (sa_nil)))) (fun _ _ => .nil)))))
theorem sc__law_same : FnScope ["told", "due", "one", "other"] ["told", "due"] (defScope s__law_same) := ⟨rfl, rfl, rfl, by decide +kernel, rfl, by decide +kernel, by decide +kernel⟩
theorem ok__law_same : ∀ n, Txt a K mg → FnOk P w K mg base CX0 (1 + n) a.f__law_same a.d__law_same ["told", "due"] (SpD ⟨K, mg⟩ (Cm.F__law_same n))
  | 0, T => fn_bad T.F__law_same sc__law_same
  | n + 1, T => fn_den (N := ["told", "due", "one", "other"]) (ps := ["told", "due"]) (fb := Cm.B__law_same n) T.F__law_same sc__law_same fun cdv A outer s H E hr =>
    (sb_cons (ss_if (sx_val (se_isi (by rfl) T.z_isinstance (by rfl) T.z_tuple (by decide +kernel) (by decide) (se_var (pv 1)))) (sb_cons (ss_if (sx_w (sw_or (sx_not (sx_val (se_isi (by rfl) T.z_isinstance (by rfl) T.z_tuple (by decide +kernel) (by decide) (se_var (pv 0))))) (sw_or1 (sx_cmp (op_neDn (hu64 hr)) v_eq (se_app (pe_callB call_lenA (by rfl) T.z_len (by decide +kernel) (sa_cons (se_var (pv 0)) (sa_nil))) v_len) (se_app (pe_callB call_lenA (by rfl) T.z_len (by decide +kernel) (sa_cons (se_var (pv 1)) (sa_nil))) v_len) (by rfl))))) (sb_one (ss_ret (se_bl))) (sb_nil)) (sb_cons (ss_for [2, 3] PassesOwn.never rfl (si_zip (by rfl) T.z_zip (se_var (pv 0)) (se_var (pv 1))) (sg_tup rfl (sgs_cons (sg_nm (pg_name (i := 2) sc__law_same.nd rfl (.inl rfl))) (sgs_cons (sg_nm (pg_name (i := 3) sc__law_same.nd rfl (.inl rfl))) (sgs_nil)))) (sb_one (ss_if (sx_not (sx_val (se_call (pe_call (ok__law_same n T) (hr.mono (Nat.le_refl _)) (by rfl) T.g__law_same T.F__law_same.kp T.b__law_same .nil pass0 (sa_cons (se_var (pv 2)) (sa_cons (se_var (pv 3)) (sa_nil)))) (fun _ _ => .nil)))) (sb_one (ss_ret (se_bl))) (sb_nil)))) (sb_one (ss_ret (se_bl))))) (sb_nil)) (sb_cons (ss_if (sx_cmp op_isA v_is (se_var (pv 1)) (se_non) (by rfl)) (sb_one (ss_ret (se_cmp op_isA v_is (se_var (pv 0)) (se_non) (by rfl)))) (sb_nil)) (sb_cons (ss_if (sx_w (sw_or (sx_cmp op_isA v_is (se_var (pv 1)) (se_bl) (by rfl)) (sw_or1 (sx_cmp op_isA v_is (se_var (pv 1)) (se_bl) (by rfl))))) (sb_one (ss_ret (se_and (se_isi (by rfl) T.z_isinstance (by rfl) T.z_bool (by decide +kernel) (by decide) (se_var (pv 0))) (se_one (se_cmp (op_eqDn (hu64 hr)) v_eq (se_var (pv 0)) (se_var (pv 1)) (by rfl)))))) (sb_nil)) (sb_cons (ss_if (sx_val (se_isi (by rfl) T.z_isinstance (by rfl) T.z_str (by decide +kernel) (by decide) (se_var (pv 1)))) (sb_one (ss_ret (se_and (se_isi (by rfl) T.z_isinstance (by rfl) T.z_str (by decide +kernel) (by decide) (se_var (pv 0))) (se_one (se_cmp (op_eqDn (hu64 hr)) v_eq (se_var (pv 0)) (se_var (pv 1)) (by rfl)))))) (sb_nil)) (sb_one (ss_ret (se_and (se_isi (by rfl) T.z_isinstance (by rfl) T.z_int (by decide +kernel) (by decide) (se_var (pv 0))) (se_and (se_not (se_isi (by rfl) T.z_isinstance (by rfl) T.z_bool (by decide +kernel) (by decide) (se_var (pv 0)))) (se_one (se_cmp (op_eqDn (hu64 hr)) v_eq (se_var (pv 0)) (se_var (pv 1)) (by rfl)))))))))))
theorem sc__law_order : FnScope ["box", "some", "order", "one"] ["box", "some"] (defScope s__law_order) := ⟨rfl, rfl, rfl, by decide +kernel, rfl, by decide +kernel, by decide +kernel⟩
theorem ok__law_order (T : Txt a K mg) : FnOk P w K mg base CX0 2 a.f__law_order a.d__law_order ["box", "some"] (SpD ⟨K, mg⟩ Cm.F__law_order) := fn_den (N := ["box", "some", "order", "one"]) (ps := ["box", "some"]) (fb := Cm.B__law_order) T.F__law_order sc__law_order fun cdv A outer s H E hr =>
  (sb_cons (ss_set (ps_set (i := 2) sc__law_order.nd rfl (.inl rfl) (sn_lst (sa_nil)))) (sb_cons (ss_for [3] PassesOwn.never rfl (si_seq (se_var (pv 1))) (sg_nm (pg_name (i := 3) sc__law_order.nd rfl (.inl rfl))) (sb_one (ss_expr (se_mtL (pe_bm PySem.F.plainAttrs_list PySem.F.slot_list_insert PySem.F.type_list_insert mt_insertA (se_var (pv 2)) (sa_cons (se_call (pe_call (ok__law_take T) (hr.mono (by decide)) (by rfl) T.g__law_take T.F__law_take.kp T.b__law_take .nil pass0 (sa_cons (se_var (pv 0)) (sa_cons (se_bin op_add3 v_add (se_app (pe_callB call_lenA (by rfl) T.z_len (by decide +kernel) (sa_cons (se_var (pv 2)) (sa_nil))) v_len) (se_int)) (sa_nil)))) (fun _ _ => .nil)) (sa_cons (se_var (pv 3)) (sa_nil)))) v_insert)))) (sb_one (ss_ret (se_var (pv 2))))))
theorem sc__law_joined : FnScope ["one", "two", "thing"] ["one", "two"] (defScope s__law_joined) := ⟨rfl, rfl, rfl, by decide +kernel, rfl, by decide +kernel, by decide +kernel⟩
theorem ok__law_joined (T : Txt a K mg) : FnOk P w K mg base CX0 1 a.f__law_joined a.d__law_joined ["one", "two"] (SpD ⟨K, mg⟩ Cm.F__law_joined) := fn_den (N := ["one", "two", "thing"]) (ps := ["one", "two"]) (fb := Cm.B__law_joined) T.F__law_joined sc__law_joined fun cdv A outer s H E hr =>
  (sb_one (ss_ret (se_app (pe_callTy call_tuple_of (by rfl) T.z_tuple (by decide +kernel) (sa_cons (se_app (pe_callB (call_sortA rfl) (by rfl) T.z_sorted (by decide +kernel) (sa_cons (se_bin op_add3 v_add (se_app (pe_callTy call_list_of (by rfl) T.z_list (by decide +kernel) (sa_cons (se_var (pv 0)) (sa_nil))) v_list) (se_dlc (own := [("thing", 2)]) (pe_lc (own := [("thing", 2)]) rfl sc__law_joined.nd (si_seq (se_var (pv 1))) (blkOk_by (N := ["one", "two", "thing"]) (sc := (defScope s__law_joined)) (by decide +kernel)) (fun _ _ _ _ _ => sg_nm (pg_name (i := 2) sc__law_joined.nd rfl (.inl rfl))) (fun _ _ _ _ _ => sts_one (sx_cmp (op_notInA (hu65 hr)) v_in (se_var (pv 2)) (se_var (pv 0)) (by rfl))) (fun _ _ _ _ _ => se_var (pv 2))) (by simp [Tgt.slots, slotsL]))) (sa_nil))) v_sortA) (sa_nil))) v_tuple)))
theorem sc__law_row : FnScope ["box", "parts", "ways", "term", "some", "more", "way", "other"] ["box", "parts"] (defScope s__law_row) := ⟨rfl, rfl, rfl, by decide +kernel, rfl, by decide +kernel, by decide +kernel⟩
theorem ok__law_row (T : Txt a K mg) : FnOk P w K mg base CX0 3 a.f__law_row a.d__law_row ["box", "parts"] (SpD ⟨K, mg⟩ Cm.F__law_row) := fn_den (N := ["box", "parts", "ways", "term", "some", "more", "way", "other"]) (ps := ["box", "parts"]) (fb := Cm.B__law_row) T.F__law_row sc__law_row fun cdv A outer s H E hr =>
  (sb_cons (ss_set (ps_set (i := 2) sc__law_row.nd rfl (.inl rfl) (se_lst (sa_cons (se_tup (sa_nil)) (sa_nil))))) (sb_cons (ss_for [3, 4, 5, 6, 7] PassesOwn.never rfl (si_seq (se_var (pv 1))) (sg_tup rfl (sgs_cons (sg_nm (pg_name (i := 3) sc__law_row.nd rfl (.inl rfl))) (sgs_cons (sg_nm (pg_name (i := 4) sc__law_row.nd rfl (.inl rfl))) (sgs_nil)))) (sb_cons (ss_set (ps_set (i := 5) sc__law_row.nd rfl (.inl rfl) (sn_lst (sa_nil)))) (sb_cons (ss_for [6, 7] PassesOwn.never rfl (si_seq (se_var (pv 2))) (sg_nm (pg_name (i := 6) sc__law_row.nd rfl (.inl rfl))) (sb_one (ss_for [7] PassesOwn.never rfl (si_seq (se_var (pv 4))) (sg_nm (pg_name (i := 7) sc__law_row.nd rfl (.inl rfl))) (sb_one (ss_expr (se_mtL (pe_bm PySem.F.plainAttrs_list PySem.F.slot_list_append PySem.F.type_list_append mt_append (se_var (pv 5)) (sa_cons (se_call (pe_call (ok__law_joined T) (hr.mono (by decide)) (by rfl) T.g__law_joined T.F__law_joined.kp T.b__law_joined .nil pass0 (sa_cons (se_var (pv 6)) (sa_cons (se_var (pv 7)) (sa_nil)))) (fun _ _ => .nil)) (sa_nil))) v_append)))))) (sb_one (ss_set (ps_set (i := 2) sc__law_row.nd rfl (.inl rfl) (se_var (pv 5)))))))) (sb_one (ss_ret (se_tup (sa_cons (se_tup (sa_cons (se_str) (sa_cons (se_app (pe_callTy call_tuple_of (by rfl) T.z_tuple (by decide +kernel) (sa_cons (se_call (pe_call (ok__law_order T) (hr.mono (by decide)) (by rfl) T.g__law_order T.F__law_order.kp T.b__law_order .nil pass0 (sa_cons (se_var (pv 0)) (sa_cons (se_dlc (own := [("term", 3), ("some", 4)]) (pe_lc (own := [("term", 3), ("some", 4)]) rfl sc__law_row.nd (si_seq (se_var (pv 1))) (blkOk_by (N := ["box", "parts", "ways", "term", "some", "more", "way", "other"]) (sc := (defScope s__law_row)) (by decide +kernel)) (fun _ _ _ _ _ => sg_tup rfl (sgs_cons (sg_nm (pg_name (i := 3) sc__law_row.nd rfl (.inl rfl))) (sgs_cons (sg_nm (pg_name (i := 4) sc__law_row.nd rfl (.inl rfl))) (sgs_nil)))) (fun _ _ _ _ _ => sts_nil) (fun _ _ _ _ _ => se_var (pv 3))) (by simp [Tgt.slots, slotsL])) (sa_nil)))) (fun _ _ => .nil)) (sa_nil))) v_tuple) (sa_nil)))) (sa_cons (se_var (pv 2)) (sa_nil))))))))
theorem sc__law_side : FnScope ["box", "parts", "ways", "term", "some"] ["box", "parts"] (defScope s__law_side) := ⟨rfl, rfl, rfl, by decide +kernel, rfl, by decide +kernel, by decide +kernel⟩
theorem ok__law_side (T : Txt a K mg) : FnOk P w K mg base CX0 3 a.f__law_side a.d__law_side ["box", "parts"] (SpD ⟨K, mg⟩ Cm.F__law_side) := fn_den (N := ["box", "parts", "ways", "term", "some"]) (ps := ["box", "parts"]) (fb := Cm.B__law_side) T.F__law_side sc__law_side fun cdv A outer s H E hr =>
  (sb_cons (ss_set (ps_set (i := 2) sc__law_side.nd rfl (.inl rfl) (se_lst (sa_nil)))) (sb_cons (ss_for [3, 4] PassesOwn.never rfl (si_seq (se_var (pv 1))) (sg_tup rfl (sgs_cons (sg_nm (pg_name (i := 3) sc__law_side.nd rfl (.inl rfl))) (sgs_cons (sg_nm (pg_name (i := 4) sc__law_side.nd rfl (.inl rfl))) (sgs_nil)))) (sb_one (ss_set (ps_set (i := 2) sc__law_side.nd rfl (.inl rfl) (se_bin op_add3 v_add (se_var (pv 2)) (se_var (pv 4))))))) (sb_one (ss_ret (se_tup (sa_cons (se_tup (sa_cons (se_str) (sa_cons (se_app (pe_callTy call_tuple_of (by rfl) T.z_tuple (by decide +kernel) (sa_cons (se_call (pe_call (ok__law_order T) (hr.mono (by decide)) (by rfl) T.g__law_order T.F__law_order.kp T.b__law_order .nil pass0 (sa_cons (se_var (pv 0)) (sa_cons (se_dlc (own := [("term", 3), ("some", 4)]) (pe_lc (own := [("term", 3), ("some", 4)]) rfl sc__law_side.nd (si_seq (se_var (pv 1))) (blkOk_by (N := ["box", "parts", "ways", "term", "some"]) (sc := (defScope s__law_side)) (by decide +kernel)) (fun _ _ _ _ _ => sg_tup rfl (sgs_cons (sg_nm (pg_name (i := 3) sc__law_side.nd rfl (.inl rfl))) (sgs_cons (sg_nm (pg_name (i := 4) sc__law_side.nd rfl (.inl rfl))) (sgs_nil)))) (fun _ _ _ _ _ => sts_nil) (fun _ _ _ _ _ => se_var (pv 3))) (by simp [Tgt.slots, slotsL])) (sa_nil)))) (fun _ _ => .nil)) (sa_nil))) v_tuple) (sa_nil)))) (sa_cons (se_var (pv 2)) (sa_nil))))))))
theorem sc__law_things : FnScope ["names", "name"] ["names"] (defScope s__law_things) := ⟨rfl, rfl, rfl, by decide +kernel, rfl, by decide +kernel, by decide +kernel⟩
theorem ok__law_things (T : Txt a K mg) : FnOk P w K mg base CX0 1 a.f__law_things a.d__law_things ["names"] (SpD ⟨K, mg⟩ Cm.F__law_things) := fn_den (N := ["names", "name"]) (ps := ["names"]) (fb := Cm.B__law_things) T.F__law_things sc__law_things fun cdv A outer s H E hr =>
  (sb_one (ss_ret (se_dlc (own := [("name", 1)]) (pe_lc (own := [("name", 1)]) rfl sc__law_things.nd (si_seq (se_var (pv 0))) (blkOk_by (N := ["names", "name"]) (sc := (defScope s__law_things)) (by decide +kernel)) (fun _ _ _ _ _ => sg_nm (pg_name (i := 1) sc__law_things.nd rfl (.inl rfl))) (fun _ _ _ _ _ => sts_nil) (fun _ _ _ _ _ => se_tup (sa_cons (se_var (pv 1)) (sa_cons (se_lst (sa_cons (se_tup (sa_cons (se_var (pv 1)) (sa_nil))) (sa_nil))) (sa_nil))))) (by simp [Tgt.slots, slotsL]))))
theorem sc__law_once : FnScope ["box", "names", "most", "parts", "turn", "some", "many", "term", "ways", "made"] ["box", "names", "most"] (defScope s__law_once) := ⟨rfl, rfl, rfl, by decide +kernel, rfl, by decide +kernel, by decide +kernel⟩
theorem ok__law_once (T : Txt a K mg) : FnOk P w K mg base CX0 4 a.f__law_once a.d__law_once ["box", "names", "most"] (SpD ⟨K, mg⟩ Cm.F__law_once) := fn_den (N := ["box", "names", "most", "parts", "turn", "some", "many", "term", "ways", "made"]) (ps := ["box", "names", "most"]) (fb := Cm.B__law_once) T.F__law_once sc__law_once fun cdv A outer s H E hr =>
  (sb_cons (ss_set (ps_set (i := 3) sc__law_once.nd rfl (.inl rfl) (se_call (pe_call (ok__law_things T) (hr.mono (by decide)) (by rfl) T.g__law_things T.F__law_things.kp T.b__law_things .nil pass0 (sa_cons (se_var (pv 1)) (sa_nil))) (fun _ _ => .nil)))) (sb_cons (ss_for [4, 5, 6, 7, 8, 9] PassesOwn.never rfl (si_range1 (by rfl) T.z_range (se_int)) (sg_nm (pg_name (i := 4) sc__law_once.nd rfl (.inl rfl))) (sb_cons (ss_if (sx_cmp (op_eqDn (hu64 hr)) v_eq (se_app (pe_callB call_lenA (by rfl) T.z_len (by decide +kernel) (sa_cons (se_var (pv 3)) (sa_nil))) v_len) (se_int) (by rfl)) (sb_one (ss_brk)) (sb_nil)) (sb_cons (ss_set (ps_set (i := 3) sc__law_once.nd rfl (.inl rfl) (se_call (pe_call (ok__law_order T) (hr.mono (by decide)) (by rfl) T.g__law_order T.F__law_order.kp T.b__law_order .nil pass0 (sa_cons (se_var (pv 0)) (sa_cons (se_var (pv 3)) (sa_nil)))) (fun _ _ => .nil)))) (sb_cons (ss_set (ps_set (i := 5) sc__law_once.nd rfl (.inl rfl) (se_slice (se_var (pv 3)) (so_none) (so_some (se_app (pe_callB (call_min2 rfl) (by rfl) T.z_min (by decide +kernel) (sa_cons (se_app (pe_callB call_lenA (by rfl) T.z_len (by decide +kernel) (sa_cons (se_var (pv 3)) (sa_nil))) v_len) (sa_cons (se_bin op_add3 v_add (se_int) (se_call (pe_call (ok__law_take T) (hr.mono (by decide)) (by rfl) T.g__law_take T.F__law_take.kp T.b__law_take .nil pass0 (sa_cons (se_var (pv 0)) (sa_cons (se_int) (sa_nil)))) (fun _ _ => .nil))) (sa_nil)))) v_min2))))) (sb_cons (ss_set (ps_set (i := 6) sc__law_once.nd rfl (.inl rfl) (se_int))) (sb_cons (ss_for [7, 8] PassesOwn.never rfl (si_seq (se_var (pv 5))) (sg_tup rfl (sgs_cons (sg_nm (pg_name (i := 7) sc__law_once.nd rfl (.inl rfl))) (sgs_cons (sg_nm (pg_name (i := 8) sc__law_once.nd rfl (.inl rfl))) (sgs_nil)))) (sb_one (ss_set (ps_set (i := 6) sc__law_once.nd rfl (.inl rfl) (se_bin op_mul3 v_mul (se_var (pv 6)) (se_app (pe_callB call_lenA (by rfl) T.z_len (by decide +kernel) (sa_cons (se_var (pv 8)) (sa_nil))) v_len)))))) (sb_cons (ss_set (ps_set (i := 9) sc__law_once.nd rfl (.inl rfl) (se_ifE (sx_w (sw_and (sx_cmp (op_leA (hu0 hr)) v_le (se_var (pv 6)) (se_var (pv 2)) (by rfl)) (sw_and1 (sx_cmp (op_eqDn (hu64 hr)) v_eq (se_call (pe_call (ok__law_take T) (hr.mono (by decide)) (by rfl) T.g__law_take T.F__law_take.kp T.b__law_take .nil pass0 (sa_cons (se_var (pv 0)) (sa_cons (se_int) (sa_nil)))) (fun _ _ => .nil)) (se_int) (by rfl))))) (se_call (pe_call (ok__law_row T) (hr.mono (by decide)) (by rfl) T.g__law_row T.F__law_row.kp T.b__law_row .nil pass0 (sa_cons (se_var (pv 0)) (sa_cons (se_var (pv 5)) (sa_nil)))) (fun _ _ => .nil)) (se_call (pe_call (ok__law_side T) (hr.mono (by decide)) (by rfl) T.g__law_side T.F__law_side.kp T.b__law_side .nil pass0 (sa_cons (se_var (pv 0)) (sa_cons (se_var (pv 5)) (sa_nil)))) (fun _ _ => .nil))))) (sb_one (ss_set (ps_set (i := 3) sc__law_once.nd rfl (.inl rfl) (se_bin op_add3 v_add (se_slice (se_var (pv 3)) (so_some (se_app (pe_callB call_lenA (by rfl) T.z_len (by decide +kernel) (sa_cons (se_var (pv 5)) (sa_nil))) v_len)) (so_none)) (se_lst (sa_cons (se_var (pv 9)) (sa_nil)))))))))))))) (sb_one (ss_ret (se_idx (se_var (pv 3)) (se_int))))))
theorem sc__law_family : FnScope ["ways"] ["ways"] (defScope s__law_family) := ⟨rfl, rfl, rfl, by decide +kernel, rfl, by decide +kernel, by decide +kernel⟩
theorem ok__law_family (T : Txt a K mg) : FnOk P w K mg base CX0 1 a.f__law_family a.d__law_family ["ways"] (SpD ⟨K, mg⟩ Cm.F__law_family) := fn_den (N := ["ways"]) (ps := ["ways"]) (fb := Cm.B__law_family) T.F__law_family sc__law_family fun cdv A outer s H E hr =>
  (sb_one (ss_ret (se_app (pe_callTy call_tuple_of (by rfl) T.z_tuple (by decide +kernel) (sa_cons (se_app (pe_callB (call_sortA rfl) (by rfl) T.z_sorted (by decide +kernel) (sa_cons (se_var (pv 0)) (sa_nil))) v_sortA) (sa_nil))) v_tuple)))
theorem sc__law_many : FnScope ["family", "way"] ["family"] (defScope s__law_many) := ⟨rfl, rfl, rfl, by decide +kernel, rfl, by decide +kernel, by decide +kernel⟩
theorem ok__law_many (T : Txt a K mg) : FnOk P w K mg base CX0 1 a.f__law_many a.d__law_many ["family"] (SpD ⟨K, mg⟩ Cm.F__law_many) := fn_den (N := ["family", "way"]) (ps := ["family"]) (fb := Cm.B__law_many) T.F__law_many sc__law_many fun cdv A outer s H E hr =>
  (sb_one (ss_ret (se_bin op_add3 v_add (se_int) (se_app (pe_callB (call_maxA rfl) (by rfl) T.z_max (by decide +kernel) (sa_cons (se_dlc (own := [("way", 1)]) (pe_lc (own := [("way", 1)]) rfl sc__law_many.nd (si_seq (se_var (pv 0))) (blkOk_by (N := ["family", "way"]) (sc := (defScope s__law_many)) (by decide +kernel)) (fun _ _ _ _ _ => sg_nm (pg_name (i := 1) sc__law_many.nd rfl (.inl rfl))) (fun _ _ _ _ _ => sts_nil) (fun _ _ _ _ _ => se_app (pe_callB (call_maxA rfl) (by rfl) T.z_max (by decide +kernel) (sa_cons (se_var (pv 1)) (sa_nil))) v_maxA)) (by simp [Tgt.slots, slotsL])) (sa_nil))) v_maxA))))
theorem sc__law_lowest : FnScope ["number", "parts", "one", "two", "turn"] ["number", "parts"] (defScope s__law_lowest) := ⟨rfl, rfl, rfl, by decide +kernel, rfl, by decide +kernel, by decide +kernel⟩
theorem ok__law_lowest (T : Txt a K mg) : FnOk P w K mg base CX0 1 a.f__law_lowest a.d__law_lowest ["number", "parts"] (SpD ⟨K, mg⟩ Cm.F__law_lowest) := fn_den (N := ["number", "parts", "one", "two", "turn"]) (ps := ["number", "parts"]) (fb := Cm.B__law_lowest) T.F__law_lowest sc__law_lowest fun cdv A outer s H E hr =>
  (sb_cons (ss_par (ps_par (i := 2) (j := 3) rfl sc__law_lowest.nd rfl rfl (by decide) rfl rfl (sa_cons (se_app (pe_callB call_abs (by rfl) T.z_abs (by decide +kernel) (sa_cons (se_var (pv 0)) (sa_nil))) v_abs) (sa_cons (se_var (pv 1)) (sa_nil))) (by rfl))) (sb_cons (ss_for [4] PassesOwn.never rfl (si_range1 (by rfl) T.z_range (se_int)) (sg_nm (pg_name (i := 4) sc__law_lowest.nd rfl (.inl rfl))) (sb_cons (ss_if (sx_cmp (op_eqDn (hu64 hr)) v_eq (se_var (pv 3)) (se_int) (by rfl)) (sb_one (ss_brk)) (sb_nil)) (sb_one (ss_par (ps_par (i := 2) (j := 3) rfl sc__law_lowest.nd rfl rfl (by decide) rfl rfl (sa_cons (se_var (pv 3)) (sa_cons (se_bin op_mod v_mod (se_app (pe_callTy call_int1 (by rfl) T.z_int (by decide +kernel) (sa_cons (se_var (pv 2)) (sa_nil))) v_int) (se_var (pv 3))) (sa_nil))) (by rfl)))))) (sb_one (ss_ret (se_tup (sa_cons (se_bin op_fdivW v_div (se_var (pv 0)) (se_var (pv 2))) (sa_cons (se_bin op_fdivW v_div (se_var (pv 1)) (se_var (pv 2))) (sa_nil))))))))
theorem sc__law_split_row : FnScope ["box", "many", "parts", "cuts", "row", "low", "high", "turn"] ["box", "many"] (defScope s__law_split_row) := ⟨rfl, rfl, rfl, by decide +kernel, rfl, by decide +kernel, by decide +kernel⟩
theorem ok__law_split_row (T : Txt a K mg) : FnOk P w K mg base CX0 3 a.f__law_split_row a.d__law_split_row ["box", "many"] (SpD ⟨K, mg⟩ Cm.F__law_split_row) := fn_den (N := ["box", "many", "parts", "cuts", "row", "low", "high", "turn"]) (ps := ["box", "many"]) (fb := Cm.B__law_split_row) T.F__law_split_row sc__law_split_row fun cdv A outer s H E hr =>
  (sb_cons (ss_set (ps_set (i := 2) sc__law_split_row.nd rfl (.inr rfl) (se_call (pe_call (ok__law_pick T) (hr.mono (by decide)) (by rfl) T.g__law_pick T.F__law_pick.kp T.b__law_pick .nil pass0 (sa_cons (se_var (pv 0)) (sa_cons (se_lst (sa_cons (se_int) (sa_cons (se_int) (sa_cons (se_int) (sa_cons (se_int) (sa_nil)))))) (sa_nil)))) (fun _ _ => .nil)))) (sb_cons (ss_set (ps_set (i := 3) sc__law_split_row.nd rfl (.inl rfl) (se_app (pe_callB (call_sortA rfl) (by rfl) T.z_sorted (by decide +kernel) (sa_cons (se_dlc (own := [("turn", 7)]) (pe_lc (own := [("turn", 7)]) rfl sc__law_split_row.nd (si_range1 (by rfl) T.z_range (se_bin op_sub v_sub (se_var (pv 1)) (se_int))) (blkOk_by (N := ["box", "many", "parts", "cuts", "row", "low", "high", "turn"]) (sc := (defScope s__law_split_row)) (by decide +kernel)) (fun _ _ _ _ _ => sg_nm (pg_name (i := 7) sc__law_split_row.nd rfl (.inl rfl))) (fun _ _ _ _ _ => sts_nil) (fun _ _ _ _ _ => se_call (pe_call (ok__law_take T) (hr.mono (by decide)) (by rfl) T.g__law_take T.F__law_take.kp T.b__law_take .nil pass0 (sa_cons (se_var (pv 0)) (sa_cons (se_bin op_add3 v_add (se_var (pv 2)) (se_int)) (sa_nil)))) (fun _ _ => .nil))) (by simp [Tgt.slots, slotsL])) (sa_nil))) v_sortA))) (sb_cons (ss_set (ps_set (i := 4) sc__law_split_row.nd rfl (.inl rfl) (sn_lst (sa_nil)))) (sb_cons (ss_for [5, 6] PassesOwn.never rfl (si_zip (by rfl) T.z_zip (se_bin op_add3 v_add (se_lst (sa_cons (se_int) (sa_nil))) (se_var (pv 3))) (se_bin op_add3 v_add (se_var (pv 3)) (se_lst (sa_cons (se_var (pv 2)) (sa_nil))))) (sg_tup rfl (sgs_cons (sg_nm (pg_name (i := 5) sc__law_split_row.nd rfl (.inl rfl))) (sgs_cons (sg_nm (pg_name (i := 6) sc__law_split_row.nd rfl (.inl rfl))) (sgs_nil)))) (sb_one (ss_expr (se_mtL (pe_bm PySem.F.plainAttrs_list PySem.F.slot_list_append PySem.F.type_list_append mt_append (se_var (pv 4)) (sa_cons (se_call (pe_call (ok__law_lowest T) (hr.mono (by decide)) (by rfl) T.g__law_lowest T.F__law_lowest.kp T.b__law_lowest .nil pass0 (sa_cons (se_bin op_sub v_sub (se_var (pv 6)) (se_var (pv 5))) (sa_cons (se_var (pv 2)) (sa_nil)))) (fun _ _ => .nil)) (sa_nil))) v_append)))) (sb_one (ss_ret (se_app (pe_callTy call_tuple_of (by rfl) T.z_tuple (by decide +kernel) (sa_cons (se_var (pv 4)) (sa_nil))) v_tuple)))))))
theorem sc__law_sum : FnScope ["one", "two"] ["one", "two"] (defScope s__law_sum) := ⟨rfl, rfl, rfl, by decide +kernel, rfl, by decide +kernel, by decide +kernel⟩
theorem ok__law_sum (T : Txt a K mg) : FnOk P w K mg base CX0 2 a.f__law_sum a.d__law_sum ["one", "two"] (SpD ⟨K, mg⟩ Cm.F__law_sum) := fn_den (N := ["one", "two"]) (ps := ["one", "two"]) (fb := Cm.B__law_sum) T.F__law_sum sc__law_sum fun cdv A outer s H E hr =>
  (sb_one (ss_ret (se_call (pe_call (ok__law_lowest T) (hr.mono (by decide)) (by rfl) T.g__law_lowest T.F__law_lowest.kp T.b__law_lowest .nil pass0 (sa_cons (se_bin op_add3 v_add (se_bin op_mul3 v_mul (se_idx (se_var (pv 0)) (se_int)) (se_idx (se_var (pv 1)) (se_int))) (se_bin op_mul3 v_mul (se_idx (se_var (pv 1)) (se_int)) (se_idx (se_var (pv 0)) (se_int)))) (sa_cons (se_bin op_mul3 v_mul (se_idx (se_var (pv 0)) (se_int)) (se_idx (se_var (pv 1)) (se_int))) (sa_nil)))) (fun _ _ => .nil))))
theorem sc__law_times : FnScope ["one", "two"] ["one", "two"] (defScope s__law_times) := ⟨rfl, rfl, rfl, by decide +kernel, rfl, by decide +kernel, by decide +kernel⟩
theorem ok__law_times (T : Txt a K mg) : FnOk P w K mg base CX0 2 a.f__law_times a.d__law_times ["one", "two"] (SpD ⟨K, mg⟩ Cm.F__law_times) := fn_den (N := ["one", "two"]) (ps := ["one", "two"]) (fb := Cm.B__law_times) T.F__law_times sc__law_times fun cdv A outer s H E hr =>
  (sb_one (ss_ret (se_call (pe_call (ok__law_lowest T) (hr.mono (by decide)) (by rfl) T.g__law_lowest T.F__law_lowest.kp T.b__law_lowest .nil pass0 (sa_cons (se_bin op_mul3 v_mul (se_idx (se_var (pv 0)) (se_int)) (se_idx (se_var (pv 1)) (se_int))) (sa_cons (se_bin op_mul3 v_mul (se_idx (se_var (pv 0)) (se_int)) (se_idx (se_var (pv 1)) (se_int))) (sa_nil)))) (fun _ _ => .nil))))
theorem sc__law_draws : FnScope ["rows", "draws", "row", "more", "told", "share", "entry", "chance"] ["rows"] (defScope s__law_draws) := ⟨rfl, rfl, rfl, by decide +kernel, rfl, by decide +kernel, by decide +kernel⟩
theorem ok__law_draws (T : Txt a K mg) : FnOk P w K mg base CX0 3 a.f__law_draws a.d__law_draws ["rows"] (SpD ⟨K, mg⟩ Cm.F__law_draws) := fn_den (N := ["rows", "draws", "row", "more", "told", "share", "entry", "chance"]) (ps := ["rows"]) (fb := Cm.B__law_draws) T.F__law_draws sc__law_draws fun cdv A outer s H E hr =>
  (sb_cons (ss_set (ps_set (i := 1) sc__law_draws.nd rfl (.inl rfl) (se_lst (sa_cons (se_tup (sa_cons (se_tup (sa_nil)) (sa_cons (se_tup (sa_cons (se_int) (sa_cons (se_int) (sa_nil)))) (sa_nil)))) (sa_nil))))) (sb_cons (ss_for [2, 3, 4, 5] PassesOwn.never rfl (si_seq (se_var (pv 0))) (sg_nm (pg_name (i := 2) sc__law_draws.nd rfl (.inl rfl))) (sb_cons (ss_set (ps_set (i := 3) sc__law_draws.nd rfl (.inl rfl) (se_lst (sa_nil)))) (sb_cons (ss_for [4, 5] PassesOwn.never rfl (si_seq (se_var (pv 1))) (sg_tup rfl (sgs_cons (sg_nm (pg_name (i := 4) sc__law_draws.nd rfl (.inr rfl))) (sgs_cons (sg_nm (pg_name (i := 5) sc__law_draws.nd rfl (.inr rfl))) (sgs_nil)))) (sb_one (ss_set (ps_set (i := 3) sc__law_draws.nd rfl (.inl rfl) (se_bin op_add3 v_add (se_var (pv 3)) (se_dlc (own := [("entry", 6), ("chance", 7)]) (pe_lc (own := [("entry", 6), ("chance", 7)]) rfl sc__law_draws.nd (si_seq (se_var (pv 2))) (blkOk_by (N := ["rows", "draws", "row", "more", "told", "share", "entry", "chance"]) (sc := (defScope s__law_draws)) (by decide +kernel)) (fun _ _ _ _ _ => sg_tup rfl (sgs_cons (sg_nm (pg_name (i := 6) sc__law_draws.nd rfl (.inl rfl))) (sgs_cons (sg_nm (pg_name (i := 7) sc__law_draws.nd rfl (.inl rfl))) (sgs_nil)))) (fun _ _ _ _ _ => sts_nil) (fun _ _ _ _ _ => se_tup (sa_cons (se_bin op_add3 v_add (se_var (pv 4)) (se_tup (sa_cons (se_var (pv 6)) (sa_nil)))) (sa_cons (se_call (pe_call (ok__law_times T) (hr.mono (by decide)) (by rfl) T.g__law_times T.F__law_times.kp T.b__law_times .nil pass0 (sa_cons (se_var (pv 5)) (sa_cons (se_var (pv 7)) (sa_nil)))) (fun _ _ => .nil)) (sa_nil))))) (by simp [Tgt.slots, slotsL]))))))) (sb_one (ss_set (ps_set (i := 1) sc__law_draws.nd rfl (.inl rfl) (se_var (pv 3)))))))) (sb_one (ss_ret (se_var (pv 1))))))
theorem sc__law_paths : FnScope ["term", "line", "rows", "turn", "one"] ["term"] (defScope s__law_paths) := ⟨rfl, rfl, rfl, by decide +kernel, rfl, by decide +kernel, by decide +kernel⟩
theorem ok__law_paths (T : Txt a K mg) : FnOk P w K mg base CX0 1 a.f__law_paths a.d__law_paths ["term"] (SpD ⟨K, mg⟩ Cm.F__law_paths) := fn_den (N := ["term", "line", "rows", "turn", "one"]) (ps := ["term"]) (fb := Cm.B__law_paths) T.F__law_paths sc__law_paths fun cdv A outer s H E hr =>
  (sb_cons (ss_par (ps_par (i := 1) (j := 2) rfl sc__law_paths.nd rfl rfl (by decide) rfl rfl (sa_cons (se_lst (sa_cons (se_var (pv 0)) (sa_nil))) (sa_cons (sn_lst (sa_nil)) (sa_nil))) (by rfl))) (sb_cons (ss_for [3, 4] PassesOwn.never rfl (si_range1 (by rfl) T.z_range (se_int)) (sg_nm (pg_name (i := 3) sc__law_paths.nd rfl (.inl rfl))) (sb_cons (ss_if (sx_cmp (op_eqDn (hu64 hr)) v_eq (se_var (pv 3)) (se_app (pe_callB call_lenA (by rfl) T.z_len (by decide +kernel) (sa_cons (se_var (pv 1)) (sa_nil))) v_len) (by rfl)) (sb_one (ss_brk)) (sb_nil)) (sb_cons (ss_set (ps_set (i := 4) sc__law_paths.nd rfl (.inl rfl) (se_idx (se_var (pv 1)) (se_var (pv 3))))) (sb_one (ss_if (sx_val (se_isi (by rfl) T.z_isinstance (by rfl) T.z_int (by decide +kernel) (by decide) (se_var (pv 4)))) (sb_one (ss_expr (se_mtL (pe_bm PySem.F.plainAttrs_list PySem.F.slot_list_append PySem.F.type_list_append mt_append (se_var (pv 2)) (sa_cons (se_tup (sa_cons (se_non) (sa_cons (se_var (pv 4)) (sa_nil)))) (sa_nil))) v_append))) (sb_cons (ss_expr (se_mtL (pe_bm PySem.F.plainAttrs_list PySem.F.slot_list_append PySem.F.type_list_append mt_append (se_var (pv 2)) (sa_cons (se_tup (sa_cons (se_idx (se_var (pv 4)) (se_int)) (sa_cons (se_lrg2 rfl (by rfl) T.z_list (by rfl) T.z_range (se_app (pe_callB call_lenA (by rfl) T.z_len (by decide +kernel) (sa_cons (se_var (pv 1)) (sa_nil))) v_len) (se_bin op_add3 v_add (se_app (pe_callB call_lenA (by rfl) T.z_len (by decide +kernel) (sa_cons (se_var (pv 1)) (sa_nil))) v_len) (se_app (pe_callB call_lenA (by rfl) T.z_len (by decide +kernel) (sa_cons (se_idx (se_var (pv 4)) (se_int)) (sa_nil))) v_len))) (sa_nil)))) (sa_nil))) v_append)) (sb_one (ss_set (ps_set (i := 1) sc__law_paths.nd rfl (.inl rfl) (se_bin op_add3 v_add (se_var (pv 1)) (se_app (pe_callTy call_list_of (by rfl) T.z_list (by decide +kernel) (sa_cons (se_idx (se_var (pv 4)) (se_int)) (sa_nil))) v_list))))))))))) (sb_one (ss_ret (se_var (pv 2))))))
theorem sc__law_narrow : FnScope ["term", "widths", "rows", "told", "place", "kind", "parts", "some", "row", "part"] ["term", "widths"] (defScope s__law_narrow) := ⟨rfl, rfl, rfl, by decide +kernel, rfl, by decide +kernel, by decide +kernel⟩
theorem ok__law_narrow (T : Txt a K mg) : FnOk P w K mg base CX0 2 a.f__law_narrow a.d__law_narrow ["term", "widths"] (SpD ⟨K, mg⟩ Cm.F__law_narrow) := fn_den (N := ["term", "widths", "rows", "told", "place", "kind", "parts", "some", "row", "part"]) (ps := ["term", "widths"]) (fb := Cm.B__law_narrow) T.F__law_narrow sc__law_narrow fun cdv A outer s H E hr =>
  (sb_cons (ss_set (ps_set (i := 2) sc__law_narrow.nd rfl (.inl rfl) (se_call (pe_call (ok__law_paths T) (hr.mono (by decide)) (by rfl) T.g__law_paths T.F__law_paths.kp T.b__law_paths .nil pass0 (sa_cons (se_var (pv 0)) (sa_nil))) (fun _ _ => .nil)))) (sb_cons (ss_set (ps_set (i := 3) sc__law_narrow.nd rfl (.inr rfl) (se_nlc (own := [("row", 8)]) (pe_lc (own := [("row", 8)]) rfl sc__law_narrow.nd (si_seq (se_var (pv 2))) (blkOk_by (N := ["term", "widths", "rows", "told", "place", "kind", "parts", "some", "row", "part"]) (sc := (defScope s__law_narrow)) (by decide +kernel)) (fun _ _ _ _ _ => sg_nm (pg_name (i := 8) sc__law_narrow.nd rfl (.inl rfl))) (fun _ _ _ _ _ => sts_nil) (fun _ _ _ _ _ => se_int)) (by simp [Tgt.slots, slotsL])))) (sb_cons (ss_for [4, 5, 6, 7] PassesOwn.never rfl (si_rev (by rfl) T.z_reversed (se_lrg1 rfl (by rfl) T.z_list (by rfl) T.z_range (se_app (pe_callB call_lenA (by rfl) T.z_len (by decide +kernel) (sa_cons (se_var (pv 2)) (sa_nil))) v_len))) (sg_nm (pg_name (i := 4) sc__law_narrow.nd rfl (.inl rfl))) (sb_cons (ss_asg (se_idx (se_var (pv 2)) (se_var (pv 4))) (sg_tup rfl (sgs_cons (sg_nm (pg_name (i := 5) sc__law_narrow.nd rfl (.inl rfl))) (sgs_cons (sg_nm (pg_name (i := 6) sc__law_narrow.nd rfl (.inl rfl))) (sgs_nil))))) (sb_one (ss_if (sx_cmp op_isA v_is (se_var (pv 5)) (se_non) (by rfl)) (sb_one (ss_setI (ps_asg (se_idx (se_var (pv 1)) (se_var (pv 6))) (pg_sub (se_var (pv 3)) (se_var (pv 4)) set_list)))) (sb_cons (ss_setLcD (own := [("part", 9)]) (ps_setLc (own := [("part", 9)]) rfl sc__law_narrow.nd (i := 7) rfl rfl (sw_true rfl rfl rfl (by decide +kernel)) (si_seq (se_var (pv 6))) (blkOk_by (N := ["term", "widths", "rows", "told", "place", "kind", "parts", "some", "row", "part"]) (sc := (defScope s__law_narrow)) (by decide +kernel)) (fun _ _ _ _ _ => sg_nm (pg_name (i := 9) sc__law_narrow.nd rfl (.inl rfl))) (fun _ _ _ _ _ => sts_nil) (fun _ _ _ _ _ => se_idx (se_var (pv 3)) (se_var (pv 9)))) (by simp [Tgt.slots, slotsL])) (sb_one (ss_setI (ps_asg (se_ifE (sx_cmp (op_eqDn (hu64 hr)) v_eq (se_var (pv 5)) (se_str) (by rfl)) (se_app (pe_callB (call_minA rfl) (by rfl) T.z_min (by decide +kernel) (sa_cons (se_var (pv 7)) (sa_nil))) v_minA) (se_app (pe_callB (cr_sum rfl) (by rfl) T.z_sum (by decide +kernel) (sa_cons (se_var (pv 7)) (sa_nil))) v_sum)) (pg_sub (se_var (pv 3)) (se_var (pv 4)) set_list))))))))) (sb_one (ss_ret (se_idx (se_var (pv 3)) (se_int)))))))
theorem sc__law_due : FnScope ["term", "rows", "found", "widths", "share", "number", "most", "row"] ["term", "rows"] (defScope s__law_due) := ⟨rfl, rfl, rfl, by decide +kernel, rfl, by decide +kernel, by decide +kernel⟩
theorem ok__law_due (T : Txt a K mg) : FnOk P w K mg base CX0 4 a.f__law_due a.d__law_due ["term", "rows"] (SpD ⟨K, mg⟩ Cm.F__law_due) := fn_den (N := ["term", "rows", "found", "widths", "share", "number", "most", "row"]) (ps := ["term", "rows"]) (fb := Cm.B__law_due) T.F__law_due sc__law_due fun cdv A outer s H E hr =>
  (sb_cons (ss_set (ps_set (i := 2) sc__law_due.nd rfl (.inr rfl) (se_ndict))) (sb_cons (ss_for [3, 4, 5] PassesOwn.never rfl (si_seq (se_call (pe_call (ok__law_draws T) (hr.mono (by decide)) (by rfl) T.g__law_draws T.F__law_draws.kp T.b__law_draws .nil pass0 (sa_cons (se_dlc (own := [("row", 7)]) (pe_lc (own := [("row", 7)]) rfl sc__law_due.nd (si_seq (se_var (pv 1))) (blkOk_by (N := ["term", "rows", "found", "widths", "share", "number", "most", "row"]) (sc := (defScope s__law_due)) (by decide +kernel)) (fun _ _ _ _ _ => sg_nm (pg_name (i := 7) sc__law_due.nd rfl (.inl rfl))) (fun _ _ _ _ _ => sts_nil) (fun _ _ _ _ _ => se_lenum rfl (by rfl) T.z_list (by rfl) T.z_enumerate (se_var (pv 7)))) (by simp [Tgt.slots, slotsL])) (sa_nil))) (fun _ _ => .nil))) (sg_tup rfl (sgs_cons (sg_nm (pg_name (i := 3) sc__law_due.nd rfl (.inl rfl))) (sgs_cons (sg_nm (pg_name (i := 4) sc__law_due.nd rfl (.inl rfl))) (sgs_nil)))) (sb_cons (ss_set (ps_set (i := 5) sc__law_due.nd rfl (.inl rfl) (se_call (pe_call (ok__law_narrow T) (hr.mono (by decide)) (by rfl) T.g__law_narrow T.F__law_narrow.kp T.b__law_narrow .nil pass0 (sa_cons (se_var (pv 0)) (sa_cons (se_var (pv 3)) (sa_nil)))) (fun _ _ => .nil)))) (sb_one (ss_setD (hu1 hr) (se_var (pv 2)) (se_var (pv 5)) (se_call (pe_call (ok__law_sum T) (hr.mono (by decide)) (by rfl) T.g__law_sum T.F__law_sum.kp T.b__law_sum .nil pass0 (sa_cons (se_ifE (sx_din (hu1 hr) (se_var (pv 5)) (se_var (pv 2))) (se_dget (hu1 hr) (se_var (pv 2)) (se_var (pv 5))) (se_tup (sa_cons (se_int) (sa_cons (se_int) (sa_nil))))) (sa_cons (se_var (pv 4)) (sa_nil)))) (fun _ _ => .nil)))))) (sb_cons (ss_set (ps_set (i := 6) sc__law_due.nd rfl (.inl rfl) (se_app (pe_callB (call_maxA rfl) (by rfl) T.z_max (by decide +kernel) (sa_cons (se_lock (i := 2) (se_dlc (own := [("number", 5)]) (pe_lc (own := [("number", 5)]) rfl sc__law_due.nd (si_dictI (se_var (pv 2))) (blkOk_by (N := ["term", "rows", "found", "widths", "share", "number", "most", "row"]) (sc := (defScope s__law_due)) (by decide +kernel)) (fun _ _ _ _ _ => sg_nm (pg_name (i := 5) sc__law_due.nd rfl (.inl rfl))) (fun _ _ _ _ _ => sts_one (sx_cmp op_gt v_gt (se_idx (se_dget (hu1 hr) (se_var (pv 2)) (se_var (pv 5))) (se_int)) (se_int) (by rfl))) (fun _ _ _ _ _ => se_var (pv 5))) (by simp [Tgt.slots, slotsL]))) (sa_nil))) v_maxA))) (sb_one (ss_ret (se_app (pe_callTy call_tuple_of (by rfl) T.z_tuple (by decide +kernel) (sa_cons (se_dlc (own := [("number", 5)]) (pe_lc (own := [("number", 5)]) rfl sc__law_due.nd (si_range1 (by rfl) T.z_range (se_bin op_add3 v_add (se_var (pv 6)) (se_int))) (blkOk_by (N := ["term", "rows", "found", "widths", "share", "number", "most", "row"]) (sc := (defScope s__law_due)) (by decide +kernel)) (fun _ _ _ _ _ => sg_nm (pg_name (i := 5) sc__law_due.nd rfl (.inl rfl))) (fun _ _ _ _ _ => sts_nil) (fun _ _ _ _ _ => se_ifE (sx_din (hu1 hr) (se_var (pv 5)) (se_var (pv 2))) (se_dget (hu1 hr) (se_var (pv 2)) (se_var (pv 5))) (se_tup (sa_cons (se_int) (sa_cons (se_int) (sa_nil)))))) (by simp [Tgt.slots, slotsL])) (sa_nil))) v_tuple))))))
theorem sc_law : FnScope ["script", "k", "box", "term", "ways", "high", "rows", "thing"] ["script"] (defScope s_law) := ⟨rfl, rfl, rfl, by decide +kernel, rfl, by decide +kernel, by decide +kernel⟩
theorem ok_law (T : Txt a K mg) : FnOk P w K mg base CX0 10 a.f_law a.d_law ["script"] (SpD ⟨K, mg⟩ Cm.F_law) := fn_den (N := ["script", "k", "box", "term", "ways", "high", "rows", "thing"]) (ps := ["script"]) (fb := Cm.B_law) T.F_law sc_law fun cdv A outer s H E hr =>
  (sb_cons (ss_for [1, 2, 3, 4, 5, 6] PassesOwn.never rfl (si_range1 (by rfl) T.z_range (se_int)) (sg_nm (pg_name (i := 1) sc_law.nd rfl (.inl rfl))) (sb_cons (ss_set (ps_set (i := 2) sc_law.nd rfl (.inr rfl) (se_call (pe_call (ok__law_box T) (hr.mono (by decide)) (by rfl) T.g__law_box T.F__law_box.kp T.b__law_box .nil pass0 (sa_cons (se_var (pv 0)) (sa_cons (se_var (pv 1)) (sa_nil)))) (fun _ _ => .nil)))) (sb_cons (ss_asg (se_call (pe_call (ok__law_once T) (hr.mono (by decide)) (by rfl) T.g__law_once T.F__law_once.kp T.b__law_once .nil pass0 (sa_cons (se_var (pv 2)) (sa_cons (se_lrg1 rfl (by rfl) T.z_list (by rfl) T.z_range (se_bin op_add3 v_add (se_int) (se_call (pe_call (ok__law_take T) (hr.mono (by decide)) (by rfl) T.g__law_take T.F__law_take.kp T.b__law_take .nil pass0 (sa_cons (se_var (pv 2)) (sa_cons (se_int) (sa_nil)))) (fun _ _ => .nil)))) (sa_cons (se_int) (sa_nil))))) (fun _ _ => .nil)) (sg_tup rfl (sgs_cons (sg_nm (pg_name (i := 3) sc_law.nd rfl (.inl rfl))) (sgs_cons (sg_nm (pg_name (i := 4) sc_law.nd rfl (.inl rfl))) (sgs_nil))))) (sb_cons (ss_set (ps_set (i := 5) sc_law.nd rfl (.inr rfl) (se_ifE (sx_cmp (op_ltA (hu0 hr)) v_lt (se_call (pe_call (ok__law_many T) (hr.mono (by decide)) (by rfl) T.g__law_many T.F__law_many.kp T.b__law_many .nil pass0 (sa_cons (se_call (pe_call (ok__law_family T) (hr.mono (by decide)) (by rfl) T.g__law_family T.F__law_family.kp T.b__law_family .nil pass0 (sa_cons (se_var (pv 4)) (sa_nil))) (fun _ _ => .nil)) (sa_nil))) (fun _ _ => .nil)) (se_int) (by rfl)) (se_call (pe_call (ok__law_pick T) (hr.mono (by decide)) (by rfl) T.g__law_pick T.F__law_pick.kp T.b__law_pick .nil pass0 (sa_cons (se_var (pv 2)) (sa_cons (se_lst (sa_cons (se_int) (sa_cons (se_int) (sa_cons (se_int) (sa_nil))))) (sa_nil)))) (fun _ _ => .nil)) (se_int)))) (sb_cons (ss_set (ps_set (i := 6) sc_law.nd rfl (.inl rfl) (se_app (pe_callTy call_tuple_of (by rfl) T.z_tuple (by decide +kernel) (sa_cons (se_dlc (own := [("thing", 7)]) (pe_lc (own := [("thing", 7)]) rfl sc_law.nd (si_range1 (by rfl) T.z_range (se_call (pe_call (ok__law_many T) (hr.mono (by decide)) (by rfl) T.g__law_many T.F__law_many.kp T.b__law_many .nil pass0 (sa_cons (se_call (pe_call (ok__law_family T) (hr.mono (by decide)) (by rfl) T.g__law_family T.F__law_family.kp T.b__law_family .nil pass0 (sa_cons (se_var (pv 4)) (sa_nil))) (fun _ _ => .nil)) (sa_nil))) (fun _ _ => .nil))) (blkOk_by (N := ["script", "k", "box", "term", "ways", "high", "rows", "thing"]) (sc := (defScope s_law)) (by decide +kernel)) (fun _ _ _ _ _ => sg_nm (pg_name (i := 7) sc_law.nd rfl (.inl rfl))) (fun _ _ _ _ _ => sts_nil) (fun _ _ _ _ _ => se_call (pe_call (ok__law_split_row T) (hr.mono (by decide)) (by rfl) T.g__law_split_row T.F__law_split_row.kp T.b__law_split_row .nil pass0 (sa_cons (se_var (pv 2)) (sa_cons (se_bin op_add3 v_add (se_int) (se_call (pe_call (ok__law_take T) (hr.mono (by decide)) (by rfl) T.g__law_take T.F__law_take.kp T.b__law_take .nil pass0 (sa_cons (se_var (pv 2)) (sa_cons (se_var (pv 5)) (sa_nil)))) (fun _ _ => .nil))) (sa_nil)))) (fun _ _ => .nil))) (by simp [Tgt.slots, slotsL])) (sa_nil))) v_tuple))) (sb_one (ss_if (sx_not (sx_val (se_call (pe_call (ok__law_same 8 T) (hr.mono (by decide)) (by rfl) T.g__law_same T.F__law_same.kp T.b__law_same .nil pass0 (sa_cons (se_call (pe_call (ok_number_chances T) (hr.mono (by decide)) (by rfl) T.g_number_chances T.F_number_chances.kp T.b_number_chances .nil pass0 (sa_cons (se_var (pv 3)) (sa_cons (se_var (pv 6)) (sa_nil)))) (fun _ _ => .nil)) (sa_cons (se_call (pe_call (ok__law_due T) (hr.mono (by decide)) (by rfl) T.g__law_due T.F__law_due.kp T.b__law_due .nil pass0 (sa_cons (se_var (pv 3)) (sa_cons (se_var (pv 6)) (sa_nil)))) (fun _ _ => .nil)) (sa_nil)))) (fun _ _ => .nil)))) (sb_one (ss_ret (se_bl))) (sb_nil)))))))) (sb_one (ss_ret (se_call (pe_call (ok__law_same 8 T) (hr.mono (by decide)) (by rfl) T.g__law_same T.F__law_same.kp T.b__law_same .nil pass0 (sa_cons (se_callP (pe_callK0 (ok_number_chances T) (hr.mono (by decide)) (by rfl) T.g_number_chances T.F_number_chances.kp (T.kb_number_chances_rows_term) pass0 (sk_cons (se_tup (sa_cons (se_tup (sa_cons (se_tup (sa_cons (se_int) (sa_cons (se_int) (sa_nil)))) (sa_cons (se_tup (sa_cons (se_int) (sa_cons (se_int) (sa_nil)))) (sa_cons (se_tup (sa_cons (se_int) (sa_cons (se_int) (sa_nil)))) (sa_nil))))) (sa_cons (se_tup (sa_cons (se_tup (sa_cons (se_int) (sa_cons (se_int) (sa_nil)))) (sa_cons (se_tup (sa_cons (se_int) (sa_cons (se_int) (sa_nil)))) (sa_nil)))) (sa_cons (se_tup (sa_cons (se_tup (sa_cons (se_int) (sa_cons (se_int) (sa_nil)))) (sa_cons (se_tup (sa_cons (se_int) (sa_cons (se_int) (sa_nil)))) (sa_nil)))) (sa_nil))))) (sk_cons (se_tup (sa_cons (se_str) (sa_cons (se_tup (sa_cons (se_int) (sa_cons (se_tup (sa_cons (se_str) (sa_cons (se_tup (sa_cons (se_int) (sa_cons (se_int) (sa_nil)))) (sa_nil)))) (sa_nil)))) (sa_nil)))) (sk_nil)))) rfl) (sa_cons (se_tup (sa_cons (se_tup (sa_cons (se_int) (sa_cons (se_int) (sa_nil)))) (sa_cons (se_tup (sa_cons (se_int) (sa_cons (se_int) (sa_nil)))) (sa_cons (se_tup (sa_cons (se_int) (sa_cons (se_int) (sa_nil)))) (sa_nil))))) (sa_nil)))) (fun _ _ => .nil)))))
end
end Lk55
theorem Lk55.law_true : ∀ ns : List Int, ns.length ≤ 63 → ∃ S, Cm.F_law [.rol ns] [] = .ok (.bl true) S := fun ns hl => Cm.law55_true ns hl
namespace Lk55
open PySem PySem.Spec PyProof.Rows L2 Dn
theorem all_mk {l : PySem.W.OpenLaw} {w : World} {K : PySem.W.Frag} {h : Heap} {mg : Str → Option Value} {fa : Addr} (X : K.In h) (G : h.Ns mainGlobals mg) (hfa : mg "law" = some (.ref fa))
    {f0 : Addr} {od0 an0 : Option Addr} {sl0 : Array (Option Value)} {oc0 kV0 dc0 pm0 cd0 ct0 : Value}
    {f1 : Addr} {od1 an1 : Option Addr} {sl1 : Array (Option Value)} {oc1 kV1 dc1 pm1 cd1 ct1 : Value}
    {tq1_0 : Tok}
    {dT1 : Addr} {ed1 : Option Addr} {en1 : Nat} {es1 : Array (Option Value)}
    {f2 : Addr} {od2 an2 : Option Addr} {sl2 : Array (Option Value)} {oc2 kV2 dc2 pm2 cd2 ct2 : Value}
    {f3 : Addr} {od3 an3 : Option Addr} {sl3 : Array (Option Value)} {oc3 kV3 dc3 pm3 cd3 ct3 : Value}
    {f4 : Addr} {od4 an4 : Option Addr} {sl4 : Array (Option Value)} {oc4 kV4 dc4 pm4 cd4 ct4 : Value}
    {f5 : Addr} {od5 an5 : Option Addr} {sl5 : Array (Option Value)} {oc5 kV5 dc5 pm5 cd5 ct5 : Value}
    {f6 : Addr} {od6 an6 : Option Addr} {sl6 : Array (Option Value)} {oc6 kV6 dc6 pm6 cd6 ct6 : Value}
    {f7 : Addr} {od7 an7 : Option Addr} {sl7 : Array (Option Value)} {oc7 kV7 dc7 pm7 cd7 ct7 : Value}
    {f8 : Addr} {od8 an8 : Option Addr} {sl8 : Array (Option Value)} {oc8 kV8 dc8 pm8 cd8 ct8 : Value}
    {f9 : Addr} {od9 an9 : Option Addr} {sl9 : Array (Option Value)} {oc9 kV9 dc9 pm9 cd9 ct9 : Value}
    {f10 : Addr} {od10 an10 : Option Addr} {sl10 : Array (Option Value)} {oc10 kV10 dc10 pm10 cd10 ct10 : Value}
    {f11 : Addr} {od11 an11 : Option Addr} {sl11 : Array (Option Value)} {oc11 kV11 dc11 pm11 cd11 ct11 : Value}
    {f12 : Addr} {od12 an12 : Option Addr} {sl12 : Array (Option Value)} {oc12 kV12 dc12 pm12 cd12 ct12 : Value}
    {f13 : Addr} {od13 an13 : Option Addr} {sl13 : Array (Option Value)} {oc13 kV13 dc13 pm13 cd13 ct13 : Value}
    {f14 : Addr} {od14 an14 : Option Addr} {sl14 : Array (Option Value)} {oc14 kV14 dc14 pm14 cd14 ct14 : Value}
    {f15 : Addr} {od15 an15 : Option Addr} {sl15 : Array (Option Value)} {oc15 kV15 dc15 pm15 cd15 ct15 : Value}
    {f16 : Addr} {od16 an16 : Option Addr} {sl16 : Array (Option Value)} {oc16 kV16 dc16 pm16 cd16 ct16 : Value}
    {f17 : Addr} {od17 an17 : Option Addr} {sl17 : Array (Option Value)} {oc17 kV17 dc17 pm17 cd17 ct17 : Value}
    {f18 : Addr} {od18 an18 : Option Addr} {sl18 : Array (Option Value)} {oc18 kV18 dc18 pm18 cd18 ct18 : Value}
    {f19 : Addr} {od19 an19 : Option Addr} {sl19 : Array (Option Value)} {oc19 kV19 dc19 pm19 cd19 ct19 : Value}
    {f20 : Addr} {od20 an20 : Option Addr} {sl20 : Array (Option Value)} {oc20 kV20 dc20 pm20 cd20 ct20 : Value}
    {f21 : Addr} {od21 an21 : Option Addr} {sl21 : Array (Option Value)} {oc21 kV21 dc21 pm21 cd21 ct21 : Value}
    {f22 : Addr} {od22 an22 : Option Addr} {sl22 : Array (Option Value)} {oc22 kV22 dc22 pm22 cd22 ct22 : Value}
    {f23 : Addr} {od23 an23 : Option Addr} {sl23 : Array (Option Value)} {oc23 kV23 dc23 pm23 cd23 ct23 : Value}
    {f24 : Addr} {od24 an24 : Option Addr} {sl24 : Array (Option Value)} {oc24 kV24 dc24 pm24 cd24 ct24 : Value}
    {f25 : Addr} {od25 an25 : Option Addr} {sl25 : Array (Option Value)} {oc25 kV25 dc25 pm25 cd25 ct25 : Value}
    {f26 : Addr} {od26 an26 : Option Addr} {sl26 : Array (Option Value)} {oc26 kV26 dc26 pm26 cd26 ct26 : Value}
    {f27 : Addr} {od27 an27 : Option Addr} {sl27 : Array (Option Value)} {oc27 kV27 dc27 pm27 cd27 ct27 : Value}
    {f28 : Addr} {od28 an28 : Option Addr} {sl28 : Array (Option Value)} {oc28 kV28 dc28 pm28 cd28 ct28 : Value}
    {f29 : Addr} {od29 an29 : Option Addr} {sl29 : Array (Option Value)} {oc29 kV29 dc29 pm29 cd29 ct29 : Value}
    {f30 : Addr} {od30 an30 : Option Addr} {sl30 : Array (Option Value)} {oc30 kV30 dc30 pm30 cd30 ct30 : Value}
    {f31 : Addr} {od31 an31 : Option Addr} {sl31 : Array (Option Value)} {oc31 kV31 dc31 pm31 cd31 ct31 : Value}
    {f32 : Addr} {od32 an32 : Option Addr} {sl32 : Array (Option Value)} {oc32 kV32 dc32 pm32 cd32 ct32 : Value}
    {tt_NOUGHT_0 : Tok}
    {tt_NOUGHT_1 : Tok}
    {t_NOUGHT : Addr} {ot_NOUGHT : Option Addr} {nt_NOUGHT : Nat} {st_NOUGHT : Array (Option Value)}
    {tt_ROW : Tok}
    (a0 : PySem.W.nsIn K mainGlobals "is_int" = some (some (.ref f0)))
    (l0 : K.lookup f0 = some ⟨oc0, od0, .func (PySem.W.fnOf "is_int" "is_int" (defArgs s_is_int) (defBody s_is_int) (defScope s_is_int) .none kV0 dc0 pm0 an0 cd0 ct0), sl0⟩)
    (c0 : PySem.W.codeIn K cd0 "is_int" = true)
    (k0 : PySem.W.keepIn K (.ref f0) = true)
    (a1 : PySem.W.nsIn K mainGlobals "is_number" = some (some (.ref f1)))
    (l1 : K.lookup f1 = some ⟨oc1, od1, .func (PySem.W.fnOf "is_number" "is_number" (defArgs s_is_number) (defBody s_is_number) (defScope s_is_number) (.ref dT1) kV1 dc1 pm1 an1 cd1 ct1), sl1⟩)
    (e1 : K.lookup dT1 = some ⟨.type "tuple", ed1, .seq #[.int 0 tq1_0, .none] en1, es1⟩)
    (c1 : PySem.W.codeIn K cd1 "is_number" = true)
    (k1 : PySem.W.keepIn K (.ref f1) = true)
    (a2 : PySem.W.nsIn K mainGlobals "joined_lots" = some (some (.ref f2)))
    (l2 : K.lookup f2 = some ⟨oc2, od2, .func (PySem.W.fnOf "joined_lots" "joined_lots" (defArgs s_joined_lots) (defBody s_joined_lots) (defScope s_joined_lots) .none kV2 dc2 pm2 an2 cd2 ct2), sl2⟩)
    (c2 : PySem.W.codeIn K cd2 "joined_lots" = true)
    (k2 : PySem.W.keepIn K (.ref f2) = true)
    (a3 : PySem.W.nsIn K mainGlobals "term_rows" = some (some (.ref f3)))
    (l3 : K.lookup f3 = some ⟨oc3, od3, .func (PySem.W.fnOf "term_rows" "term_rows" (defArgs s_term_rows) (defBody s_term_rows) (defScope s_term_rows) .none kV3 dc3 pm3 an3 cd3 ct3), sl3⟩)
    (c3 : PySem.W.codeIn K cd3 "term_rows" = true)
    (k3 : PySem.W.keepIn K (.ref f3) = true)
    (a4 : PySem.W.nsIn K mainGlobals "trimmed_row" = some (some (.ref f4)))
    (l4 : K.lookup f4 = some ⟨oc4, od4, .func (PySem.W.fnOf "trimmed_row" "trimmed_row" (defArgs s_trimmed_row) (defBody s_trimmed_row) (defScope s_trimmed_row) .none kV4 dc4 pm4 an4 cd4 ct4), sl4⟩)
    (c4 : PySem.W.codeIn K cd4 "trimmed_row" = true)
    (k4 : PySem.W.keepIn K (.ref f4) = true)
    (a5 : PySem.W.nsIn K mainGlobals "common_part" = some (some (.ref f5)))
    (l5 : K.lookup f5 = some ⟨oc5, od5, .func (PySem.W.fnOf "common_part" "common_part" (defArgs s_common_part) (defBody s_common_part) (defScope s_common_part) .none kV5 dc5 pm5 an5 cd5 ct5), sl5⟩)
    (c5 : PySem.W.codeIn K cd5 "common_part" = true)
    (k5 : PySem.W.keepIn K (.ref f5) = true)
    (a6 : PySem.W.nsIn K mainGlobals "fraction_of" = some (some (.ref f6)))
    (l6 : K.lookup f6 = some ⟨oc6, od6, .func (PySem.W.fnOf "fraction_of" "fraction_of" (defArgs s_fraction_of) (defBody s_fraction_of) (defScope s_fraction_of) .none kV6 dc6 pm6 an6 cd6 ct6), sl6⟩)
    (c6 : PySem.W.codeIn K cd6 "fraction_of" = true)
    (k6 : PySem.W.keepIn K (.ref f6) = true)
    (a7 : PySem.W.nsIn K mainGlobals "plus_fractions" = some (some (.ref f7)))
    (l7 : K.lookup f7 = some ⟨oc7, od7, .func (PySem.W.fnOf "plus_fractions" "plus_fractions" (defArgs s_plus_fractions) (defBody s_plus_fractions) (defScope s_plus_fractions) .none kV7 dc7 pm7 an7 cd7 ct7), sl7⟩)
    (c7 : PySem.W.codeIn K cd7 "plus_fractions" = true)
    (k7 : PySem.W.keepIn K (.ref f7) = true)
    (a8 : PySem.W.nsIn K mainGlobals "times_fractions" = some (some (.ref f8)))
    (l8 : K.lookup f8 = some ⟨oc8, od8, .func (PySem.W.fnOf "times_fractions" "times_fractions" (defArgs s_times_fractions) (defBody s_times_fractions) (defScope s_times_fractions) .none kV8 dc8 pm8 an8 cd8 ct8), sl8⟩)
    (c8 : PySem.W.codeIn K cd8 "times_fractions" = true)
    (k8 : PySem.W.keepIn K (.ref f8) = true)
    (a9 : PySem.W.nsIn K mainGlobals "summed_row" = some (some (.ref f9)))
    (l9 : K.lookup f9 = some ⟨oc9, od9, .func (PySem.W.fnOf "summed_row" "summed_row" (defArgs s_summed_row) (defBody s_summed_row) (defScope s_summed_row) .none kV9 dc9 pm9 an9 cd9 ct9), sl9⟩)
    (c9 : PySem.W.codeIn K cd9 "summed_row" = true)
    (k9 : PySem.W.keepIn K (.ref f9) = true)
    (a10 : PySem.W.nsIn K mainGlobals "least_row" = some (some (.ref f10)))
    (l10 : K.lookup f10 = some ⟨oc10, od10, .func (PySem.W.fnOf "least_row" "least_row" (defArgs s_least_row) (defBody s_least_row) (defScope s_least_row) .none kV10 dc10 pm10 an10 cd10 ct10), sl10⟩)
    (c10 : PySem.W.codeIn K cd10 "least_row" = true)
    (k10 : PySem.W.keepIn K (.ref f10) = true)
    (a11 : PySem.W.nsIn K mainGlobals "number_chances" = some (some (.ref f11)))
    (l11 : K.lookup f11 = some ⟨oc11, od11, .func (PySem.W.fnOf "number_chances" "number_chances" (defArgs s_number_chances) (defBody s_number_chances) (defScope s_number_chances) .none kV11 dc11 pm11 an11 cd11 ct11), sl11⟩)
    (c11 : PySem.W.codeIn K cd11 "number_chances" = true)
    (k11 : PySem.W.keepIn K (.ref f11) = true)
    (a12 : PySem.W.nsIn K mainGlobals "_law_box" = some (some (.ref f12)))
    (l12 : K.lookup f12 = some ⟨oc12, od12, .func (PySem.W.fnOf "_law_box" "_law_box" (defArgs s__law_box) (defBody s__law_box) (defScope s__law_box) .none kV12 dc12 pm12 an12 cd12 ct12), sl12⟩)
    (c12 : PySem.W.codeIn K cd12 "_law_box" = true)
    (k12 : PySem.W.keepIn K (.ref f12) = true)
    (a13 : PySem.W.nsIn K mainGlobals "_law_take" = some (some (.ref f13)))
    (l13 : K.lookup f13 = some ⟨oc13, od13, .func (PySem.W.fnOf "_law_take" "_law_take" (defArgs s__law_take) (defBody s__law_take) (defScope s__law_take) .none kV13 dc13 pm13 an13 cd13 ct13), sl13⟩)
    (c13 : PySem.W.codeIn K cd13 "_law_take" = true)
    (k13 : PySem.W.keepIn K (.ref f13) = true)
    (a14 : PySem.W.nsIn K mainGlobals "_law_pick" = some (some (.ref f14)))
    (l14 : K.lookup f14 = some ⟨oc14, od14, .func (PySem.W.fnOf "_law_pick" "_law_pick" (defArgs s__law_pick) (defBody s__law_pick) (defScope s__law_pick) .none kV14 dc14 pm14 an14 cd14 ct14), sl14⟩)
    (c14 : PySem.W.codeIn K cd14 "_law_pick" = true)
    (k14 : PySem.W.keepIn K (.ref f14) = true)
    (a15 : PySem.W.nsIn K mainGlobals "_law_same" = some (some (.ref f15)))
    (l15 : K.lookup f15 = some ⟨oc15, od15, .func (PySem.W.fnOf "_law_same" "_law_same" (defArgs s__law_same) (defBody s__law_same) (defScope s__law_same) .none kV15 dc15 pm15 an15 cd15 ct15), sl15⟩)
    (c15 : PySem.W.codeIn K cd15 "_law_same" = true)
    (k15 : PySem.W.keepIn K (.ref f15) = true)
    (a16 : PySem.W.nsIn K mainGlobals "_law_order" = some (some (.ref f16)))
    (l16 : K.lookup f16 = some ⟨oc16, od16, .func (PySem.W.fnOf "_law_order" "_law_order" (defArgs s__law_order) (defBody s__law_order) (defScope s__law_order) .none kV16 dc16 pm16 an16 cd16 ct16), sl16⟩)
    (c16 : PySem.W.codeIn K cd16 "_law_order" = true)
    (k16 : PySem.W.keepIn K (.ref f16) = true)
    (a17 : PySem.W.nsIn K mainGlobals "_law_joined" = some (some (.ref f17)))
    (l17 : K.lookup f17 = some ⟨oc17, od17, .func (PySem.W.fnOf "_law_joined" "_law_joined" (defArgs s__law_joined) (defBody s__law_joined) (defScope s__law_joined) .none kV17 dc17 pm17 an17 cd17 ct17), sl17⟩)
    (c17 : PySem.W.codeIn K cd17 "_law_joined" = true)
    (k17 : PySem.W.keepIn K (.ref f17) = true)
    (a18 : PySem.W.nsIn K mainGlobals "_law_row" = some (some (.ref f18)))
    (l18 : K.lookup f18 = some ⟨oc18, od18, .func (PySem.W.fnOf "_law_row" "_law_row" (defArgs s__law_row) (defBody s__law_row) (defScope s__law_row) .none kV18 dc18 pm18 an18 cd18 ct18), sl18⟩)
    (c18 : PySem.W.codeIn K cd18 "_law_row" = true)
    (k18 : PySem.W.keepIn K (.ref f18) = true)
    (a19 : PySem.W.nsIn K mainGlobals "_law_side" = some (some (.ref f19)))
    (l19 : K.lookup f19 = some ⟨oc19, od19, .func (PySem.W.fnOf "_law_side" "_law_side" (defArgs s__law_side) (defBody s__law_side) (defScope s__law_side) .none kV19 dc19 pm19 an19 cd19 ct19), sl19⟩)
    (c19 : PySem.W.codeIn K cd19 "_law_side" = true)
    (k19 : PySem.W.keepIn K (.ref f19) = true)
    (a20 : PySem.W.nsIn K mainGlobals "_law_things" = some (some (.ref f20)))
    (l20 : K.lookup f20 = some ⟨oc20, od20, .func (PySem.W.fnOf "_law_things" "_law_things" (defArgs s__law_things) (defBody s__law_things) (defScope s__law_things) .none kV20 dc20 pm20 an20 cd20 ct20), sl20⟩)
    (c20 : PySem.W.codeIn K cd20 "_law_things" = true)
    (k20 : PySem.W.keepIn K (.ref f20) = true)
    (a21 : PySem.W.nsIn K mainGlobals "_law_once" = some (some (.ref f21)))
    (l21 : K.lookup f21 = some ⟨oc21, od21, .func (PySem.W.fnOf "_law_once" "_law_once" (defArgs s__law_once) (defBody s__law_once) (defScope s__law_once) .none kV21 dc21 pm21 an21 cd21 ct21), sl21⟩)
    (c21 : PySem.W.codeIn K cd21 "_law_once" = true)
    (k21 : PySem.W.keepIn K (.ref f21) = true)
    (a22 : PySem.W.nsIn K mainGlobals "_law_family" = some (some (.ref f22)))
    (l22 : K.lookup f22 = some ⟨oc22, od22, .func (PySem.W.fnOf "_law_family" "_law_family" (defArgs s__law_family) (defBody s__law_family) (defScope s__law_family) .none kV22 dc22 pm22 an22 cd22 ct22), sl22⟩)
    (c22 : PySem.W.codeIn K cd22 "_law_family" = true)
    (k22 : PySem.W.keepIn K (.ref f22) = true)
    (a23 : PySem.W.nsIn K mainGlobals "_law_many" = some (some (.ref f23)))
    (l23 : K.lookup f23 = some ⟨oc23, od23, .func (PySem.W.fnOf "_law_many" "_law_many" (defArgs s__law_many) (defBody s__law_many) (defScope s__law_many) .none kV23 dc23 pm23 an23 cd23 ct23), sl23⟩)
    (c23 : PySem.W.codeIn K cd23 "_law_many" = true)
    (k23 : PySem.W.keepIn K (.ref f23) = true)
    (a24 : PySem.W.nsIn K mainGlobals "_law_lowest" = some (some (.ref f24)))
    (l24 : K.lookup f24 = some ⟨oc24, od24, .func (PySem.W.fnOf "_law_lowest" "_law_lowest" (defArgs s__law_lowest) (defBody s__law_lowest) (defScope s__law_lowest) .none kV24 dc24 pm24 an24 cd24 ct24), sl24⟩)
    (c24 : PySem.W.codeIn K cd24 "_law_lowest" = true)
    (k24 : PySem.W.keepIn K (.ref f24) = true)
    (a25 : PySem.W.nsIn K mainGlobals "_law_split_row" = some (some (.ref f25)))
    (l25 : K.lookup f25 = some ⟨oc25, od25, .func (PySem.W.fnOf "_law_split_row" "_law_split_row" (defArgs s__law_split_row) (defBody s__law_split_row) (defScope s__law_split_row) .none kV25 dc25 pm25 an25 cd25 ct25), sl25⟩)
    (c25 : PySem.W.codeIn K cd25 "_law_split_row" = true)
    (k25 : PySem.W.keepIn K (.ref f25) = true)
    (a26 : PySem.W.nsIn K mainGlobals "_law_sum" = some (some (.ref f26)))
    (l26 : K.lookup f26 = some ⟨oc26, od26, .func (PySem.W.fnOf "_law_sum" "_law_sum" (defArgs s__law_sum) (defBody s__law_sum) (defScope s__law_sum) .none kV26 dc26 pm26 an26 cd26 ct26), sl26⟩)
    (c26 : PySem.W.codeIn K cd26 "_law_sum" = true)
    (k26 : PySem.W.keepIn K (.ref f26) = true)
    (a27 : PySem.W.nsIn K mainGlobals "_law_times" = some (some (.ref f27)))
    (l27 : K.lookup f27 = some ⟨oc27, od27, .func (PySem.W.fnOf "_law_times" "_law_times" (defArgs s__law_times) (defBody s__law_times) (defScope s__law_times) .none kV27 dc27 pm27 an27 cd27 ct27), sl27⟩)
    (c27 : PySem.W.codeIn K cd27 "_law_times" = true)
    (k27 : PySem.W.keepIn K (.ref f27) = true)
    (a28 : PySem.W.nsIn K mainGlobals "_law_draws" = some (some (.ref f28)))
    (l28 : K.lookup f28 = some ⟨oc28, od28, .func (PySem.W.fnOf "_law_draws" "_law_draws" (defArgs s__law_draws) (defBody s__law_draws) (defScope s__law_draws) .none kV28 dc28 pm28 an28 cd28 ct28), sl28⟩)
    (c28 : PySem.W.codeIn K cd28 "_law_draws" = true)
    (k28 : PySem.W.keepIn K (.ref f28) = true)
    (a29 : PySem.W.nsIn K mainGlobals "_law_paths" = some (some (.ref f29)))
    (l29 : K.lookup f29 = some ⟨oc29, od29, .func (PySem.W.fnOf "_law_paths" "_law_paths" (defArgs s__law_paths) (defBody s__law_paths) (defScope s__law_paths) .none kV29 dc29 pm29 an29 cd29 ct29), sl29⟩)
    (c29 : PySem.W.codeIn K cd29 "_law_paths" = true)
    (k29 : PySem.W.keepIn K (.ref f29) = true)
    (a30 : PySem.W.nsIn K mainGlobals "_law_narrow" = some (some (.ref f30)))
    (l30 : K.lookup f30 = some ⟨oc30, od30, .func (PySem.W.fnOf "_law_narrow" "_law_narrow" (defArgs s__law_narrow) (defBody s__law_narrow) (defScope s__law_narrow) .none kV30 dc30 pm30 an30 cd30 ct30), sl30⟩)
    (c30 : PySem.W.codeIn K cd30 "_law_narrow" = true)
    (k30 : PySem.W.keepIn K (.ref f30) = true)
    (a31 : PySem.W.nsIn K mainGlobals "_law_due" = some (some (.ref f31)))
    (l31 : K.lookup f31 = some ⟨oc31, od31, .func (PySem.W.fnOf "_law_due" "_law_due" (defArgs s__law_due) (defBody s__law_due) (defScope s__law_due) .none kV31 dc31 pm31 an31 cd31 ct31), sl31⟩)
    (c31 : PySem.W.codeIn K cd31 "_law_due" = true)
    (k31 : PySem.W.keepIn K (.ref f31) = true)
    (a32 : PySem.W.nsIn K mainGlobals "law" = some (some (.ref f32)))
    (l32 : K.lookup f32 = some ⟨oc32, od32, .func (PySem.W.fnOf "law" "law" (defArgs s_law) (defBody s_law) (defScope s_law) .none kV32 dc32 pm32 an32 cd32 ct32), sl32⟩)
    (c32 : PySem.W.codeIn K cd32 "law" = true)
    (k32 : PySem.W.keepIn K (.ref f32) = true)
    (z_abs : PySem.W.nsIn K mainGlobals "abs" = some none)
    (z_bool : PySem.W.nsIn K mainGlobals "bool" = some none)
    (z_enumerate : PySem.W.nsIn K mainGlobals "enumerate" = some none)
    (z_int : PySem.W.nsIn K mainGlobals "int" = some none)
    (z_isinstance : PySem.W.nsIn K mainGlobals "isinstance" = some none)
    (z_len : PySem.W.nsIn K mainGlobals "len" = some none)
    (z_list : PySem.W.nsIn K mainGlobals "list" = some none)
    (z_max : PySem.W.nsIn K mainGlobals "max" = some none)
    (z_min : PySem.W.nsIn K mainGlobals "min" = some none)
    (z_range : PySem.W.nsIn K mainGlobals "range" = some none)
    (z_reversed : PySem.W.nsIn K mainGlobals "reversed" = some none)
    (z_sorted : PySem.W.nsIn K mainGlobals "sorted" = some none)
    (z_str : PySem.W.nsIn K mainGlobals "str" = some none)
    (z_sum : PySem.W.nsIn K mainGlobals "sum" = some none)
    (z_tuple : PySem.W.nsIn K mainGlobals "tuple" = some none)
    (z_zip : PySem.W.nsIn K mainGlobals "zip" = some none)
    (m_NOUGHT : PySem.W.nsIn K mainGlobals "NOUGHT" = some (some (.ref t_NOUGHT)))
    (lt_NOUGHT : K.lookup t_NOUGHT = some ⟨.type "tuple", ot_NOUGHT, .seq #[(.int 0 tt_NOUGHT_0), (.int 1 tt_NOUGHT_1)] nt_NOUGHT, st_NOUGHT⟩)
    (m_ROW : PySem.W.nsIn K mainGlobals "ROW" = some (some (.str "row" tt_ROW)))
    (law_true : ∀ ns : List Int, ns.length ≤ 63 → ∃ S, Cm.F_law [.rol ns] [] = .ok (.bl true) S) :
    ∃ fd : FuncData, (∀ (s : Shared) (v : Value), BindsTo s fd ⟨[v], []⟩ [("script", v)]) ∧ ∀ base : Heap, K.In base → base.Ns mainGlobals mg → FnOk l.prog w K mg base CX0 10 fa fd ["script"] (spLaw K) := by
  have e := hfa.symm.trans (PySem.W.mg_of X G a32)
  cases e
  have F0 := fun_mk (st := s_is_int) l0 c0 k0
  have b0 := F0.binds (ps := ["value"]) fun _ _ _ _ _ _ us hl => match us, hl with | [_], _ => rfl
  have F1 : FunD K "is_number" "is_number" (defArgs s_is_number) (defBody s_is_number) (defScope s_is_number) [.int 0, .non] [] f1 (PySem.W.fnOf "is_number" "is_number" (defArgs s_is_number) (defBody s_is_number) (defScope s_is_number) (.ref dT1) kV1 dc1 pm1 an1 cd1 ct1) := ⟨⟨_, _, _, _, _, _, _, _, _, _, rfl, l1, c1, .inr ⟨by simp, dT1, _, _, _, rfl, e1, rfl, .cons ⟨_, rfl⟩ (.cons (rfl) (.nil))⟩, .inl rfl⟩, k1⟩
  have b1_1 := FunD.binds1 (ps := ["value", "least", "most"]) F1 1 0 (by simp) (by simp) (fun _ _ _ _ _ _ _ us its hu hi => match us, hu, its, hi with | [_], _, [_, _], _ => ⟨_, rfl, rfl⟩)
  have F2 := fun_mk (st := s_joined_lots) l2 c2 k2
  have b2 := F2.binds (ps := ["lots"]) fun _ _ _ _ _ _ us hl => match us, hl with | [_], _ => rfl
  have F3 := fun_mk (st := s_term_rows) l3 c3 k3
  have b3 := F3.binds (ps := ["term"]) fun _ _ _ _ _ _ us hl => match us, hl with | [_], _ => rfl
  have F4 := fun_mk (st := s_trimmed_row) l4 c4 k4
  have b4 := F4.binds (ps := ["row"]) fun _ _ _ _ _ _ us hl => match us, hl with | [_], _ => rfl
  have F5 := fun_mk (st := s_common_part) l5 c5 k5
  have b5 := F5.binds (ps := ["one", "two"]) fun _ _ _ _ _ _ us hl => match us, hl with | [_, _], _ => rfl
  have F6 := fun_mk (st := s_fraction_of) l6 c6 k6
  have b6 := F6.binds (ps := ["numerator", "denominator"]) fun _ _ _ _ _ _ us hl => match us, hl with | [_, _], _ => rfl
  have F7 := fun_mk (st := s_plus_fractions) l7 c7 k7
  have b7 := F7.binds (ps := ["one", "two"]) fun _ _ _ _ _ _ us hl => match us, hl with | [_, _], _ => rfl
  have F8 := fun_mk (st := s_times_fractions) l8 c8 k8
  have b8 := F8.binds (ps := ["one", "two"]) fun _ _ _ _ _ _ us hl => match us, hl with | [_, _], _ => rfl
  have F9 := fun_mk (st := s_summed_row) l9 c9 k9
  have b9 := F9.binds (ps := ["one", "two"]) fun _ _ _ _ _ _ us hl => match us, hl with | [_, _], _ => rfl
  have F10 := fun_mk (st := s_least_row) l10 c10 k10
  have b10 := F10.binds (ps := ["one", "two"]) fun _ _ _ _ _ _ us hl => match us, hl with | [_, _], _ => rfl
  have F11 := fun_mk (st := s_number_chances) l11 c11 k11
  have b11 := F11.binds (ps := ["term", "rows"]) fun _ _ _ _ _ _ us hl => match us, hl with | [_, _], _ => rfl
  have kb11_rows_term : KPerm K (PySem.W.fnOf "number_chances" "number_chances" (defArgs s_number_chances) (defBody s_number_chances) (defScope s_number_chances) .none kV11 dc11 pm11 an11 cd11 ct11) ["term", "rows"] ["rows", "term"] [1, 0] := by
    exact fun s ws _ hl => .of_eq (match ws, hl with | [_, _], _ => rfl)
  have F12 := fun_mk (st := s__law_box) l12 c12 k12
  have b12 := F12.binds (ps := ["script", "k"]) fun _ _ _ _ _ _ us hl => match us, hl with | [_, _], _ => rfl
  have F13 := fun_mk (st := s__law_take) l13 c13 k13
  have b13 := F13.binds (ps := ["box", "many"]) fun _ _ _ _ _ _ us hl => match us, hl with | [_, _], _ => rfl
  have F14 := fun_mk (st := s__law_pick) l14 c14 k14
  have b14 := F14.binds (ps := ["box", "some"]) fun _ _ _ _ _ _ us hl => match us, hl with | [_, _], _ => rfl
  have F15 := fun_mk (st := s__law_same) l15 c15 k15
  have b15 := F15.binds (ps := ["told", "due"]) fun _ _ _ _ _ _ us hl => match us, hl with | [_, _], _ => rfl
  have F16 := fun_mk (st := s__law_order) l16 c16 k16
  have b16 := F16.binds (ps := ["box", "some"]) fun _ _ _ _ _ _ us hl => match us, hl with | [_, _], _ => rfl
  have F17 := fun_mk (st := s__law_joined) l17 c17 k17
  have b17 := F17.binds (ps := ["one", "two"]) fun _ _ _ _ _ _ us hl => match us, hl with | [_, _], _ => rfl
  have F18 := fun_mk (st := s__law_row) l18 c18 k18
  have b18 := F18.binds (ps := ["box", "parts"]) fun _ _ _ _ _ _ us hl => match us, hl with | [_, _], _ => rfl
  have F19 := fun_mk (st := s__law_side) l19 c19 k19
  have b19 := F19.binds (ps := ["box", "parts"]) fun _ _ _ _ _ _ us hl => match us, hl with | [_, _], _ => rfl
  have F20 := fun_mk (st := s__law_things) l20 c20 k20
  have b20 := F20.binds (ps := ["names"]) fun _ _ _ _ _ _ us hl => match us, hl with | [_], _ => rfl
  have F21 := fun_mk (st := s__law_once) l21 c21 k21
  have b21 := F21.binds (ps := ["box", "names", "most"]) fun _ _ _ _ _ _ us hl => match us, hl with | [_, _, _], _ => rfl
  have F22 := fun_mk (st := s__law_family) l22 c22 k22
  have b22 := F22.binds (ps := ["ways"]) fun _ _ _ _ _ _ us hl => match us, hl with | [_], _ => rfl
  have F23 := fun_mk (st := s__law_many) l23 c23 k23
  have b23 := F23.binds (ps := ["family"]) fun _ _ _ _ _ _ us hl => match us, hl with | [_], _ => rfl
  have F24 := fun_mk (st := s__law_lowest) l24 c24 k24
  have b24 := F24.binds (ps := ["number", "parts"]) fun _ _ _ _ _ _ us hl => match us, hl with | [_, _], _ => rfl
  have F25 := fun_mk (st := s__law_split_row) l25 c25 k25
  have b25 := F25.binds (ps := ["box", "many"]) fun _ _ _ _ _ _ us hl => match us, hl with | [_, _], _ => rfl
  have F26 := fun_mk (st := s__law_sum) l26 c26 k26
  have b26 := F26.binds (ps := ["one", "two"]) fun _ _ _ _ _ _ us hl => match us, hl with | [_, _], _ => rfl
  have F27 := fun_mk (st := s__law_times) l27 c27 k27
  have b27 := F27.binds (ps := ["one", "two"]) fun _ _ _ _ _ _ us hl => match us, hl with | [_, _], _ => rfl
  have F28 := fun_mk (st := s__law_draws) l28 c28 k28
  have b28 := F28.binds (ps := ["rows"]) fun _ _ _ _ _ _ us hl => match us, hl with | [_], _ => rfl
  have F29 := fun_mk (st := s__law_paths) l29 c29 k29
  have b29 := F29.binds (ps := ["term"]) fun _ _ _ _ _ _ us hl => match us, hl with | [_], _ => rfl
  have F30 := fun_mk (st := s__law_narrow) l30 c30 k30
  have b30 := F30.binds (ps := ["term", "widths"]) fun _ _ _ _ _ _ us hl => match us, hl with | [_, _], _ => rfl
  have F31 := fun_mk (st := s__law_due) l31 c31 k31
  have b31 := F31.binds (ps := ["term", "rows"]) fun _ _ _ _ _ _ us hl => match us, hl with | [_, _], _ => rfl
  have F32 := fun_mk (st := s_law) l32 c32 k32
  have b32 := F32.binds (ps := ["script"]) fun _ _ _ _ _ _ us hl => match us, hl with | [_], _ => rfl
  have T : Txt { f_is_int := f0, d_is_int := _, f_is_number := f1, d_is_number := _, f_joined_lots := f2, d_joined_lots := _, f_term_rows := f3, d_term_rows := _, f_trimmed_row := f4, d_trimmed_row := _, f_common_part := f5, d_common_part := _, f_fraction_of := f6, d_fraction_of := _, f_plus_fractions := f7, d_plus_fractions := _, f_times_fractions := f8, d_times_fractions := _, f_summed_row := f9, d_summed_row := _, f_least_row := f10, d_least_row := _, f_number_chances := f11, d_number_chances := _, f__law_box := f12, d__law_box := _, f__law_take := f13, d__law_take := _, f__law_pick := f14, d__law_pick := _, f__law_same := f15, d__law_same := _, f__law_order := f16, d__law_order := _, f__law_joined := f17, d__law_joined := _, f__law_row := f18, d__law_row := _, f__law_side := f19, d__law_side := _, f__law_things := f20, d__law_things := _, f__law_once := f21, d__law_once := _, f__law_family := f22, d__law_family := _, f__law_many := f23, d__law_many := _, f__law_lowest := f24, d__law_lowest := _, f__law_split_row := f25, d__law_split_row := _, f__law_sum := f26, d__law_sum := _, f__law_times := f27, d__law_times := _, f__law_draws := f28, d__law_draws := _, f__law_paths := f29, d__law_paths := _, f__law_narrow := f30, d__law_narrow := _, f__law_due := f31, d__law_due := _, f_law := fa, d_law := _, t_NOUGHT := t_NOUGHT, u_NOUGHT := (.ref t_NOUGHT), w_NOUGHT := (.ref t_NOUGHT), u_ROW := (.str "row" tt_ROW), w_ROW := (.str "row") } K mg := {
    dummy := trivial
    z_abs := PySem.W.mg_none_of X G z_abs
    z_bool := PySem.W.mg_none_of X G z_bool
    z_enumerate := PySem.W.mg_none_of X G z_enumerate
    z_int := PySem.W.mg_none_of X G z_int
    z_isinstance := PySem.W.mg_none_of X G z_isinstance
    z_len := PySem.W.mg_none_of X G z_len
    z_list := PySem.W.mg_none_of X G z_list
    z_max := PySem.W.mg_none_of X G z_max
    z_min := PySem.W.mg_none_of X G z_min
    z_range := PySem.W.mg_none_of X G z_range
    z_reversed := PySem.W.mg_none_of X G z_reversed
    z_sorted := PySem.W.mg_none_of X G z_sorted
    z_str := PySem.W.mg_none_of X G z_str
    z_sum := PySem.W.mg_none_of X G z_sum
    z_tuple := PySem.W.mg_none_of X G z_tuple
    z_zip := PySem.W.mg_none_of X G z_zip
    F_is_int := F0
    b_is_int := b0
    g_is_int := PySem.W.mg_of X G a0
    F_is_number := F1
    g_is_number := PySem.W.mg_of X G a1
    F_joined_lots := F2
    b_joined_lots := b2
    g_joined_lots := PySem.W.mg_of X G a2
    F_term_rows := F3
    b_term_rows := b3
    g_term_rows := PySem.W.mg_of X G a3
    F_trimmed_row := F4
    b_trimmed_row := b4
    g_trimmed_row := PySem.W.mg_of X G a4
    F_common_part := F5
    b_common_part := b5
    g_common_part := PySem.W.mg_of X G a5
    F_fraction_of := F6
    b_fraction_of := b6
    g_fraction_of := PySem.W.mg_of X G a6
    F_plus_fractions := F7
    b_plus_fractions := b7
    g_plus_fractions := PySem.W.mg_of X G a7
    F_times_fractions := F8
    b_times_fractions := b8
    g_times_fractions := PySem.W.mg_of X G a8
    F_summed_row := F9
    b_summed_row := b9
    g_summed_row := PySem.W.mg_of X G a9
    F_least_row := F10
    b_least_row := b10
    g_least_row := PySem.W.mg_of X G a10
    F_number_chances := F11
    b_number_chances := b11
    g_number_chances := PySem.W.mg_of X G a11
    F__law_box := F12
    b__law_box := b12
    g__law_box := PySem.W.mg_of X G a12
    F__law_take := F13
    b__law_take := b13
    g__law_take := PySem.W.mg_of X G a13
    F__law_pick := F14
    b__law_pick := b14
    g__law_pick := PySem.W.mg_of X G a14
    F__law_same := F15
    b__law_same := b15
    g__law_same := PySem.W.mg_of X G a15
    F__law_order := F16
    b__law_order := b16
    g__law_order := PySem.W.mg_of X G a16
    F__law_joined := F17
    b__law_joined := b17
    g__law_joined := PySem.W.mg_of X G a17
    F__law_row := F18
    b__law_row := b18
    g__law_row := PySem.W.mg_of X G a18
    F__law_side := F19
    b__law_side := b19
    g__law_side := PySem.W.mg_of X G a19
    F__law_things := F20
    b__law_things := b20
    g__law_things := PySem.W.mg_of X G a20
    F__law_once := F21
    b__law_once := b21
    g__law_once := PySem.W.mg_of X G a21
    F__law_family := F22
    b__law_family := b22
    g__law_family := PySem.W.mg_of X G a22
    F__law_many := F23
    b__law_many := b23
    g__law_many := PySem.W.mg_of X G a23
    F__law_lowest := F24
    b__law_lowest := b24
    g__law_lowest := PySem.W.mg_of X G a24
    F__law_split_row := F25
    b__law_split_row := b25
    g__law_split_row := PySem.W.mg_of X G a25
    F__law_sum := F26
    b__law_sum := b26
    g__law_sum := PySem.W.mg_of X G a26
    F__law_times := F27
    b__law_times := b27
    g__law_times := PySem.W.mg_of X G a27
    F__law_draws := F28
    b__law_draws := b28
    g__law_draws := PySem.W.mg_of X G a28
    F__law_paths := F29
    b__law_paths := b29
    g__law_paths := PySem.W.mg_of X G a29
    F__law_narrow := F30
    b__law_narrow := b30
    g__law_narrow := PySem.W.mg_of X G a30
    F__law_due := F31
    b__law_due := b31
    g__law_due := PySem.W.mg_of X G a31
    F_law := F32
    b_law := b32
    g_law := PySem.W.mg_of X G a32
    b_is_number_1 := b1_1
    kb_number_chances_rows_term := kb11_rows_term
    m_NOUGHT := PySem.W.mg_of X G m_NOUGHT
    v_NOUGHT := rfl
    r_NOUGHT := fun α H => .tup (vs := [(.int 0), (.int 1)]) (.inr ⟨_, _, _, lt_NOUGHT, rfl, rfl, by rw [sizeLine_eq]; exact Nat.le_of_ble_eq_true rfl, .cons (⟨_, rfl⟩) (.cons (⟨_, rfl⟩) (.nil))⟩) (.cons (.int _) (.cons (.int _) (.nil)))
    m_ROW := PySem.W.mg_of X G m_ROW
    v_ROW := ⟨_, rfl⟩
    r_ROW := fun α H => .str _
  }
  exact ⟨_, fun s v => .of_eq rfl, fun base _ _ => FnOk.weak (ok_law T) fun vs H Q E hq => law_sp (G := ⟨K, mg⟩) law_true hq⟩
end Lk55
open PySem PySem.W PyProof.Rows in
set_option maxRecDepth 100000 in
set_option maxHeartbeats 0 in
theorem PySem.Challenge.cw_sameorapart_k55_how_many_by_all_draws_holds : PySem.Challenge.rw_sameorapart_k55_how_many_by_all_draws.Holds := by
  w_on; o_law; k_head; (case hw => w_witness2)
  k_fill
  refine L2.walk_of (l := PySem.Challenge.rw_sameorapart_k55_how_many_by_all_draws) (n := 63) (k := 10) (x := "script") (CX := fun _ => L2.CX0) (sp := fun w => Dn.spLaw _) rfl (by decide) rfl ⟨rfl, by decide, by decide⟩ (fun w h Y => PySem.W.kIn_of Y) ?F (fun _ _ a ns hl _ hS => ⟨a, ns, rfl, hS, hl, fun _ => rfl⟩) (fun _ _ _ _ _ h => h)
  case F =>
    intro w mg fa h KX G hmg
    refine' Lk55.all_mk KX G hmg ?a0 ?l0 ?c0 ?k0 ?a1 ?l1 ?e1 ?c1 ?k1 ?a2 ?l2 ?c2 ?k2 ?a3 ?l3 ?c3 ?k3 ?a4 ?l4 ?c4 ?k4 ?a5 ?l5 ?c5 ?k5 ?a6 ?l6 ?c6 ?k6 ?a7 ?l7 ?c7 ?k7 ?a8 ?l8 ?c8 ?k8 ?a9 ?l9 ?c9 ?k9 ?a10 ?l10 ?c10 ?k10 ?a11 ?l11 ?c11 ?k11 ?a12 ?l12 ?c12 ?k12 ?a13 ?l13 ?c13 ?k13 ?a14 ?l14 ?c14 ?k14 ?a15 ?l15 ?c15 ?k15 ?a16 ?l16 ?c16 ?k16 ?a17 ?l17 ?c17 ?k17 ?a18 ?l18 ?c18 ?k18 ?a19 ?l19 ?c19 ?k19 ?a20 ?l20 ?c20 ?k20 ?a21 ?l21 ?c21 ?k21 ?a22 ?l22 ?c22 ?k22 ?a23 ?l23 ?c23 ?k23 ?a24 ?l24 ?c24 ?k24 ?a25 ?l25 ?c25 ?k25 ?a26 ?l26 ?c26 ?k26 ?a27 ?l27 ?c27 ?k27 ?a28 ?l28 ?c28 ?k28 ?a29 ?l29 ?c29 ?k29 ?a30 ?l30 ?c30 ?k30 ?a31 ?l31 ?c31 ?k31 ?a32 ?l32 ?c32 ?k32 ?z_abs ?z_bool ?z_enumerate ?z_int ?z_isinstance ?z_len ?z_list ?z_max ?z_min ?z_range ?z_reversed ?z_sorted ?z_str ?z_sum ?z_tuple ?z_zip ?m_NOUGHT ?lt_NOUGHT ?m_ROW Lk55.law_true
    (case a0 => k_is)
    (case l0 => k_is)
    (case c0 => k_is)
    (case k0 => k_is)
    (case a1 => k_is)
    (case l1 => k_is)
    (case e1 => k_is)
    (case c1 => k_is)
    (case k1 => k_is)
    (case a2 => k_is)
    (case l2 => k_is)
    (case c2 => k_is)
    (case k2 => k_is)
    (case a3 => k_is)
    (case l3 => k_is)
    (case c3 => k_is)
    (case k3 => k_is)
    (case a4 => k_is)
    (case l4 => k_is)
    (case c4 => k_is)
    (case k4 => k_is)
    (case a5 => k_is)
    (case l5 => k_is)
    (case c5 => k_is)
    (case k5 => k_is)
    (case a6 => k_is)
    (case l6 => k_is)
    (case c6 => k_is)
    (case k6 => k_is)
    (case a7 => k_is)
    (case l7 => k_is)
    (case c7 => k_is)
    (case k7 => k_is)
    (case a8 => k_is)
    (case l8 => k_is)
    (case c8 => k_is)
    (case k8 => k_is)
    (case a9 => k_is)
    (case l9 => k_is)
    (case c9 => k_is)
    (case k9 => k_is)
    (case a10 => k_is)
    (case l10 => k_is)
    (case c10 => k_is)
    (case k10 => k_is)
    (case a11 => k_is)
    (case l11 => k_is)
    (case c11 => k_is)
    (case k11 => k_is)
    (case a12 => k_is)
    (case l12 => k_is)
    (case c12 => k_is)
    (case k12 => k_is)
    (case a13 => k_is)
    (case l13 => k_is)
    (case c13 => k_is)
    (case k13 => k_is)
    (case a14 => k_is)
    (case l14 => k_is)
    (case c14 => k_is)
    (case k14 => k_is)
    (case a15 => k_is)
    (case l15 => k_is)
    (case c15 => k_is)
    (case k15 => k_is)
    (case a16 => k_is)
    (case l16 => k_is)
    (case c16 => k_is)
    (case k16 => k_is)
    (case a17 => k_is)
    (case l17 => k_is)
    (case c17 => k_is)
    (case k17 => k_is)
    (case a18 => k_is)
    (case l18 => k_is)
    (case c18 => k_is)
    (case k18 => k_is)
    (case a19 => k_is)
    (case l19 => k_is)
    (case c19 => k_is)
    (case k19 => k_is)
    (case a20 => k_is)
    (case l20 => k_is)
    (case c20 => k_is)
    (case k20 => k_is)
    (case a21 => k_is)
    (case l21 => k_is)
    (case c21 => k_is)
    (case k21 => k_is)
    (case a22 => k_is)
    (case l22 => k_is)
    (case c22 => k_is)
    (case k22 => k_is)
    (case a23 => k_is)
    (case l23 => k_is)
    (case c23 => k_is)
    (case k23 => k_is)
    (case a24 => k_is)
    (case l24 => k_is)
    (case c24 => k_is)
    (case k24 => k_is)
    (case a25 => k_is)
    (case l25 => k_is)
    (case c25 => k_is)
    (case k25 => k_is)
    (case a26 => k_is)
    (case l26 => k_is)
    (case c26 => k_is)
    (case k26 => k_is)
    (case a27 => k_is)
    (case l27 => k_is)
    (case c27 => k_is)
    (case k27 => k_is)
    (case a28 => k_is)
    (case l28 => k_is)
    (case c28 => k_is)
    (case k28 => k_is)
    (case a29 => k_is)
    (case l29 => k_is)
    (case c29 => k_is)
    (case k29 => k_is)
    (case a30 => k_is)
    (case l30 => k_is)
    (case c30 => k_is)
    (case k30 => k_is)
    (case a31 => k_is)
    (case l31 => k_is)
    (case c31 => k_is)
    (case k31 => k_is)
    (case a32 => k_is)
    (case l32 => k_is)
    (case c32 => k_is)
    (case k32 => k_is)
    (case z_abs => k_is)
    (case z_bool => k_is)
    (case z_enumerate => k_is)
    (case z_int => k_is)
    (case z_isinstance => k_is)
    (case z_len => k_is)
    (case z_list => k_is)
    (case z_max => k_is)
    (case z_min => k_is)
    (case z_range => k_is)
    (case z_reversed => k_is)
    (case z_sorted => k_is)
    (case z_str => k_is)
    (case z_sum => k_is)
    (case z_tuple => k_is)
    (case z_zip => k_is)
    (case m_NOUGHT => k_is)
    (case lt_NOUGHT => k_is)
    (case m_ROW => k_is)
