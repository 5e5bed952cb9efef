import PyProof.Rows.All
import HandS.ForMost
import HandS.ForExc
import HandS.TryMany
import HandS.IsInst
import HandS.Codes
import HandS.Replace
import HandS.StrMore
import HandS.ExcIs
import KE.DataCmp
import HandS.TupAny
import HandS.Wide
import PyProof.Rows.SeqMore
import HandS.Style
import PyProof.Rows.StrRev
import HandS.Defaults
import HandS.ExcOwn
import HandS.Dict
import PySem.Challenge.RW_grownbyone_k00_words
set_option Elab.async false
set_option linter.all false
set_option maxRecDepth 100000
set_option maxHeartbeats 4000000
/-! G1: plain data, a store, what they mean of the tracked heap. -/
namespace G
open PySem PySem.Spec PyProof.Rows L2

/-- plain data; ref: a place of the store -/
inductive D where
  | non
  | bl (b : Bool)
  | int (i : Int)
  | str (x : List Nat)
  | tup (xs : List D)
  | fl (xs : List D)
  | ref (l : Nat)
  | xo (a : Addr) (dd : Option Addr) (ns : List Str) (vs : List D)
abbrev tx (x : List Nat) : Str := ⟨x.toArray⟩
/-- a list that stands still -/
def FzL (K : PySem.W.Frag) (H : Hp) (a : Addr) (xs : List V) : Prop :=
  (∃ o, H a = some (.frz o (.lst xs))) ∨
    ∃ (o : Obj) (its : Array Value) (n : Nat), K.lookup a = some o ∧ o.cls = .type "list" ∧ o.dict = none ∧ o.data = .seq its n ∧ its.size ≤ sizeLine ∧ Vals xs its.toList
theorem FzL.sq {K : PySem.W.Frag} {H : Hp} {a : Addr} {xs : List V} (h : FzL K H a xs) : SqL K H a xs := by
  rcases h with ⟨o, h⟩ | h
  · exact .inl (.inr ⟨o, h⟩)
  · exact .inr h
/-- what stands at a place of the store -/
inductive O where
  | lst (xs : List D)
  | dct (kvs : List (Key × D))
abbrev Mem := List O
abbrev Rho := List (Option D)
/-- an exception: its class's name, its own fields -/
structure EX where
  cls : Str
  fs : List (Str × D)
inductive Out (α : Type) where
  | ok (a : α) (μ : Mem)
  | ex (e : EX) (μ : Mem)
  | bad
def Out.bind {α β : Type} (r : Out α) (f : α → Mem → Out β) : Out β := match r with
  | .ok a μ => f a μ
  | .ex e μ => .ex e μ
  | .bad => .bad
theorem Out.bind_ok {α β : Type} (a : α) (μ : Mem) (f : α → Mem → Out β) : (Out.ok a μ).bind f = f a μ := rfl
theorem Out.bind_ex {α β : Type} (e : EX) (μ : Mem) (f : α → Mem → Out β) : (Out.ex e μ).bind f = .ex e μ := rfl
theorem Out.bind_bad {α β : Type} (f : α → Mem → Out β) : (Out.bad).bind f = .bad := rfl
abbrev Fr0 := PySem.W.Frag

mutual
def Rv (K : Fr0) (φ : List Addr) (H : Hp) : D → V → Prop
  | .non, v => v = .non
  | .bl b, v => v = .bl b
  | .int i, v => v = .int i
  | .str x, v => v = .str (tx x)
  | .tup ds, v => ∃ a vs, v = .ref a ∧ SqT K H a vs ∧ Rvs K φ H ds vs
  | .fl ds, v => ∃ a vs, v = .ref a ∧ FzL K H a vs ∧ Rvs K φ H ds vs
  | .ref l, v => ∃ a, φ[l]? = some a ∧ v = .ref a
  | .xo a dd ns ds, v => v = .ref a ∧ ((ns = [] ∧ ds = []) ∨ ∃ d us ws, dd = some d ∧ H d = some (.xd (ns.zip us)) ∧ us.length = ns.length ∧ ws = us ∧ Rvs K φ H ds ws)
def Rvs (K : Fr0) (φ : List Addr) (H : Hp) : List D → List V → Prop
  | [], vs => vs = []
  | d :: ds, vs => ∃ v r, vs = v :: r ∧ Rv K φ H d v ∧ Rvs K φ H ds r
end
def Rkv (K : Fr0) (φ : List Addr) (H : Hp) : List (Key × D) → List (Key × V) → Prop
  | [], vs => vs = []
  | (k, d) :: ds, vs => ∃ v r, vs = (k, v) :: r ∧ Rv K φ H d v ∧ Rkv K φ H ds r
def Rfs (K : Fr0) (φ : List Addr) (H : Hp) : List (Str × D) → List (Str × V) → Prop
  | [], vs => vs = []
  | (k, d) :: ds, vs => ∃ v r, vs = (k, v) :: r ∧ Rv K φ H d v ∧ Rfs K φ H ds r

/-- the store's places are more, the rest stands -/
structure Gr (φ : List Addr) (H : Hp) (φ' : List Addr) (H' : Hp) : Prop where
  pre : ∃ t, φ' = φ ++ t ∧ ∀ a ∈ t, H a = none
  fr : ∀ a o, H a = some o → a ∉ φ → H' a = some o
  tp : ∀ a xs, H a = some (.tup xs) → H' a = some (.tup xs)
  fz : ∀ a o u, H a = some (.frz o u) → H' a = some (.frz o u)
  st : ∀ a o, H a = some o → ∃ o', H' a = some o'
  xd : ∀ a w, H a = some (.xd w) → H' a = some (.xd w)
theorem Gr.refl (φ : List Addr) (H : Hp) : Gr φ H φ H := ⟨⟨[], by simp, fun _ h => by simp at h⟩, fun _ _ h _ => h, fun _ _ h => h, fun _ _ _ h => h, fun _ o h => ⟨o, h⟩, fun _ _ h => h⟩
theorem Gr.get {φ φ' : List Addr} {H H' : Hp} (g : Gr φ H φ' H') {l : Nat} {a : Addr} (h : φ[l]? = some a) : φ'[l]? = some a := by
  obtain ⟨t, rfl, _⟩ := g.pre
  rw [List.getElem?_append_left (List.getElem?_eq_some_iff.mp h).1]
  exact h
theorem Gr.back {φ φ' : List Addr} {H H' : Hp} (g : Gr φ H φ' H') {x : Addr} (h : H' x = none) : H x = none := by
  cases e : H x with
  | none => rfl
  | some o => obtain ⟨o', e'⟩ := g.st x o e; rw [h] at e'; cases e'
theorem Gr.trans {φ φ1 φ2 : List Addr} {H H1 H2 : Hp} (a : Gr φ H φ1 H1) (b : Gr φ1 H1 φ2 H2) : Gr φ H φ2 H2 := by
  obtain ⟨t, rfl, ht⟩ := a.pre
  obtain ⟨u, rfl, hu⟩ := b.pre
  refine ⟨⟨t ++ u, by simp, fun x hx => ?_⟩, fun x o e hx => ?_, fun x xs e => b.tp x xs (a.tp x xs e), fun x o u' e => b.fz x o u' (a.fz x o u' e), fun x o e => ?_, fun x w e => b.xd x w (a.xd x w e)⟩
  · rcases List.mem_append.mp hx with h | h
    · exact ht x h
    · exact a.back (hu x h)
  · have e1 := a.fr x o e hx
    refine b.fr x o e1 fun hm => ?_
    rcases List.mem_append.mp hm with h | h
    · exact hx h
    · rw [ht x h] at e; cases e
  · obtain ⟨o', e'⟩ := a.st x o e
    exact b.st x o' e'

section
variable {K : Fr0} {φ φ' : List Addr} {H H' : Hp}
/-- what stays true of data leans on no more than this -/
structure Gm (φ : List Addr) (H : Hp) (φ' : List Addr) (H' : Hp) : Prop where
  get : ∀ {l : Nat} {a : Addr}, φ[l]? = some a → φ'[l]? = some a
  tp : ∀ a xs, H a = some (.tup xs) → H' a = some (.tup xs)
  fz : ∀ a o u, H a = some (.frz o u) → H' a = some (.frz o u)
  xd : ∀ a w, H a = some (.xd w) → H' a = some (.xd w)
theorem Gr.gm (g : Gr φ H φ' H') : Gm φ H φ' H' := ⟨fun h => g.get h, g.tp, g.fz, g.xd⟩
theorem Gm.seqT (g : Gm φ H φ' H') {a : Addr} {vs : List V} (h : SqT K H a vs) : SqT K H' a vs := by
  rcases h with (h | ⟨o, h⟩) | h
  · exact .inl (.inl (g.tp _ _ h))
  · exact .inl (.inr ⟨o, g.fz _ _ _ h⟩)
  · exact .inr h
theorem Gm.fzl (g : Gm φ H φ' H') {a : Addr} {vs : List V} (h : FzL K H a vs) : FzL K H' a vs := by
  rcases h with ⟨o, h⟩ | h
  · exact .inl ⟨o, g.fz _ _ _ h⟩
  · exact .inr h
theorem Gr.seqT (g : Gr φ H φ' H') {a : Addr} {vs : List V} (h : SqT K H a vs) : SqT K H' a vs := g.gm.seqT h
theorem Gr.fzl (g : Gr φ H φ' H') {a : Addr} {vs : List V} (h : FzL K H a vs) : FzL K H' a vs := g.gm.fzl h
mutual
theorem Rv.monoM (g : Gm φ H φ' H') : ∀ {d : D} {v : V}, Rv K φ H d v → Rv K φ' H' d v
  | .non, _, h => h
  | .bl _, _, h => h
  | .int _, _, h => h
  | .str _, _, h => h
  | .tup ds, _, h => by
    obtain ⟨a, vs, e, hs, hr⟩ := h
    exact ⟨a, vs, e, g.seqT hs, Rvs.monoM g hr⟩
  | .fl ds, _, h => by
    obtain ⟨a, vs, e, hs, hr⟩ := h
    exact ⟨a, vs, e, g.fzl hs, Rvs.monoM g hr⟩
  | .ref l, _, h => by
    obtain ⟨a, e, hv⟩ := h
    exact ⟨a, g.get e, hv⟩
  | .xo _ _ _ _, _, h => by
    obtain ⟨e, h⟩ := h
    refine ⟨e, h.imp id fun ⟨d, us, ws, e1, e2, e3, e4, e5⟩ => ⟨d, us, ws, e1, g.xd _ _ e2, e3, e4, Rvs.monoM g e5⟩⟩
theorem Rvs.monoM (g : Gm φ H φ' H') : ∀ {ds : List D} {vs : List V}, Rvs K φ H ds vs → Rvs K φ' H' ds vs
  | [], _, h => h
  | _ :: _, _, h => by
    obtain ⟨v, r, e, h1, h2⟩ := h
    exact ⟨v, r, e, Rv.monoM g h1, Rvs.monoM g h2⟩
end
theorem Rkv.monoM (g : Gm φ H φ' H') : ∀ {ds : List (Key × D)} {vs : List (Key × V)}, Rkv K φ H ds vs → Rkv K φ' H' ds vs
  | [], _, h => h
  | (_, _) :: _, _, h => by
    obtain ⟨v, r, e, h1, h2⟩ := h
    exact ⟨v, r, e, Rv.monoM g h1, Rkv.monoM g h2⟩
theorem Rfs.monoM (g : Gm φ H φ' H') : ∀ {ds : List (Str × D)} {vs : List (Str × V)}, Rfs K φ H ds vs → Rfs K φ' H' ds vs
  | [], _, h => h
  | (_, _) :: _, _, h => by
    obtain ⟨v, r, e, h1, h2⟩ := h
    exact ⟨v, r, e, Rv.monoM g h1, Rfs.monoM g h2⟩
theorem Rv.mono (g : Gr φ H φ' H') {d : D} {v : V} (h : Rv K φ H d v) : Rv K φ' H' d v := Rv.monoM g.gm h
theorem Rvs.mono (g : Gr φ H φ' H') {ds : List D} {vs : List V} (h : Rvs K φ H ds vs) : Rvs K φ' H' ds vs := Rvs.monoM g.gm h
theorem Rkv.mono (g : Gr φ H φ' H') {ds : List (Key × D)} {vs : List (Key × V)} (h : Rkv K φ H ds vs) : Rkv K φ' H' ds vs := Rkv.monoM g.gm h
theorem Rfs.mono (g : Gr φ H φ' H') {ds : List (Str × D)} {vs : List (Str × V)} (h : Rfs K φ H ds vs) : Rfs K φ' H' ds vs := Rfs.monoM g.gm h
theorem Rvs.length : ∀ {ds : List D} {vs : List V}, Rvs K φ H ds vs → vs.length = ds.length
  | [], _, h => by cases (show _ = [] from h); rfl
  | _ :: _, _, h => by
    obtain ⟨v, r, rfl, _, h2⟩ := h
    simp [Rvs.length h2]
theorem Rvs.get : ∀ {ds : List D} {vs : List V} {i : Nat} {d : D}, Rvs K φ H ds vs → ds[i]? = some d → ∃ v, vs[i]? = some v ∧ Rv K φ H d v
  | [], _, _, _, _, e => by simp at e
  | _ :: _, _, 0, _, h, e => by
    obtain ⟨v, r, rfl, h1, _⟩ := h
    simp at e; subst e
    exact ⟨v, rfl, h1⟩
  | _ :: _, _, i + 1, _, h, e => by
    obtain ⟨v, r, rfl, _, h2⟩ := h
    obtain ⟨v', e', h'⟩ := Rvs.get (i := i) h2 (by simpa using e)
    exact ⟨v', by simpa using e', h'⟩
theorem Rvs.append : ∀ {ds es : List D} {vs us : List V}, Rvs K φ H ds vs → Rvs K φ H es us → Rvs K φ H (ds ++ es) (vs ++ us)
  | [], _, _, _, h, h' => by cases (show _ = [] from h); exact h'
  | _ :: _, _, _, _, h, h' => by
    obtain ⟨v, r, rfl, h1, h2⟩ := h
    exact ⟨v, r ++ _, rfl, h1, Rvs.append h2 h'⟩
theorem Rvs.take : ∀ {ds : List D} {vs : List V} (n : Nat), Rvs K φ H ds vs → Rvs K φ H (ds.take n) (vs.take n)
  | _, _, 0, _ => by simp; rfl
  | [], _, n + 1, h => by cases (show _ = [] from h); rfl
  | _ :: _, _, n + 1, h => by
    obtain ⟨v, r, rfl, h1, h2⟩ := h
    exact ⟨v, r.take n, rfl, h1, Rvs.take n h2⟩
theorem Rvs.drop : ∀ {ds : List D} {vs : List V} (n : Nat), Rvs K φ H ds vs → Rvs K φ H (ds.drop n) (vs.drop n)
  | _, _, 0, h => by simpa using h
  | [], _, n + 1, h => by cases (show _ = [] from h); rfl
  | _ :: _, _, n + 1, h => by
    obtain ⟨v, r, rfl, h1, h2⟩ := h
    simpa using Rvs.drop n h2
theorem Rvs.set : ∀ {ds : List D} {vs : List V} {d : D} {v : V} (i : Nat), Rvs K φ H ds vs → Rv K φ H d v → Rvs K φ H (ds.set i d) (vs.set i v)
  | [], _, _, _, _, h, _ => by cases (show _ = [] from h); rfl
  | _ :: _, _, _, _, 0, h, hd => by
    obtain ⟨v, r, rfl, h1, h2⟩ := h
    exact ⟨_, r, rfl, hd, h2⟩
  | _ :: _, _, _, _, i + 1, h, hd => by
    obtain ⟨v, r, rfl, h1, h2⟩ := h
    exact ⟨v, r.set i _, rfl, h1, Rvs.set i h2 hd⟩
theorem Rvs.dropLast {ds : List D} {vs : List V} (h : Rvs K φ H ds vs) : Rvs K φ H ds.dropLast vs.dropLast := by
  rw [List.dropLast_eq_take, List.dropLast_eq_take, h.length]
  exact h.take _
theorem Rvs.reverse : ∀ {ds : List D} {vs : List V}, Rvs K φ H ds vs → Rvs K φ H ds.reverse vs.reverse
  | [], _, h => by cases (show _ = [] from h); rfl
  | _ :: _, _, h => by
    obtain ⟨v, r, rfl, h1, h2⟩ := h
    simp only [List.reverse_cons]
    exact Rvs.append (Rvs.reverse h2) ⟨v, [], rfl, h1, rfl⟩
theorem Rvs.one {d : D} {v : V} (h : Rv K φ H d v) : Rvs K φ H [d] [v] := ⟨v, [], rfl, h, rfl⟩

def Ro (K : Fr0) (φ : List Addr) (H : Hp) (a : Addr) : O → Prop
  | .lst ds => ∃ vs, H a = some (.lst vs) ∧ Rvs K φ H ds vs
  | .dct kvs => ∃ ws, H a = some (.dK ws) ∧ Rkv K φ H kvs ws
structure Sm (K : Fr0) (φ : List Addr) (H : Hp) (μ : Mem) : Prop where
  len : φ.length = μ.length
  nd : φ.Nodup
  ob : ∀ (l : Nat) (a : Addr) (o : O), φ[l]? = some a → μ[l]? = some o → Ro K φ H a o
theorem Ro.mono (g : Gr φ H φ' H') {a : Addr} {o : O} (h : Ro K φ H a o) (e : H' a = H a) : Ro K φ' H' a o := by
  cases o with
  | lst ds => obtain ⟨vs, e1, r⟩ := h; exact ⟨vs, e.trans e1, r.mono g⟩
  | dct kvs => obtain ⟨vs, e1, r⟩ := h; exact ⟨vs, e.trans e1, r.mono g⟩
theorem Ro.monoM (g : Gm φ H φ' H') {a : Addr} {o : O} (h : Ro K φ H a o) (e : H' a = H a) : Ro K φ' H' a o := by
  cases o with
  | lst ds => obtain ⟨vs, e1, r⟩ := h; exact ⟨vs, e.trans e1, r.monoM g⟩
  | dct kvs => obtain ⟨vs, e1, r⟩ := h; exact ⟨vs, e.trans e1, r.monoM g⟩
theorem Ro.has {a : Addr} {o : O} (h : Ro K φ H a o) : ∃ u, H a = some u ∧ (∀ xs, u ≠ .tup xs) := by
  cases o with
  | lst ds => obtain ⟨vs, e1, r⟩ := h; exact ⟨_, e1, fun _ z => by cases z⟩
  | dct kvs => obtain ⟨vs, e1, r⟩ := h; exact ⟨_, e1, fun _ z => by cases z⟩
theorem Sm.at {μ : Mem} (s : Sm K φ H μ) {l : Nat} {o : O} (h : μ[l]? = some o) : ∃ a, φ[l]? = some a ∧ Ro K φ H a o := by
  have hl : l < φ.length := by rw [s.len]; exact (List.getElem?_eq_some_iff.mp h).1
  exact ⟨φ[l], List.getElem?_eq_getElem hl, s.ob l _ o (List.getElem?_eq_getElem hl) h⟩
theorem Sm.has {μ : Mem} (s : Sm K φ H μ) {a : Addr} (h : a ∈ φ) : ∃ u, H a = some u ∧ (∀ xs, u ≠ .tup xs) := by
  obtain ⟨l, hl, e⟩ := List.mem_iff_getElem.mp h
  have hm : l < μ.length := by rw [← s.len]; exact hl
  exact (s.ob l a μ[l] (by rw [List.getElem?_eq_getElem hl, e]) (List.getElem?_eq_getElem hm)).has
theorem Sm.free {μ : Mem} (s : Sm K φ H μ) {p : Addr} (h : H p = none) : p ∉ φ := fun hm => by
  obtain ⟨u, e, _⟩ := s.has hm
  rw [h] at e; cases e
theorem Sm.inj {μ : Mem} (s : Sm K φ H μ) {i j : Nat} {a : Addr} (h : φ[i]? = some a) (h' : φ[j]? = some a) : i = j := by
  obtain ⟨h1, e1⟩ := List.getElem?_eq_some_iff.mp h
  obtain ⟨h2, e2⟩ := List.getElem?_eq_some_iff.mp h'
  exact (List.getElem_inj s.nd).mp (e1.trans e2.symm)
/-- something new that the store does not hold -/
theorem Gr.new {p : Addr} {o : HO} (h : H p = none) : Gr φ H φ (upd H p o) :=
  ⟨⟨[], by simp, fun _ z => by simp at z⟩, fun a u e _ => by rw [upd_ne (ne_of_none e h)]; exact e, fun a u e => by rw [upd_ne (ne_of_none e h)]; exact e, fun a u w e => by rw [upd_ne (ne_of_none e h)]; exact e, fun a u e => ⟨u, by rw [upd_ne (ne_of_none e h)]; exact e⟩, fun a w e => by rw [upd_ne (ne_of_none e h)]; exact e⟩
theorem Sm.new {μ : Mem} (s : Sm K φ H μ) {p : Addr} {o : HO} (h : H p = none) : Sm K φ (upd H p o) μ :=
  ⟨s.len, s.nd, fun l a u e1 e2 => (s.ob l a u e1 e2).mono (Gr.new h) (upd_ne fun z => s.free h (by rw [← z]; exact List.mem_of_getElem? e1))⟩
/-- a new place of the store -/
theorem Gr.alloc {p : Addr} {o : HO} (h : H p = none) : Gr φ H (φ ++ [p]) (upd H p o) :=
  ⟨⟨[p], rfl, fun a z => by simp at z; rw [z]; exact h⟩, fun a u e _ => by rw [upd_ne (ne_of_none e h)]; exact e, fun a u e => by rw [upd_ne (ne_of_none e h)]; exact e, fun a u w e => by rw [upd_ne (ne_of_none e h)]; exact e, fun a u e => ⟨u, by rw [upd_ne (ne_of_none e h)]; exact e⟩, fun a w e => by rw [upd_ne (ne_of_none e h)]; exact e⟩
theorem Sm.alloc {μ : Mem} (s : Sm K φ H μ) {p : Addr} {o : HO} {u : O} (h : H p = none) (hr : Ro K (φ ++ [p]) (upd H p o) p u) : Sm K (φ ++ [p]) (upd H p o) (μ ++ [u]) := by
  refine ⟨by simp [s.len], ?_, fun l a v e1 e2 => ?_⟩
  · rw [List.nodup_append]
    refine ⟨s.nd, by simp, fun a ha b hb => ?_⟩
    simp at hb
    rw [hb]
    exact fun z => s.free h (by rw [← z]; exact ha)
  · by_cases hl : l < φ.length
    · rw [List.getElem?_append_left hl] at e1
      rw [List.getElem?_append_left (by rw [← s.len]; exact hl)] at e2
      exact (s.ob l a v e1 e2).mono (Gr.alloc h) (upd_ne fun z => s.free h (by rw [← z]; exact List.mem_of_getElem? e1))
    · have h1 : l < (φ ++ [p]).length := (List.getElem?_eq_some_iff.mp e1).1
      have e : l = φ.length := by simp at h1; omega
      subst e
      rw [List.getElem?_append_right (Nat.le_refl _)] at e1
      rw [s.len, List.getElem?_append_right (Nat.le_refl _)] at e2
      simp at e1 e2
      subst e1; subst e2
      exact hr
/-- an object outside the store gets into it -/
theorem Gr.adopt {p : Addr} (φ0 : List Addr) {H0 : Hp} (g : Gr φ0 H0 φ H) (h : H0 p = none) : Gr φ0 H0 (φ ++ [p]) H := by
  obtain ⟨t, rfl, ht⟩ := g.pre
  exact ⟨⟨t ++ [p], by simp, fun a ha => by
    rcases List.mem_append.mp ha with z | z
    · exact ht a z
    · simp at z; rw [z]; exact h⟩, g.fr, g.tp, g.fz, g.st, g.xd⟩
/-- a place is written -/
theorem Gr.write {l : Nat} {a : Addr} {o o' : HO} (hφ : φ[l]? = some a) (h : H a = some o) (ht : ∀ xs, o ≠ .tup xs) (hf : ∀ ob u, o ≠ .frz ob u) (hx : ∀ w, o ≠ .xd w := by intro w z; cases z) : Gr φ H φ (upd H a o') := by
  refine ⟨⟨[], by simp, fun _ z => by simp at z⟩, fun b u e hb => ?_, fun b u e => ?_, fun b u w e => ?_, fun b u e => ?_, fun b u e => ?_⟩
  · rw [upd_ne fun z => hb (by rw [z]; exact List.mem_of_getElem? hφ)]; exact e
  · rw [upd_ne fun z => by subst z; rw [h] at e; exact ht _ (Option.some.inj e)]; exact e
  · rw [upd_ne fun z => by subst z; rw [h] at e; exact hf _ _ (Option.some.inj e)]; exact e
  · by_cases z : b = a
    · exact ⟨o', by rw [z, upd_same]⟩
    · exact ⟨u, by rw [upd_ne z]; exact e⟩
  · rw [upd_ne fun z => by subst z; rw [h] at e; exact hx _ (Option.some.inj e)]; exact e
theorem Sm.write {μ : Mem} (s : Sm K φ H μ) {l : Nat} {a : Addr} {o o' : HO} {u : O} (hφ : φ[l]? = some a) (h : H a = some o) (ht : ∀ xs, o ≠ .tup xs) (hf : ∀ ob u, o ≠ .frz ob u)
    (hr : Ro K φ (upd H a o') a u) (hx : ∀ w, o ≠ .xd w := by intro w z; cases z) : Sm K φ (upd H a o') (μ.set l u) := by
  have g : Gr φ H φ (upd H a o') := Gr.write hφ h ht hf hx
  refine ⟨by simp [s.len], s.nd, fun k b v e1 e2 => ?_⟩
  by_cases z : k = l
  · subst z
    rw [hφ] at e1; cases e1
    have hk : k < μ.length := by rw [← s.len]; exact (List.getElem?_eq_some_iff.mp hφ).1
    rw [List.getElem?_set_self hk] at e2
    cases e2
    exact hr
  · rw [List.getElem?_set_ne (Ne.symm z)] at e2
    exact (s.ob k b v e1 e2).mono g (upd_ne fun q => z (s.inj e1 (q ▸ hφ)))
/-- a list that the store does not hold is changed -/
theorem Gm.poke {p : Addr} {xs ys : List V} (h : H p = some (.lst xs)) : Gm φ H φ (upd H p (.lst ys)) :=
  ⟨fun e => e, fun a u e => by rw [upd_ne (ne_of e h (fun z => by cases z))]; exact e, fun a o u e => by rw [upd_ne (ne_of e h (fun z => by cases z))]; exact e, fun a u e => by rw [upd_ne (ne_of e h (fun z => by cases z))]; exact e⟩
theorem Sm.poke {μ : Mem} (s : Sm K φ H μ) {p : Addr} {xs ys : List V} (h : H p = some (.lst xs)) (hp : p ∉ φ) : Sm K φ (upd H p (.lst ys)) μ :=
  ⟨s.len, s.nd, fun l a u e1 e2 => (s.ob l a u e1 e2).monoM (Gm.poke h) (upd_ne fun z => hp (by rw [← z]; exact List.mem_of_getElem? e1))⟩
theorem Gr.poke {φ0 : List Addr} {H0 : Hp} (g : Gr φ0 H0 φ H) {p : Addr} {o : HO} (h : H0 p = none) : Gr φ0 H0 φ (upd H p o) :=
  ⟨g.pre, fun a u e n => by rw [upd_ne (ne_of_none e h)]; exact g.fr a u e n, fun a u e => by rw [upd_ne (ne_of_none e h)]; exact g.tp a u e, fun a u w e => by rw [upd_ne (ne_of_none e h)]; exact g.fz a u w e, fun a u e => by
    obtain ⟨w, hw⟩ := g.st a u e
    exact ⟨w, by rw [upd_ne (ne_of_none e h)]; exact hw⟩, fun a w e => by rw [upd_ne (ne_of_none e h)]; exact g.xd a w e⟩
theorem Sm.adopt {μ : Mem} (s : Sm K φ H μ) {p : Addr} {xs : List V} {ds : List D} (h : H p = some (.lst xs)) (hp : p ∉ φ) (r : Rvs K φ H ds xs) : Sm K (φ ++ [p]) H (μ ++ [.lst ds]) := by
  have g : Gm φ H (φ ++ [p]) H := ⟨fun {l a} e => by rw [List.getElem?_append_left (List.getElem?_eq_some_iff.mp e).1]; exact e, fun _ _ e => e, fun _ _ _ e => e, fun _ _ e => e⟩
  refine ⟨by simp [s.len], ?_, fun l a v e1 e2 => ?_⟩
  · rw [List.nodup_append]
    refine ⟨s.nd, by simp, fun a ha b hb => ?_⟩
    simp at hb
    rw [hb]
    exact fun z => hp (by rw [← z]; exact ha)
  · by_cases hl : l < φ.length
    · rw [List.getElem?_append_left hl] at e1
      rw [List.getElem?_append_left (by rw [← s.len]; exact hl)] at e2
      exact (s.ob l a v e1 e2).monoM g rfl
    · have h1 : l < (φ ++ [p]).length := (List.getElem?_eq_some_iff.mp e1).1
      have e : l = φ.length := by simp at h1; omega
      subst e
      rw [List.getElem?_append_right (Nat.le_refl _)] at e1
      rw [s.len, List.getElem?_append_right (Nat.le_refl _)] at e2
      simp at e1 e2
      subst e1; subst e2
      exact ⟨xs, h, r.monoM g⟩
/-- the slots -/
structure Vs (K : Fr0) (φ : List Addr) (H : Hp) (ρ : Rho) (σ : L2.St) : Prop where
  len : ρ.length = σ.length
  at' : ∀ (i : Nat) (d : D), ρ[i]? = some (some d) → ∃ v, σ[i]? = some (some v) ∧ Rv K φ H d v
theorem Vs.mono {ρ : Rho} {σ : L2.St} (g : Gr φ H φ' H') (h : Vs K φ H ρ σ) : Vs K φ' H' ρ σ :=
  ⟨h.len, fun i d e => by obtain ⟨v, e', r⟩ := h.at' i d e; exact ⟨v, e', r.mono g⟩⟩
theorem Vs.monoM {ρ : Rho} {σ : L2.St} (g : Gm φ H φ' H') (h : Vs K φ H ρ σ) : Vs K φ' H' ρ σ :=
  ⟨h.len, fun i d e => by obtain ⟨v, e', r⟩ := h.at' i d e; exact ⟨v, e', r.monoM g⟩⟩
theorem Vs.set {ρ : Rho} {σ : L2.St} {d : D} {v : V} (i : Nat) (h : Vs K φ H ρ σ) (r : Rv K φ H d v) : Vs K φ H (ρ.set i (some d)) (σ.set i (some v)) := by
  refine ⟨by simp [h.len], fun j e ej => ?_⟩
  by_cases z : j = i
  · subst z
    have hj : j < ρ.length := by
      have := (List.getElem?_eq_some_iff.mp ej).1
      simpa using this
    rw [List.getElem?_set_self hj] at ej
    cases ej
    exact ⟨v, List.getElem?_set_self (by rw [← h.len]; exact hj), r⟩
  · rw [List.getElem?_set_ne (Ne.symm z)] at ej
    rw [List.getElem?_set_ne (Ne.symm z)]
    exact h.at' j e ej
/-- slots forgotten -/
@[simp] def wipeR (ρ : Rho) : List Nat → Rho
  | [] => ρ
  | i :: r => (wipeR ρ r).set i none
theorem Vs.wipe {ρ : Rho} {σ : L2.St} (h : Vs K φ H ρ σ) : ∀ ws : List Nat, Vs K φ H (wipeR ρ ws) σ
  | [] => h
  | i :: r => by
    have ih := h.wipe r
    refine ⟨by simp [wipeR, ih.len], fun j e ej => ?_⟩
    unfold wipeR at ej
    by_cases z : j = i
    · subst z
      by_cases hj : j < (wipeR ρ r).length
      · rw [List.getElem?_set_self hj] at ej; cases ej
      · rw [List.getElem?_eq_none (by simpa using hj)] at ej; cases ej
    · rw [List.getElem?_set_ne (Ne.symm z)] at ej
      exact ih.at' j e ej
theorem Vs.wipe2 {ρ : Rho} {σ : L2.St} (h : Vs K φ H ρ σ) : ∀ ws : List Nat, Vs K φ H (wipeR ρ ws) (L2.wipe σ ws)
  | [] => h
  | i :: r => by
    have ih := h.wipe2 r
    refine ⟨by simp [wipeR, L2.wipe, ih.len], fun j e ej => ?_⟩
    unfold wipeR at ej
    unfold L2.wipe
    by_cases z : j = i
    · subst z
      by_cases hj : j < (wipeR ρ r).length
      · rw [List.getElem?_set_self hj] at ej; cases ej
      · rw [List.getElem?_eq_none (by simpa using hj)] at ej; cases ej
    · rw [List.getElem?_set_ne (Ne.symm z)] at ej
      rw [List.getElem?_set_ne (Ne.symm z)]
      exact ih.at' j e ej
end

/-! ### readings -/
/-- an exception is what e says -/
def Rx (K : Fr0) (mg : Str → Option Value) (φ : List Addr) (H : Hp) (e : EX) (c : Value) (dd : Option Addr) : Prop :=
  mg e.cls = some c ∧ match e.fs with
    | [] => dd = none
    | f :: r => ∃ d ws, dd = some d ∧ H d = some (.xd ws) ∧ Rfs K φ H (f :: r) ws
section
variable {α β : Type}
/-- what comes of r is wanted -/
def Pg (K : Fr0) (mg : Str → Option Value) (W : WX) (σ : L2.St) (R : List Addr → Hp → α → β → Prop) (φ : List Addr) (H : Hp) (r : Out α) (Q : β → Hp → Prop) : Prop := match r with
  | .ok d μ => ∀ (v : β) (H' : Hp) (φ' : List Addr), Gr φ H φ' H' → R φ' H' d v → Sm K φ' H' μ → Q v H'
  | .ex e μ => ∀ (H' : Hp) (φ' : List Addr) (c : Value) (dd : Option Addr), Gr φ H φ' H' → Sm K φ' H' μ → Rx K mg φ' H' e c dd → W c dd σ H'
  | .bad => False
theorem Pg.grow {K : Fr0} {mg : Str → Option Value} {W : WX} {σ : L2.St} {R : List Addr → Hp → α → β → Prop} {φ φ' : List Addr} {H H' : Hp} {r : Out α} {Q : β → Hp → Prop} (g : Gr φ H φ' H') (h : Pg K mg W σ R φ H r Q) : Pg K mg W σ R φ' H' r Q := by
  cases r with
  | ok d μ => exact fun v H2 φ2 g2 => h v H2 φ2 (g.trans g2)
  | ex e μ => exact fun H2 φ2 c dd g2 => h H2 φ2 c dd (g.trans g2)
  | bad => exact h
def tR (K : Fr0) (mg : Str → Option Value) (W : WX) (R : List Addr → Hp → α → β → Prop) (f : Rho → Mem → Out α) : L2.St → Hp → (β → Hp → Prop) → Prop :=
  fun σ H Q => ∃ φ μ ρ, Vs K φ H ρ σ ∧ Sm K φ H μ ∧ Pg K mg W σ R φ H (f ρ μ) Q
/-- behind a first part: a (x in the heap) has come -/
def tAf (K : Fr0) (mg : Str → Option Value) (W : WX) (R : List Addr → Hp → α → β → Prop) {γ δ : Type} (R' : List Addr → Hp → γ → δ → Prop) (g : Rho → α → Mem → Out γ) (Q : δ → Hp → Prop) (σ : L2.St) (x : β) (H1 : Hp) : Prop :=
  ∃ a φ μ ρ, Vs K φ H1 ρ σ ∧ Sm K φ H1 μ ∧ R φ H1 a x ∧ Pg K mg W σ R' φ H1 (g ρ a μ) Q
theorem tR_bind {K : Fr0} {mg : Str → Option Value} {W : WX} {R : List Addr → Hp → α → β → Prop} {γ δ : Type} {R' : List Addr → Hp → γ → δ → Prop} {f : Rho → Mem → Out α} {g : Rho → α → Mem → Out γ} {σ : L2.St} {H : Hp} {Q : δ → Hp → Prop}
    (h : tR K mg W R' (fun ρ μ => (f ρ μ).bind fun a μ1 => g ρ a μ1) σ H Q) : tR K mg W R f σ H (fun x H1 => tAf K mg W R R' g Q σ x H1) := by
  obtain ⟨φ, μ, ρ, hv, hs, hp⟩ := h
  refine ⟨φ, μ, ρ, hv, hs, ?_⟩
  have hp : Pg K mg W σ R' φ H ((f ρ μ).bind fun a μ1 => g ρ a μ1) Q := hp
  cases e : f ρ μ with
  | ok a μ1 =>
    rw [e] at hp
    exact fun v H1 φ1 g1 r1 s1 => ⟨a, φ1, μ1, ρ, hv.mono g1, s1, r1, Pg.grow g1 hp⟩
  | ex e' μ1 =>
    rw [e] at hp
    exact hp
  | bad =>
    rw [e] at hp
    exact hp
end

abbrev Ev := Rho → Mem → Out D
abbrev Tv := Rho → Mem → Out Bool
abbrev Av := Rho → Mem → Out (List D)
def Req (_ : List Addr) (_ : Hp) (a b : Bool) : Prop := a = b
def SE (X : Cx) (W : WX) (e : Expr) (f : Ev) : Prop := PE X e (tR X.K X.mg W (Rv X.K) f)
def ST (X : Cx) (W : WX) (e : Expr) (f : Tv) : Prop := PT X e (tR X.K X.mg W Req f)
def SW (X : Cx) (W : WX) (e : Expr) (f : Tv) : Prop := PW X e (tR X.K X.mg W Req f)
def SA (X : Cx) (W : WX) (es : List Expr) (f : Av) : Prop := PA X es (tR X.K X.mg W (Rvs X.K) f)
theorem PE.imp {X : Cx} {e : Expr} {t u : TE} (h : PE X e t) (i : ∀ σ H Q, u σ H Q → t σ H Q) : PE X e u := ⟨fun pins s σ H Q I q => h.run pins s σ H Q I (i σ H Q q)⟩
theorem PT.imp {X : Cx} {e : Expr} {t u : TT} (h : PT X e t) (i : ∀ σ H Q, u σ H Q → t σ H Q) : PT X e u := ⟨fun pins s σ H Q I q => h.run pins s σ H Q I (i σ H Q q)⟩
theorem PW.imp {X : Cx} {e : Expr} {t u : TT} (h : PW X e t) (i : ∀ σ H Q, u σ H Q → t σ H Q) : PW X e u := ⟨fun wh pins s σ H Q I q => h.run wh pins s σ H Q I (i σ H Q q)⟩
theorem PA.imp {X : Cx} {e : List Expr} {t u : TA} (h : PA X e t) (i : ∀ σ H Q, u σ H Q → t σ H Q) : PA X e u := ⟨fun p pins s σ H Q I q => h.run p pins s σ H Q I (i σ H Q q)⟩
theorem PS.imp {X : Cx} {e : Stmt} {t u : TS} (h : PS X e t) (i : ∀ D σ H, u D σ H → t D σ H) : PS X e u := ⟨fun pins s σ H D I q => h.run pins s σ H D I (i D σ H q)⟩
theorem PSs.imp {X : Cx} {e : List Stmt} {t u : TS} (h : PSs X e t) (i : ∀ D σ H, u D σ H → t D σ H) : PSs X e u := ⟨fun pins s σ H D I q => h.run pins s σ H D I (i D σ H q)⟩

/-! ### statements -/
inductive SR where
  | nx (ρ : Rho) (μ : Mem)
  | rt (d : D) (μ : Mem)
  | bk (ρ : Rho) (μ : Mem)
  | ct (ρ : Rho) (μ : Mem)
  | ex (e : EX) (ρ : Rho) (μ : Mem)
  | bad
abbrev Sd := Rho → Mem → SR
def Ps (K : Fr0) (mg : Str → Option Value) (W : WX) (φ : List Addr) (H : Hp) (r : SR) (E : Ends) : Prop := match r with
  | .nx ρ μ => ∀ (σ : L2.St) (H' : Hp) (φ' : List Addr), Gr φ H φ' H' → Vs K φ' H' ρ σ → Sm K φ' H' μ → E.nx σ H'
  | .rt d μ => ∀ (v : V) (H' : Hp) (φ' : List Addr), Gr φ H φ' H' → Rv K φ' H' d v → Sm K φ' H' μ → E.rt v H'
  | .bk ρ μ => ∀ (σ : L2.St) (H' : Hp) (φ' : List Addr), Gr φ H φ' H' → Vs K φ' H' ρ σ → Sm K φ' H' μ → E.bk σ H'
  | .ct ρ μ => ∀ (σ : L2.St) (H' : Hp) (φ' : List Addr), Gr φ H φ' H' → Vs K φ' H' ρ σ → Sm K φ' H' μ → E.ct σ H'
  | .ex e ρ μ => ∀ (σ : L2.St) (H' : Hp) (φ' : List Addr) (c : Value) (dd : Option Addr), Gr φ H φ' H' → Vs K φ' H' ρ σ → Sm K φ' H' μ → Rx K mg φ' H' e c dd → W c dd σ H'
  | .bad => False
theorem Ps.grow {K : Fr0} {mg : Str → Option Value} {W : WX} {φ φ' : List Addr} {H H' : Hp} {r : SR} {E : Ends} (g : Gr φ H φ' H') (h : Ps K mg W φ H r E) : Ps K mg W φ' H' r E := by
  cases r with
  | nx ρ μ => exact fun σ H2 φ2 g2 => h σ H2 φ2 (g.trans g2)
  | rt d μ => exact fun v H2 φ2 g2 => h v H2 φ2 (g.trans g2)
  | bk ρ μ => exact fun σ H2 φ2 g2 => h σ H2 φ2 (g.trans g2)
  | ct ρ μ => exact fun σ H2 φ2 g2 => h σ H2 φ2 (g.trans g2)
  | ex e ρ μ => exact fun σ H2 φ2 c dd g2 => h σ H2 φ2 c dd (g.trans g2)
  | bad => exact h
def tS (K : Fr0) (mg : Str → Option Value) (W : WX) (f : Sd) : TS := fun E σ H => ∃ φ μ ρ, Vs K φ H ρ σ ∧ Sm K φ H μ ∧ Ps K mg W φ H (f ρ μ) E
def SS (X : Cx) (W : WX) (st : Stmt) (f : Sd) : Prop := PS X st (tS X.K X.mg W f)
def SSs (X : Cx) (W : WX) (st : List Stmt) (f : Sd) : Prop := PSs X st (tS X.K X.mg W f)
/-- an expression, then a statement's end -/
def Out.thn {α : Type} (r : Out α) (ρ : Rho) (f : α → Mem → SR) : SR := match r with
  | .ok a μ => f a μ
  | .ex e μ => .ex e ρ μ
  | .bad => .bad
def tSf {α β : Type} (K : Fr0) (mg : Str → Option Value) (W : WX) (R : List Addr → Hp → α → β → Prop) (g : Rho → α → Mem → SR) (E : Ends) (σ : L2.St) (x : β) (H1 : Hp) : Prop :=
  ∃ a φ μ ρ, Vs K φ H1 ρ σ ∧ Sm K φ H1 μ ∧ R φ H1 a x ∧ Ps K mg W φ H1 (g ρ a μ) E
theorem tS_thn {α β : Type} {K : Fr0} {mg : Str → Option Value} {W : WX} {R : List Addr → Hp → α → β → Prop} {f : Rho → Mem → Out α} {g : Rho → α → Mem → SR} {σ : L2.St} {H : Hp} {E : Ends}
    (h : tS K mg W (fun ρ μ => (f ρ μ).thn ρ fun a μ1 => g ρ a μ1) E σ H) : tR K mg W R f σ H (fun x H1 => tSf K mg W R g E σ x H1) := by
  obtain ⟨φ, μ, ρ, hv, hs, hp⟩ := h
  refine ⟨φ, μ, ρ, hv, hs, ?_⟩
  have hp : Ps K mg W φ H ((f ρ μ).thn ρ fun a μ1 => g ρ a μ1) E := hp
  cases e : f ρ μ with
  | ok a μ1 =>
    rw [e] at hp
    exact fun v H1 φ1 g1 r1 s1 => ⟨a, φ1, μ1, ρ, hv.mono g1, s1, r1, Ps.grow g1 hp⟩
  | ex e' μ1 =>
    rw [e] at hp
    exact fun H' φ' c dd g1 s1 rx => hp σ H' φ' c dd g1 (hv.mono g1) s1 rx
  | bad =>
    rw [e] at hp
    exact hp
end G

/-! G2: expressions -/
namespace G
open PySem PySem.Spec PyProof.Rows L2

section
variable {α β γ δ : Type} {K : Fr0} {mg : Str → Option Value} {W : WX} {σ : L2.St} {R : List Addr → Hp → α → β → Prop} {R' : List Addr → Hp → γ → δ → Prop} {φ : List Addr} {H : Hp}
theorem Pg.imp {r : Out α} {Q Q' : β → Hp → Prop} (h : Pg K mg W σ R φ H r Q) (i : ∀ v H', Q v H' → Q' v H') : Pg K mg W σ R φ H r Q' := by
  cases r with
  | ok d μ => exact fun v H2 φ2 g r s => i v H2 (h v H2 φ2 g r s)
  | ex e μ => exact h
  | bad => exact h
theorem Pg.bind {r : Out α} {g : α → Mem → Out γ} {Q : δ → Hp → Prop} (h : Pg K mg W σ R' φ H (r.bind g) Q) :
    Pg K mg W σ R φ H r (fun x H1 => ∃ a μ1 φ1, Gr φ H φ1 H1 ∧ R φ1 H1 a x ∧ Sm K φ1 H1 μ1 ∧ Pg K mg W σ R' φ1 H1 (g a μ1) Q) := by
  cases r with
  | ok d μ => exact fun v H2 φ2 g2 r2 s2 => ⟨d, μ, φ2, g2, r2, s2, Pg.grow g2 h⟩
  | ex e μ => exact h
  | bad => exact h
/-- nothing but a value has come -/
theorem Pg.here {d : α} {v : β} {μ : Mem} {Q : β → Hp → Prop} (h : Pg K mg W σ R φ H (.ok d μ) Q) (r : R φ H d v) (s : Sm K φ H μ) : Q v H := h v H φ (Gr.refl φ H) r s
end

/-! ### atoms -/
@[simp] def eVar (i : Nat) : Ev := fun ρ μ => match ρ[i]? with
  | some (some d) => .ok d μ
  | _ => .bad
@[simp] def eC (d : D) : Ev := fun _ μ => .ok d μ
section
variable {X : Cx} {W : WX} {pos : Pos}
theorem se_var (i : Nat) {x : Str} (hN : X.N[i]? = some x := by rfl) (hv : Vis X.env.scope x := by first | exact Or.inl rfl | exact Or.inr (Or.inl rfl) | exact Or.inr (Or.inr rfl))
    (hd : (x == ("__debug__" : Str)) = false := by decide) (hcd : (x == ("__classdict__" : Str)) = false := by decide) : SE X W (.Name x pos) (eVar i) :=
  PE.imp (pe_var hN hv hd hcd) fun σ H Q ⟨φ, μ, ρ, hv, hs, hp⟩ => by
    have hp : Pg X.K X.mg W σ (Rv X.K) φ H (match ρ[i]? with | some (some d) => .ok d μ | _ => .bad) Q := hp
    split at hp
    · rename_i d e
      obtain ⟨v, ev, r⟩ := hv.at' i d e
      exact ⟨v, ev, hp.here r hs⟩
    · exact hp.elim
theorem se_atom {e : Expr} {v : V} (d : D) (h : PE X e (tC v)) (r : ∀ φ H, Rv X.K φ H d v) : SE X W e (eC d) :=
  PE.imp h fun σ H Q ⟨φ, μ, ρ, hv, hs, hp⟩ => Pg.here hp (r φ H) hs
theorem se_int {i : Int} {j} : SE X W (.Constant (.int i) j pos) (eC (.int i)) := se_atom _ pe_int fun _ _ => rfl
theorem se_bl {b : Bool} {j} : SE X W (.Constant (.bool b) j pos) (eC (.bl b)) := se_atom _ pe_bl fun _ _ => rfl
theorem se_non {j} : SE X W (.Constant .none j pos) (eC .non) := se_atom _ pe_non fun _ _ => rfl
/-- a text; its signs -/
theorem se_str (x : List Nat) {y : Str} {j} (h : y = tx x := by decide +kernel) : SE X W (.Constant (.str y) j pos) (eC (.str x)) := se_atom _ pe_str fun _ _ => by rw [h]; rfl
/-- a text of the module's -/
theorem se_gstr {x : Str} {y : Str} {t : Tok} (z : List Nat) (hm : X.mg x = some (.str y t)) (h : y = tx z) (hg : Gl X x := by rfl) (hd : (x == ("__debug__" : Str)) = false := by decide) : SE X W (.Name x pos) (eC (.str z)) :=
  se_atom _ (pe_glob (v := .str y) hg hm ⟨t, rfl⟩ hd) fun _ _ => by rw [h]; rfl
theorem se_gint {x : Str} {y : Int} {t : Tok} (hm : X.mg x = some (.int y t)) (hg : Gl X x := by rfl) (hd : (x == ("__debug__" : Str)) = false := by decide) : SE X W (.Name x pos) (eC (.int y)) :=
  se_atom _ (pe_glob (v := .int y) hg hm ⟨t, rfl⟩ hd) fun _ _ => rfl
end

/-! ### two-place operations -/
abbrev Op := D → D → Mem → Out D
@[simp] def eBin (o : Op) (a b : Ev) : Ev := fun ρ μ => (a ρ μ).bind fun x μ1 => (b ρ μ1).bind fun y μ2 => o x y μ2
/-- r serves o -/
def Op2 (K : Fr0) (mg : Str → Option Value) (r : R2) (o : Op) : Prop :=
  ∀ (W : WX) (σ : L2.St) (φ : List Addr) (H : Hp) (μ : Mem) (d e : D) (x y : V) (Q : VK), Sm K φ H μ → Rv K φ H d x → Rv K φ H e y → Pg K mg W σ (Rv K) φ H (o d e μ) Q → r x y H Q
theorem op2_run {K : Fr0} {mg : Str → Option Value} {W : WX} {r : R2} {o : Op} {a b : Ev} {σ : L2.St} {H : Hp} {Q : VK} (ho : Op2 K mg r o) (h : tR K mg W (Rv K) (eBin o a b) σ H Q) :
    tOp r (tR K mg W (Rv K) a) (tR K mg W (Rv K) b) σ H Q := by
  obtain ⟨φ, μ, ρ, hv, hs, hp⟩ := h
  refine ⟨φ, μ, ρ, hv, hs, Pg.imp (Pg.bind hp) fun x H1 ⟨d, μ1, φ1, g1, r1, s1, p1⟩ => ?_⟩
  refine ⟨φ1, μ1, ρ, hv.mono g1, s1, Pg.imp (Pg.bind p1) fun y H2 ⟨e, μ2, φ2, g2, r2, s2, p2⟩ => ?_⟩
  exact ho W σ φ2 H2 μ2 d e x y Q s2 (r1.mono g2) r2 p2
section
variable {X : Cx} {W : WX} {pos : Pos} {a b : Expr} {fa fb : Ev}
theorem se_op {op : Operator} {r : R2} {o : Op} (hr : OpR X (binaryOp op) r) (ho : Op2 X.K X.mg r o) (ha : SE X W a fa) (hb : SE X W b fb) : SE X W (.BinOp a op b pos) (eBin o fa fb) :=
  PE.imp (pe_op hr ha hb) fun _ _ _ h => op2_run ho h
theorem se_cmp {op : CmpOp} {r : R2} {o : Op} (hr : OpR X (compareOp op) r) (ho : Op2 X.K X.mg r o) (ha : SE X W a fa) (hb : SE X W b fb) (hm : behindInMarks op b = false := by first | exact nomark _ | rfl) : SE X W (.Compare a [op] [b] pos) (eBin o fa fb) :=
  PE.imp (pe_cmpR hr ha hb hm) fun _ _ _ h => op2_run ho h
end
/-- a value as a test -/
@[simp] def tB1 (a : Ev) : Tv := fun ρ μ => (a ρ μ).bind fun d μ1 => match d with
  | .bl b => .ok b μ1
  | _ => .bad
theorem tB1_run {K : Fr0} {mg : Str → Option Value} {W : WX} {a : Ev} {σ : L2.St} {H : Hp} {Q : Bool → Hp → Prop} (h : tR K mg W Req (tB1 a) σ H Q) :
    tR K mg W (Rv K) a σ H (fun x H1 => ∃ k, x = .bl k ∧ Q k H1) := by
  obtain ⟨φ, μ, ρ, hv, hs, hp⟩ := h
  refine ⟨φ, μ, ρ, hv, hs, Pg.imp (Pg.bind hp) fun x H1 ⟨d, μ1, φ1, g1, r1, s1, p1⟩ => ?_⟩
  cases d with
  | bl k => exact ⟨k, r1, p1.here rfl s1⟩
  | _ => exact p1.elim
section
variable {X : Cx} {W : WX} {pos : Pos} {a b : Expr} {fa fb : Ev}
theorem st_cmp {op : CmpOp} {r : R2} {o : Op} (hr : OpR X (compareOp op) r) (ho : Op2 X.K X.mg r o) (ha : SE X W a fa) (hb : SE X W b fb) (hm : behindInMarks op b = false := by first | exact nomark _ | rfl) : ST X W (.Compare a [op] [b] pos) (tB1 (eBin o fa fb)) :=
  PT.imp (pt_cmpR hr ha hb hm) fun _ _ _ h => op2_run ho (tB1_run h)
/-- an expression that gives a bool -/
theorem st_val (ha : SE X W a fa) (he : ∀ whole, isTrue a X.env whole = (do let v ← whole; standAt a.pos; holding [v] (truthy v)) := by intro _; rfl) : ST X W a (tB1 fa) :=
  PT.imp (pt_val ha he) fun _ _ _ h => tB1_run h
end

/-! ### and, or, not, if -/
@[simp] def tAndG (a b : Tv) : Tv := fun ρ μ => (a ρ μ).bind fun c μ1 => if c = true then b ρ μ1 else .ok false μ1
@[simp] def tOrG (a b : Tv) : Tv := fun ρ μ => (a ρ μ).bind fun c μ1 => if c = true then .ok true μ1 else b ρ μ1
@[simp] def tNotG (a : Tv) : Tv := fun ρ μ => (a ρ μ).bind fun c μ1 => .ok (!c) μ1
@[simp] def eAndG (a b : Ev) : Ev := fun ρ μ => (a ρ μ).bind fun d μ1 => match d with
  | .bl true => b ρ μ1
  | .bl false => .ok (.bl false) μ1
  | _ => .bad
@[simp] def eOrG (a b : Ev) : Ev := fun ρ μ => (a ρ μ).bind fun d μ1 => match d with
  | .bl true => .ok (.bl true) μ1
  | .bl false => b ρ μ1
  | _ => .bad
@[simp] def eNotG (a : Ev) : Ev := fun ρ μ => (a ρ μ).bind fun d μ1 => match d with
  | .bl c => .ok (.bl (!c)) μ1
  | _ => .bad
@[simp] def eIfG (c : Tv) (a b : Ev) : Ev := fun ρ μ => (c ρ μ).bind fun k μ1 => if k = true then a ρ μ1 else b ρ μ1
section
variable {X : Cx} {W : WX} {pos : Pos} {a b : Expr} {rest : List Expr} {fa fb : Ev} {ta tb : Tv}
theorem sw_and1 (ha : ST X W a ta) : SW X W (.BoolOp .And [a] pos) ta := pw_and1 ha
theorem sw_or1 (ha : ST X W a ta) : SW X W (.BoolOp .Or [a] pos) ta := pw_or1 ha
theorem sw_and (ha : ST X W a ta) (hb : SW X W (.BoolOp .And (b :: rest) pos) tb) : SW X W (.BoolOp .And (a :: b :: rest) pos) (tAndG ta tb) :=
  PW.imp (pw_and ha hb) fun σ H Q ⟨φ, μ, ρ, hv, hs, hp⟩ => ⟨φ, μ, ρ, hv, hs, Pg.imp (Pg.bind hp) fun c H1 ⟨k, μ1, φ1, g1, r1, s1, p1⟩ => by
    obtain rfl : k = c := r1
    cases k with
    | true => exact ⟨φ1, μ1, ρ, hv.mono g1, s1, p1⟩
    | false => exact p1.here rfl s1⟩
theorem sw_or (ha : ST X W a ta) (hb : SW X W (.BoolOp .Or (b :: rest) pos) tb) : SW X W (.BoolOp .Or (a :: b :: rest) pos) (tOrG ta tb) :=
  PW.imp (pw_or ha hb) fun σ H Q ⟨φ, μ, ρ, hv, hs, hp⟩ => ⟨φ, μ, ρ, hv, hs, Pg.imp (Pg.bind hp) fun c H1 ⟨k, μ1, φ1, g1, r1, s1, p1⟩ => by
    obtain rfl : k = c := r1
    cases k with
    | true => exact p1.here rfl s1
    | false => exact ⟨φ1, μ1, ρ, hv.mono g1, s1, p1⟩⟩
theorem st_w (h : SW X W a ta) : ST X W a ta := PW.pt h
theorem st_not (ha : ST X W a ta) : ST X W (.UnaryOp .Not a pos) (tNotG ta) :=
  PT.imp (pt_not ha) fun σ H Q ⟨φ, μ, ρ, hv, hs, hp⟩ => ⟨φ, μ, ρ, hv, hs, Pg.imp (Pg.bind hp) fun c H1 ⟨k, μ1, φ1, g1, r1, s1, p1⟩ => by
    obtain rfl : k = c := r1
    exact p1.here rfl s1⟩
theorem se_one {op} (h : SE X W a fa) : SE X W (.BoolOp op [a] pos) fa := pe_one h
theorem se_and (ha : SE X W a fa) (hb : SE X W (.BoolOp .And (b :: rest) pos) fb) : SE X W (.BoolOp .And (a :: b :: rest) pos) (eAndG fa fb) :=
  PE.imp (pe_and ha hb) fun σ H Q ⟨φ, μ, ρ, hv, hs, hp⟩ => ⟨φ, μ, ρ, hv, hs, Pg.imp (Pg.bind hp) fun x H1 ⟨d, μ1, φ1, g1, r1, s1, p1⟩ => by
    cases d with
    | bl k =>
      obtain rfl : x = .bl k := r1
      cases k with
      | true => exact ⟨true, rfl, φ1, μ1, ρ, hv.mono g1, s1, p1⟩
      | false => exact ⟨false, rfl, Pg.here (d := D.bl false) p1 rfl s1⟩
    | _ => exact p1.elim⟩
theorem se_or (ha : SE X W a fa) (hb : SE X W (.BoolOp .Or (b :: rest) pos) fb) : SE X W (.BoolOp .Or (a :: b :: rest) pos) (eOrG fa fb) :=
  PE.imp (pe_or ha hb) fun σ H Q ⟨φ, μ, ρ, hv, hs, hp⟩ => ⟨φ, μ, ρ, hv, hs, Pg.imp (Pg.bind hp) fun x H1 ⟨d, μ1, φ1, g1, r1, s1, p1⟩ => by
    cases d with
    | bl k =>
      obtain rfl : x = .bl k := r1
      cases k with
      | false => exact ⟨false, rfl, φ1, μ1, ρ, hv.mono g1, s1, p1⟩
      | true => exact ⟨true, rfl, Pg.here (d := D.bl true) p1 rfl s1⟩
    | _ => exact p1.elim⟩
theorem se_not (ha : SE X W a fa) : SE X W (.UnaryOp .Not a pos) (eNotG fa) :=
  PE.imp (pe_not ha) fun σ H Q ⟨φ, μ, ρ, hv, hs, hp⟩ => ⟨φ, μ, ρ, hv, hs, Pg.imp (Pg.bind hp) fun x H1 ⟨d, μ1, φ1, g1, r1, s1, p1⟩ => by
    cases d with
    | bl k => exact ⟨k, r1, Pg.here (d := D.bl (!k)) p1 rfl s1⟩
    | _ => exact p1.elim⟩
theorem se_ifExp {c : Expr} {tc : Tv} (hc : ST X W c tc) (ha : SE X W a fa) (hb : SE X W b fb) : SE X W (.IfExp c a b pos) (eIfG tc fa fb) :=
  PE.imp (pe_ifExp hc ha hb) fun σ H Q ⟨φ, μ, ρ, hv, hs, hp⟩ => ⟨φ, μ, ρ, hv, hs, Pg.imp (Pg.bind hp) fun c H1 ⟨k, μ1, φ1, g1, r1, s1, p1⟩ => by
    obtain rfl : k = c := r1
    cases k with
    | true => exact ⟨φ1, μ1, ρ, hv.mono g1, s1, p1⟩
    | false => exact ⟨φ1, μ1, ρ, hv.mono g1, s1, p1⟩⟩
end

/-! ### arguments, displays -/
@[simp] def aNil : Av := fun _ μ => .ok [] μ
@[simp] def aCons (a : Ev) (r : Av) : Av := fun ρ μ => (a ρ μ).bind fun d μ1 => (r ρ μ1).bind fun ds μ2 => .ok (d :: ds) μ2
@[simp] def eTup (a : Av) : Ev := fun ρ μ => (a ρ μ).bind fun ds μ1 => if ds.length ≤ 1000000 then .ok (.tup ds) μ1 else .bad
@[simp] def eLst (a : Av) : Ev := fun ρ μ => (a ρ μ).bind fun ds μ1 => if ds.length ≤ 1000000 then .ok (.ref μ1.length) (μ1 ++ [.lst ds]) else .bad
theorem line_of {n : Nat} (h : n ≤ 1000000) : n ≤ sizeLine := by rw [sizeLine_eq]; omega
/-- a new list has come into the store -/
theorem Pg.newList {K : Fr0} {mg : Str → Option Value} {W : WX} {σ : L2.St} {φ : List Addr} {H : Hp} {μ : Mem} {ds : List D} {vs : List V} {Q : VK} {p : Addr}
    (h : Pg K mg W σ (Rv K) φ H (.ok (.ref μ.length) (μ ++ [.lst ds])) Q) (s : Sm K φ H μ) (r : Rvs K φ H ds vs) (hp : H p = none) : Q (.ref p) (upd H p (.lst vs)) := by
  have g : Gr φ H (φ ++ [p]) (upd H p (.lst vs)) := Gr.alloc hp
  refine h _ _ (φ ++ [p]) g ⟨p, ?_, rfl⟩ (s.alloc hp ⟨vs, upd_same, r.mono g⟩)
  rw [← s.len, List.getElem?_append_right (Nat.le_refl _)]
  simp
theorem Pg.newTup {K : Fr0} {mg : Str → Option Value} {W : WX} {σ : L2.St} {φ : List Addr} {H : Hp} {μ : Mem} {ds : List D} {vs : List V} {Q : VK} {p : Addr}
    (h : Pg K mg W σ (Rv K) φ H (.ok (.tup ds) μ) Q) (s : Sm K φ H μ) (r : Rvs K φ H ds vs) (hp : H p = none) : Q (.ref p) (upd H p (.tup vs)) :=
  h _ _ φ (Gr.new hp) ⟨p, vs, rfl, .inl (.inl upd_same), r.mono (Gr.new hp)⟩ (s.new hp)
section
variable {X : Cx} {W : WX} {pos : Pos} {e : Expr} {es : List Expr} {fe : Ev} {fa : Av}
theorem sa_nil : SA X W [] aNil := PA.imp pa_nil fun σ H Q ⟨φ, μ, ρ, hv, hs, hp⟩ => Pg.here hp rfl hs
theorem sa_cons (he : SE X W e fe) (hr : SA X W es fa) (hs : starEach (e :: es) X.env = (false, eval e X.env) :: starEach es X.env := by rfl) : SA X W (e :: es) (aCons fe fa) :=
  PA.imp (pa_cons he hr hs) fun σ H Q ⟨φ, μ, ρ, hv, hs, hp⟩ => ⟨φ, μ, ρ, hv, hs, Pg.imp (Pg.bind hp) fun x H1 ⟨d, μ1, φ1, g1, r1, s1, p1⟩ =>
    ⟨φ1, μ1, ρ, hv.mono g1, s1, Pg.imp (Pg.bind p1) fun xs H2 ⟨ds, μ2, φ2, g2, r2, s2, p2⟩ => Pg.here p2 ⟨x, xs, rfl, r1.mono g2, r2⟩ s2⟩⟩
theorem se_tup {x1} (h : SA X W es fa) : SE X W (.Tuple es x1 pos) (eTup fa) :=
  PE.imp (pe_tup h) fun σ H Q ⟨φ, μ, ρ, hv, hs, hp⟩ => ⟨φ, μ, ρ, hv, hs, Pg.imp (Pg.bind hp) fun xs H1 ⟨ds, μ1, φ1, g1, r1, s1, p1⟩ => by
    by_cases hl : ds.length ≤ 1000000
    · rw [if_pos hl] at p1
      exact ⟨by rw [r1.length]; exact line_of hl, fun p hp => p1.newTup s1 r1 hp⟩
    · rw [if_neg hl] at p1; exact p1.elim⟩
theorem se_lst (h : SA X W es fa) : SE X W (.List es pos) (eLst fa) :=
  PE.imp (pe_lst h) fun σ H Q ⟨φ, μ, ρ, hv, hs, hp⟩ => ⟨φ, μ, ρ, hv, hs, Pg.imp (Pg.bind hp) fun xs H1 ⟨ds, μ1, φ1, g1, r1, s1, p1⟩ => by
    by_cases hl : ds.length ≤ 1000000
    · rw [if_pos hl] at p1
      exact ⟨by rw [r1.length]; exact line_of hl, fun p hp => p1.newList s1 r1 hp⟩
    · rw [if_neg hl] at p1; exact p1.elim⟩
end
end G

/-! G3: operators -/
namespace G
open PySem PySem.Spec PyProof.Rows L2

theorem tx_len (x : List Nat) : (tx x).length = x.length := by show x.toArray.size = x.length; simp
theorem tx_app (x y : List Nat) : tx x ++ tx y = tx (x ++ y) := by
  show (⟨(tx x).cps ++ (tx y).cps⟩ : Str) = _
  simp [tx]
theorem tx_inj {x y : List Nat} (h : tx x = tx y) : x = y := by
  have := congrArg (fun s : Str => s.cps.toList) h
  simpa [tx] using this
theorem tx_eq {x y : List Nat} : (tx x = tx y) = (x = y) := propext ⟨tx_inj, fun h => by rw [h]⟩
theorem tx_dec {x y : List Nat} : decide (tx x = tx y) = decide (x = y) := by simp only [tx_eq]
theorem len_str {x : List Nat} (h : x.length ≤ 1000000) : (tx x).length ≤ sizeLine := by rw [tx_len]; exact line_of h

/-! ### data to be compared -/
def allS {α : Type} : List (Option α) → Option (List α)
  | [] => some []
  | some a :: r => (allS r).map (a :: ·)
  | none :: _ => none
def pyOf (μ : Mem) : Nat → D → Option PyData
  | n, .non => some .none
  | n, .bl b => some (.bool b)
  | n, .int i => some (.int i)
  | n, .str x => some (.str (tx x))
  | n + 1, .tup xs => (allS (xs.map (pyOf μ n))).map .tuple
  | n + 1, .fl xs => (allS (xs.map (pyOf μ n))).map .list
  | n + 1, .ref l => match μ[l]? with
    | some (.lst xs) => (allS (xs.map (pyOf μ n))).map .list
    | _ => none
  | _, _ => none
theorem allS_cons {α : Type} {o : Option α} {r : List (Option α)} {ys : List α} (h : allS (o :: r) = some ys) : ∃ a zs, o = some a ∧ allS r = some zs ∧ ys = a :: zs := by
  cases o with
  | none => cases h
  | some a =>
    have h : (allS r).map (a :: ·) = some ys := h
    cases e : allS r with
    | none => rw [e] at h; cases h
    | some zs => rw [e] at h; cases h; exact ⟨a, zs, rfl, rfl, rfl⟩
section
variable {K : Fr0} {φ : List Addr} {H : Hp} {μ : Mem}
theorem dps_of {n : Nat} (ih : ∀ d v p, pyOf μ n d = some p → Rv K φ H d v → Dp K H v p) : ∀ (ds : List D) (vs : List V) (ps : List PyData), allS (ds.map (pyOf μ n)) = some ps → Rvs K φ H ds vs → DpAll K H vs ps
  | [], vs, ps, h, r => by
    cases (show vs = [] from r)
    cases h
    exact .nil
  | d :: ds, vs, ps, h, r => by
    obtain ⟨v, r', rfl, r1, r2⟩ := r
    obtain ⟨a, zs, e1, e2, rfl⟩ := allS_cons h
    exact .cons (ih d v a e1 r1) (dps_of ih ds r' zs e2 r2)
theorem map_some {α β : Type} {o : Option α} {f : α → β} {b : β} (h : o.map f = some b) : ∃ a, o = some a ∧ b = f a := by
  cases o with
  | none => cases h
  | some a => cases h; exact ⟨a, rfl, rfl⟩
theorem dp_of (s : Sm K φ H μ) : ∀ (n : Nat) (d : D) (v : V) (p : PyData), pyOf μ n d = some p → Rv K φ H d v → Dp K H v p
  | n, .non, v, p, h, r => by
    cases (show v = .non from r)
    unfold pyOf at h; cases h; exact .non
  | n, .bl b, v, p, h, r => by
    cases (show v = .bl b from r)
    unfold pyOf at h; cases h; exact .bl b
  | n, .int i, v, p, h, r => by
    cases (show v = .int i from r)
    unfold pyOf at h; cases h; exact .int i
  | n, .str x, v, p, h, r => by
    cases (show v = .str (tx x) from r)
    unfold pyOf at h; cases h; exact .str _
  | n + 1, .tup xs, v, p, h, r => by
    obtain ⟨a, vs, rfl, hs, hr⟩ := r
    unfold pyOf at h
    obtain ⟨ps, e, rfl⟩ := map_some h
    exact .tup hs (dps_of (fun d v p h r => dp_of s n d v p h r) xs vs ps e hr)
  | n + 1, .fl xs, v, p, h, r => by
    obtain ⟨a, vs, rfl, hs, hr⟩ := r
    unfold pyOf at h
    obtain ⟨ps, e, rfl⟩ := map_some h
    exact .lst hs.sq (dps_of (fun d v p h r => dp_of s n d v p h r) xs vs ps e hr)
  | n + 1, .ref l, v, p, h, r => by
    obtain ⟨a, ha, rfl⟩ := r
    unfold pyOf at h
    split at h
    · rename_i xs e0
      obtain ⟨ps, e, rfl⟩ := map_some h
      obtain ⟨vs, e1, hr⟩ := s.ob l a _ ha e0
      exact .lst (SqL.of e1) (dps_of (fun d v p h r => dp_of s n d v p h r) xs vs ps e hr)
    · cases h
  | 0, .tup xs, v, p, h, r => by unfold pyOf at h; cases h
  | 0, .fl xs, v, p, h, r => by unfold pyOf at h; cases h
  | 0, .ref xs, v, p, h, r => by unfold pyOf at h; cases h
  | _, .xo _ _ _ _, v, p, h, r => by unfold pyOf at h; cases h
theorem depths_of {n : Nat} (ih : ∀ d p, pyOf μ n d = some p → p.depth ≤ n) : ∀ (ds : List D) (ps : List PyData), allS (ds.map (pyOf μ n)) = some ps → PyData.depthAll ps ≤ n
  | [], ps, h => by cases h; simp [PyData.depthAll]
  | d :: ds, ps, h => by
    obtain ⟨a, zs, e1, e2, rfl⟩ := allS_cons h
    have h1 := ih d a e1
    have h2 := depths_of ih ds zs e2
    simp only [PyData.depthAll]
    omega
theorem depth_of : ∀ (n : Nat) (d : D) (p : PyData), pyOf μ n d = some p → p.depth ≤ n
  | n, .non, p, h => by unfold pyOf at h; cases h; simp [PyData.depth]
  | n, .bl b, p, h => by unfold pyOf at h; cases h; simp [PyData.depth]
  | n, .int i, p, h => by unfold pyOf at h; cases h; simp [PyData.depth]
  | n, .str x, p, h => by unfold pyOf at h; cases h; simp [PyData.depth]
  | n + 1, .tup xs, p, h => by
    unfold pyOf at h
    obtain ⟨ps, e, rfl⟩ := map_some h
    have := depths_of (fun d p h => depth_of n d p h) xs ps e
    simp only [PyData.depth]; omega
  | n + 1, .fl xs, p, h => by
    unfold pyOf at h
    obtain ⟨ps, e, rfl⟩ := map_some h
    have := depths_of (fun d p h => depth_of n d p h) xs ps e
    simp only [PyData.depth]; omega
  | n + 1, .ref l, p, h => by
    unfold pyOf at h
    split at h
    · rename_i xs e0
      obtain ⟨ps, e, rfl⟩ := map_some h
      have := depths_of (fun d p h => depth_of n d p h) xs ps e
      simp only [PyData.depth]; omega
    · cases h
  | 0, .tup xs, p, h => by unfold pyOf at h; cases h
  | 0, .fl xs, p, h => by unfold pyOf at h; cases h
  | 0, .ref xs, p, h => by unfold pyOf at h; cases h
  | _, .xo _ _ _ _, p, h => by unfold pyOf at h; cases h
end

/-! ### == and != -/
open PySem.W in
/-- two data of which == is known -/
def cmpOk (p q : PyData) : Bool := alike p q || (p.canLay0 && q.canLay0)
def eqD : Op := fun d e μ => match pyOf μ 12 d, pyOf μ 12 e with
  | some p, some q => if cmpOk p q = true then .ok (.bl (PyData.eqv p q)) μ else .bad
  | _, _ => .bad
def neD : Op := fun d e μ => match pyOf μ 12 d, pyOf μ 12 e with
  | some p, some q => if cmpOk p q = true then .ok (.bl (!PyData.eqv p q)) μ else .bad
  | _, _ => .bad
section
open PySem.W SeqAt
variable {prog : Program} {w : World} {A : Around} {E : Value → Shared → Prop} {s : Shared} {a b : Value} {da db : PyData} {xa xb : List Addr} {Q : Value → Shared → Prop}
theorem rcEq_alike (ra : Reads s.heap a da xa) (rb : Reads s.heap b db xb) (h : alike da db = true)
    (hu : A.units + min da.depth db.depth < cLine) (q : Q (.bool (PyData.eqv da db)) s) : wpAny (model prog w) A (compareOp .Eq a b) Q E s := by
  cases ra with
  | none => cases rb <;> first | (simp [alike] at h; done) | exact PySem.EqNone.eq_none_none q
  | bool x => cases rb <;> first | (simp [alike] at h; done) | exact eq_bool q
  | int x t => cases rb <;> first | (simp [alike] at h; done) | exact eq_int q
  | str x t => cases rb <;> first | (simp [alike] at h; done) | exact eq_str q
  | @list l o vs n xs _ h1 h2 h3 h4 =>
    cases rb with
    | @list l2 o2 vs2 n2 ys _ k1 k2 k3 k4 =>
      have hal : alikeAll xs ys = true := by simpa [alike] using h
      have z1 : vs.size = xs.length := by simpa using ReadsAll.length _ _ _ h4
      have z2 : vs2.size = ys.length := by simpa using ReadsAll.length _ _ _ k4
      have q : Q (.bool (PyData.eqvAll xs ys)) s := q
      by_cases hz : vs.size = vs2.size
      · rw [← eqvAll_same_length (show xs.length = ys.length by omega), ← z1] at q
        refine eq_listAt ⟨_, h1, h2, _, h3⟩ ⟨_, k1, k2, _, k3⟩ hz (room_here hu) (fun j j1 j2 => ?_) q
        have z := eqAt_alikeAll xs ys A.in1 s vs.toList vs2.toList _ _ h4 k4 hal (room_in hu) j (by simpa using j1) (by simpa using j2)
        simpa using z
      · rw [eqvAll_other_length (show xs.length ≠ ys.length by omega)] at q
        exact eq_list_lengthsAt ⟨_, h1, h2, _, h3⟩ ⟨_, k1, k2, _, k3⟩ (by simpa using hz) (room_here hu) q
    | _ => exact absurd h (by simp [alike])
  | @tuple l o vs n xs _ h1 h2 h3 h4 =>
    cases rb with
    | @tuple l2 o2 vs2 n2 ys _ k1 k2 k3 k4 =>
      have hal : alikeAll xs ys = true := by simpa [alike] using h
      have z1 : vs.size = xs.length := by simpa using ReadsAll.length _ _ _ h4
      have z2 : vs2.size = ys.length := by simpa using ReadsAll.length _ _ _ k4
      have q : Q (.bool (PyData.eqvAll xs ys)) s := q
      rw [← eqvAll_eq xs ys, ← z1, ← z2] at q
      refine eq_tupleAt ⟨_, h1, h2, _, h3⟩ ⟨_, k1, k2, _, k3⟩ (room_here hu) (fun j j1 j2 => ?_) q
      have z := eqAt_alikeAll xs ys A.in1 s vs.toList vs2.toList _ _ h4 k4 hal (room_in hu) j (by simpa using j1) (by simpa using j2)
      simpa using z
    | _ => exact absurd h (by simp [alike])
  | dict => cases rb <;> exact absurd h (by simp [alike])
theorem rcNe_alike (ra : Reads s.heap a da xa) (rb : Reads s.heap b db xb) (h : alike da db = true)
    (hu : A.units + min da.depth db.depth < cLine) (q : Q (.bool (!PyData.eqv da db)) s) : wpAny (model prog w) A (compareOp .NotEq a b) Q E s := by
  cases ra with
  | none => cases rb <;> first | (simp [alike] at h; done) | exact PySem.EqNone.ne_none_none q
  | bool x => cases rb <;> first | (simp [alike] at h; done) | exact ne_bool q
  | int x t => cases rb <;> first | (simp [alike] at h; done) | exact ne_int q
  | str x t => cases rb <;> first | (simp [alike] at h; done) | exact ne_str q
  | @list l o vs n xs _ h1 h2 h3 h4 =>
    cases rb with
    | @list l2 o2 vs2 n2 ys _ k1 k2 k3 k4 =>
      have hal : alikeAll xs ys = true := by simpa [alike] using h
      have z1 : vs.size = xs.length := by simpa using ReadsAll.length _ _ _ h4
      have z2 : vs2.size = ys.length := by simpa using ReadsAll.length _ _ _ k4
      have q : Q (.bool (!PyData.eqvAll xs ys)) s := q
      by_cases hz : vs.size = vs2.size
      · rw [← eqvAll_same_length (show xs.length = ys.length by omega), ← z1] at q
        refine RcNeAt.lists ⟨_, h1, h2, _, h3⟩ ⟨_, k1, k2, _, k3⟩ hz (room_here hu) (fun j j1 j2 => ?_) prog w E Q q
        have z := eqAt_alikeAll xs ys A.in1 s vs.toList vs2.toList _ _ h4 k4 hal (room_in hu) j (by simpa using j1) (by simpa using j2)
        simpa using z
      · rw [eqvAll_other_length (show xs.length ≠ ys.length by omega)] at q
        exact RcNeAt.lists_lengths ⟨_, h1, h2, _, h3⟩ ⟨_, k1, k2, _, k3⟩ (by simpa using hz) (room_here hu) prog w E Q q
    | _ => exact absurd h (by simp [alike])
  | @tuple l o vs n xs _ h1 h2 h3 h4 =>
    cases rb with
    | @tuple l2 o2 vs2 n2 ys _ k1 k2 k3 k4 =>
      have hal : alikeAll xs ys = true := by simpa [alike] using h
      have z1 : vs.size = xs.length := by simpa using ReadsAll.length _ _ _ h4
      have z2 : vs2.size = ys.length := by simpa using ReadsAll.length _ _ _ k4
      have q : Q (.bool (!PyData.eqvAll xs ys)) s := q
      rw [← eqvAll_eq xs ys, ← z1, ← z2] at q
      refine RcNeAt.tuples ⟨_, h1, h2, _, h3⟩ ⟨_, k1, k2, _, k3⟩ (room_here hu) (fun j j1 j2 => ?_) prog w E Q q
      have z := eqAt_alikeAll xs ys A.in1 s vs.toList vs2.toList _ _ h4 k4 hal (room_in hu) j (by simpa using j1) (by simpa using j2)
      simpa using z
    | _ => exact absurd h (by simp [alike])
  | dict => cases rb <;> exact absurd h (by simp [alike])
end
/-- two values of which data are read -/
def rDat (K : Fr0) (C : PyData → PyData → Prop) (g : PyData → PyData → Bool) : R2 := fun x y H Q => ∃ d e, Dp K H x d ∧ Dp K H y e ∧ d.depth ≤ 12 ∧ e.depth ≤ 12 ∧ C d e ∧ Q (.bl (g d e)) H
theorem room12 {A : Around} {d e : PyData} (hu : A.units + 64 < cLine) (hd : d.depth ≤ 12) : A.units + min d.depth e.depth < cLine := by
  have : min d.depth e.depth ≤ d.depth := Nat.min_le_left _ _
  omega
section
variable {X : Cx}
theorem op_eqG (hu : X.A.units + 64 < cLine) : OpR X (compareOp .Eq) (rDat X.K (fun d e => cmpOk d e = true) PyData.eqv) := by
  intro pins s σ H x y v u Q I rx ry h
  obtain ⟨d, e, hd, he, zd, ze, c, q⟩ := h
  obtain ⟨as, r1⟩ := Dp.reads I d x v hd rx
  obtain ⟨bs, r2⟩ := Dp.reads I e y u he ry
  unfold cmpOk at c
  rw [Bool.or_eq_true, Bool.and_eq_true] at c
  rcases c with c | ⟨c1, c2⟩
  · exact rcEq_alike r1 r2 c (room12 hu zd) ⟨.bl _, H, I, rfl, q⟩
  · exact SeqAt.compareEq_reads r1 r2 c1 c2 (room12 hu zd) ⟨.bl _, H, I, rfl, q⟩
theorem op_neG (hu : X.A.units + 64 < cLine) : OpR X (compareOp .NotEq) (rDat X.K (fun d e => cmpOk d e = true) fun d e => !PyData.eqv d e) := by
  intro pins s σ H x y v u Q I rx ry h
  obtain ⟨d, e, hd, he, zd, ze, c, q⟩ := h
  obtain ⟨as, r1⟩ := Dp.reads I d x v hd rx
  obtain ⟨bs, r2⟩ := Dp.reads I e y u he ry
  unfold cmpOk at c
  rw [Bool.or_eq_true, Bool.and_eq_true] at c
  rcases c with c | ⟨c1, c2⟩
  · exact rcNe_alike r1 r2 c (room12 hu zd) ⟨.bl _, H, I, rfl, q⟩
  · exact SeqAt.compareNe_reads r1 r2 c1 c2 (room12 hu zd) ⟨.bl _, H, I, rfl, q⟩
open PySem.W in
theorem op_ltG (hu : X.A.units + 64 < cLine) : OpR X (compareOp .Lt) (rDat X.K (fun d e => alike d e = true ∧ d ≠ .none) dataLt) := by
  intro pins s σ H x y v u Q I rx ry h
  obtain ⟨d, e, hd, he, zd, ze, c, q⟩ := h
  obtain ⟨as, r1⟩ := Dp.reads I d x v hd rx
  obtain ⟨bs, r2⟩ := Dp.reads I e y u he ry
  exact lt_data r1 r2 c.1 c.2 (room12 hu zd) ⟨.bl _, H, I, rfl, q⟩
open PySem.W in
theorem op_gtG (hu : X.A.units + 64 < cLine) : OpR X (compareOp .Gt) (rDat X.K (fun d e => alike d e = true ∧ d ≠ .none) fun d e => dataLt e d) := by
  intro pins s σ H x y v u Q I rx ry h
  obtain ⟨d, e, hd, he, zd, ze, c, q⟩ := h
  obtain ⟨as, r1⟩ := Dp.reads I d x v hd rx
  obtain ⟨bs, r2⟩ := Dp.reads I e y u he ry
  exact gt_data r1 r2 c.1 c.2 (room12 hu zd) ⟨.bl _, H, I, rfl, q⟩
open PySem.W in
theorem op_leG (hu : X.A.units + 64 < cLine) : OpR X (compareOp .LtE) (rDat X.K (fun d e => alike d e = true ∧ d ≠ .none) fun d e => !dataLt e d) := by
  intro pins s σ H x y v u Q I rx ry h
  obtain ⟨d, e, hd, he, zd, ze, c, q⟩ := h
  obtain ⟨as, r1⟩ := Dp.reads I d x v hd rx
  obtain ⟨bs, r2⟩ := Dp.reads I e y u he ry
  exact le_data r1 r2 c.1 c.2 (room12 hu zd) ⟨.bl _, H, I, rfl, q⟩
open PySem.W in
theorem op_geG (hu : X.A.units + 64 < cLine) : OpR X (compareOp .GtE) (rDat X.K (fun d e => alike d e = true ∧ d ≠ .none) fun d e => !dataLt d e) := by
  intro pins s σ H x y v u Q I rx ry h
  obtain ⟨d, e, hd, he, zd, ze, c, q⟩ := h
  obtain ⟨as, r1⟩ := Dp.reads I d x v hd rx
  obtain ⟨bs, r2⟩ := Dp.reads I e y u he ry
  exact ge_data r1 r2 c.1 c.2 (room12 hu zd) ⟨.bl _, H, I, rfl, q⟩
end
/-- by data: C says when -/
def datD (C : PyData → PyData → Bool) (g : PyData → PyData → Bool) : Op := fun d e μ => match pyOf μ 12 d, pyOf μ 12 e with
  | some p, some q => if C p q = true then .ok (.bl (g p q)) μ else .bad
  | _, _ => .bad
theorem op2_dat {K : Fr0} {mg : Str → Option Value} {C : PyData → PyData → Prop} {c : PyData → PyData → Bool} {g : PyData → PyData → Bool} (hc : ∀ p q, c p q = true → C p q) : Op2 K mg (rDat K C g) (datD c g) := by
  intro W σ φ H μ d e x y Q s rx ry h
  unfold datD at h
  split at h
  · rename_i p q e1 e2
    by_cases hh : c p q = true
    · rw [if_pos hh] at h
      exact ⟨p, q, dp_of s 12 d x p e1 rx, dp_of s 12 e y q e2 ry, depth_of 12 d p e1, depth_of 12 e q e2, hc p q hh, Pg.here (d := D.bl (g p q)) h rfl s⟩
    · rw [if_neg hh] at h; exact h.elim
  · exact h.elim
def isNone : PyData → Bool
  | .none => true
  | _ => false
theorem of_isNone {p : PyData} (h : isNone p = false) : p ≠ .none := fun e => by rw [e] at h; cases h
open PySem.W in
def ordOk (p q : PyData) : Bool := alike p q && !isNone p
open PySem.W in
theorem of_ordOk {p q : PyData} (h : ordOk p q = true) : alike p q = true ∧ p ≠ .none := by
  unfold ordOk at h
  rw [Bool.and_eq_true] at h
  exact ⟨h.1, of_isNone (by simpa using h.2)⟩
def eqG : Op := datD cmpOk PyData.eqv
def neG : Op := datD cmpOk fun p q => !PyData.eqv p q
def ltG : Op := datD ordOk PySem.W.dataLt
def gtG : Op := datD ordOk fun p q => PySem.W.dataLt q p
def leG : Op := datD ordOk fun p q => !PySem.W.dataLt q p
def geG : Op := datD ordOk fun p q => !PySem.W.dataLt p q
section
variable {X : Cx} {W : WX} {pos : Pos} {a b : Expr} {fa fb : Ev}
theorem se_eq (hu : X.A.units + 64 < cLine) (ha : SE X W a fa) (hb : SE X W b fb) : SE X W (.Compare a [.Eq] [b] pos) (eBin eqG fa fb) := se_cmp (op_eqG hu) (op2_dat fun _ _ h => h) ha hb
theorem se_ne (hu : X.A.units + 64 < cLine) (ha : SE X W a fa) (hb : SE X W b fb) : SE X W (.Compare a [.NotEq] [b] pos) (eBin neG fa fb) := se_cmp (op_neG hu) (op2_dat fun _ _ h => h) ha hb
theorem se_lt (hu : X.A.units + 64 < cLine) (ha : SE X W a fa) (hb : SE X W b fb) : SE X W (.Compare a [.Lt] [b] pos) (eBin ltG fa fb) := se_cmp (op_ltG hu) (op2_dat fun _ _ h => of_ordOk h) ha hb
theorem se_gt (hu : X.A.units + 64 < cLine) (ha : SE X W a fa) (hb : SE X W b fb) : SE X W (.Compare a [.Gt] [b] pos) (eBin gtG fa fb) := se_cmp (op_gtG hu) (op2_dat fun _ _ h => of_ordOk h) ha hb
theorem se_le (hu : X.A.units + 64 < cLine) (ha : SE X W a fa) (hb : SE X W b fb) : SE X W (.Compare a [.LtE] [b] pos) (eBin leG fa fb) := se_cmp (op_leG hu) (op2_dat fun _ _ h => of_ordOk h) ha hb
theorem se_ge (hu : X.A.units + 64 < cLine) (ha : SE X W a fa) (hb : SE X W b fb) : SE X W (.Compare a [.GtE] [b] pos) (eBin geG fa fb) := se_cmp (op_geG hu) (op2_dat fun _ _ h => of_ordOk h) ha hb
theorem st_eq (hu : X.A.units + 64 < cLine) (ha : SE X W a fa) (hb : SE X W b fb) : ST X W (.Compare a [.Eq] [b] pos) (tB1 (eBin eqG fa fb)) := st_cmp (op_eqG hu) (op2_dat fun _ _ h => h) ha hb
theorem st_ne (hu : X.A.units + 64 < cLine) (ha : SE X W a fa) (hb : SE X W b fb) : ST X W (.Compare a [.NotEq] [b] pos) (tB1 (eBin neG fa fb)) := st_cmp (op_neG hu) (op2_dat fun _ _ h => h) ha hb
theorem st_lt (hu : X.A.units + 64 < cLine) (ha : SE X W a fa) (hb : SE X W b fb) : ST X W (.Compare a [.Lt] [b] pos) (tB1 (eBin ltG fa fb)) := st_cmp (op_ltG hu) (op2_dat fun _ _ h => of_ordOk h) ha hb
theorem st_gt (hu : X.A.units + 64 < cLine) (ha : SE X W a fa) (hb : SE X W b fb) : ST X W (.Compare a [.Gt] [b] pos) (tB1 (eBin gtG fa fb)) := st_cmp (op_gtG hu) (op2_dat fun _ _ h => of_ordOk h) ha hb
theorem st_le (hu : X.A.units + 64 < cLine) (ha : SE X W a fa) (hb : SE X W b fb) : ST X W (.Compare a [.LtE] [b] pos) (tB1 (eBin leG fa fb)) := st_cmp (op_leG hu) (op2_dat fun _ _ h => of_ordOk h) ha hb
theorem st_ge (hu : X.A.units + 64 < cLine) (ha : SE X W a fa) (hb : SE X W b fb) : ST X W (.Compare a [.GtE] [b] pos) (tB1 (eBin geG fa fb)) := st_cmp (op_geG hu) (op2_dat fun _ _ h => of_ordOk h) ha hb
end

/-! ### is None -/
def isD : Op := fun d e μ => match e with
  | .non => match d with
    | .non => .ok (.bl true) μ
    | _ => .ok (.bl false) μ
  | _ => .bad
def isnD : Op := fun d e μ => match e with
  | .non => match d with
    | .non => .ok (.bl false) μ
    | _ => .ok (.bl true) μ
  | _ => .bad
theorem not_non {K : Fr0} {φ : List Addr} {H : Hp} {d : D} {x : V} (r : Rv K φ H d x) : decide (x = .non) = (match d with | .non => true | _ => false) := by
  cases d with
  | non => cases (show x = .non from r); rfl
  | bl b => cases (show x = .bl b from r); rfl
  | int b => cases (show x = .int b from r); rfl
  | str b => cases (show x = .str (tx b) from r); rfl
  | tup b => obtain ⟨a, vs, rfl, _⟩ := r; rfl
  | fl b => obtain ⟨a, vs, rfl, _⟩ := r; rfl
  | ref b => obtain ⟨a, _, rfl⟩ := r; rfl
  | xo b _ _ _ => obtain ⟨rfl, _⟩ := r; rfl
theorem op2_is {K : Fr0} {mg : Str → Option Value} : Op2 K mg (fun x y H Q => y = .non ∧ Q (.bl (decide (x = .non))) H) isD := by
  intro W σ φ H μ d e x y Q s rx ry h
  unfold isD at h
  cases e with
  | non =>
    refine ⟨ry, ?_⟩
    rw [not_non rx]
    cases d <;> exact Pg.here (d := D.bl _) h rfl s
  | _ => exact h.elim
theorem op2_isn {K : Fr0} {mg : Str → Option Value} : Op2 K mg (fun x y H Q => y = .non ∧ Q (.bl (!decide (x = .non))) H) isnD := by
  intro W σ φ H μ d e x y Q s rx ry h
  unfold isnD at h
  cases e with
  | non =>
    refine ⟨ry, ?_⟩
    rw [not_non rx]
    cases d <;> exact Pg.here (d := D.bl _) h rfl s
  | _ => exact h.elim
section
variable {X : Cx} {W : WX} {pos : Pos} {a b : Expr} {fa fb : Ev}
theorem se_is (ha : SE X W a fa) (hb : SE X W b fb) : SE X W (.Compare a [.Is] [b] pos) (eBin isD fa fb) := se_cmp op_isN op2_is ha hb
theorem se_isn (ha : SE X W a fa) (hb : SE X W b fb) : SE X W (.Compare a [.IsNot] [b] pos) (eBin isnD fa fb) := se_cmp op_notN op2_isn ha hb
theorem st_is (ha : SE X W a fa) (hb : SE X W b fb) : ST X W (.Compare a [.Is] [b] pos) (tB1 (eBin isD fa fb)) := st_cmp op_isN op2_is ha hb
theorem st_isn (ha : SE X W a fa) (hb : SE X W b fb) : ST X W (.Compare a [.IsNot] [b] pos) (tB1 (eBin isnD fa fb)) := st_cmp op_notN op2_isn ha hb
end
end G

/-! G4: arithmetic, in, subscripts, slices -/
namespace G
open PySem PySem.Spec PyProof.Rows L2

/-! ### + -/
def rAddL (K : Fr0) : R2 := fun x y H Q => ∃ l b xs zs, x = .ref l ∧ y = .ref b ∧ SqL K H l xs ∧ SqL K H b zs ∧ xs.length + zs.length ≤ sizeLine ∧ ∀ p, H p = none → Q (.ref p) (upd H p (.lst (xs ++ zs)))
theorem op_addL {X : Cx} : OpR X (binaryOp .Add) (rAddL X.K) := by
  intro pins s σ H x y v u Q I rx ry h
  obtain ⟨l, b, xs, zs, rfl, rfl, hl, hb, hz, q⟩ := h
  cases rx
  cases ry
  obtain ⟨its, r, p1, z1⟩ := I.list hl
  obtain ⟨jts, r2, p2, z2⟩ := I.list hb
  have e1 := r.length
  have e2 := r2.length
  obtain ⟨⟨c1, d1, a1, s1⟩, g1, k1, n1, w1⟩ := p1.isList
  obtain ⟨⟨c2, d2, a2, s2⟩, g2, k2, n2, w2⟩ := p2.isList
  dsimp only at k1 w1 k2 w2
  cases k1; cases k2; cases w1; cases w2
  refine concat_meets ⟨_, g1, rfl⟩ ⟨_, g2, rfl⟩ noFill_list_add seq_list_add PySem.F.slot_list_add PySem.F.entry_list_add (PySem.F.args_list_add_2 _ _) (list_addW l b its.toArray jts.toArray n1 n2 d1 d2 s1 s2 (by simp only [List.size_toArray]; omega)) ⟨g1, g2, ?_⟩
  have ea : its.toArray ++ jts.toArray = (its ++ jts).toArray := by simp
  rw [ea]
  exact ⟨.ref _, _, I.lnew (t' := s.toks) (r.append r2) (by rw [List.length_append]; exact hz), rfl, q _ I.fresh⟩
/-- a list's items -/
def lstOf (μ : Mem) : D → Option (List D)
  | .fl xs => some xs
  | .ref l => match μ[l]? with
    | some (.lst xs) => some xs
    | _ => none
  | _ => none
theorem lstOf_sq {K : Fr0} {φ : List Addr} {H : Hp} {μ : Mem} {d : D} {x : V} {xs : List D} (s : Sm K φ H μ) (e : lstOf μ d = some xs) (r : Rv K φ H d x) : ∃ a vs, x = .ref a ∧ SqL K H a vs ∧ Rvs K φ H xs vs := by
  cases d with
  | fl ys =>
    cases e
    obtain ⟨a, vs, rfl, h, r⟩ := r
    exact ⟨a, vs, rfl, h.sq, r⟩
  | ref l =>
    obtain ⟨a, ha, rfl⟩ := r
    have e : (match μ[l]? with
      | some (.lst xs) => some xs
      | _ => none) = some xs := e
    split at e
    · rename_i ys e0
      cases e
      obtain ⟨vs, e1, hr⟩ := s.ob l a _ ha e0
      exact ⟨a, vs, rfl, SqL.of e1, hr⟩
    · cases e
  | _ => cases e
def addD : Op := fun d e μ => match d, e with
  | .int i, .int j => .ok (.int (i + j)) μ
  | .str x, .str y => if x.length + y.length ≤ 1000000 then .ok (.str (x ++ y)) μ else .bad
  | .tup xs, .tup ys => if xs.length + ys.length ≤ 1000000 then .ok (.tup (xs ++ ys)) μ else .bad
  | d, e => match lstOf μ d, lstOf μ e with
    | some xs, some ys => if xs.length + ys.length ≤ 1000000 then .ok (.ref μ.length) (μ ++ [.lst (xs ++ ys)]) else .bad
    | _, _ => .bad
def rAddG (K : Fr0) : R2 := fun x y H Q => rI0 (fun i j => .int (i + j)) x y H Q ∨ (∃ i j, x = .str i ∧ y = .str j ∧ i.length + j.length ≤ sizeLine ∧ Q (.str (i ++ j)) H) ∨ rCatA K x y H Q ∨ rAddL K x y H Q
theorem op_addG {X : Cx} : OpR X (binaryOp .Add) (rAddG X.K) := op_add.or (op_add_str.or (op_catA.or op_addL))
theorem add_lists_ok {K : Fr0} {mg : Str → Option Value} {W : WX} {σ : L2.St} {φ : List Addr} {H : Hp} {μ : Mem} {d e : D} {x y : V} {Q : VK} (s : Sm K φ H μ) (rx : Rv K φ H d x) (ry : Rv K φ H e y)
    (h : Pg K mg W σ (Rv K) φ H (match lstOf μ d, lstOf μ e with
    | some xs, some ys => if xs.length + ys.length ≤ 1000000 then .ok (.ref μ.length) (μ ++ [.lst (xs ++ ys)]) else .bad
    | _, _ => .bad) Q) : rAddL K x y H Q := by
  split at h
  · rename_i xs ys e1 e2
    obtain ⟨a, vs, rfl, hs, r1⟩ := lstOf_sq s e1 rx
    obtain ⟨b, us, rfl, hs2, r2⟩ := lstOf_sq s e2 ry
    by_cases hz : xs.length + ys.length ≤ 1000000
    · rw [if_pos hz] at h
      exact ⟨a, b, vs, us, rfl, rfl, hs, hs2, by rw [r1.length, r2.length]; exact line_of hz, fun p hp => h.newList s (r1.append r2) hp⟩
    · rw [if_neg hz] at h; exact h.elim
  · exact h.elim
theorem op2_add {K : Fr0} {mg : Str → Option Value} : Op2 K mg (rAddG K) addD := by
  intro W σ φ H μ d e x y Q s rx ry h
  unfold addD at h
  split at h
  · exact .inl ⟨_, _, rx, ry, Pg.here (d := D.int _) h rfl s⟩
  · rename_i z1 z2
    by_cases hz : z1.length + z2.length ≤ 1000000
    · rw [if_pos hz] at h
      refine .inr (.inl ⟨tx z1, tx z2, rx, ry, by rw [tx_len, tx_len]; exact line_of hz, ?_⟩)
      rw [tx_app]
      exact Pg.here (d := D.str _) h rfl s
    · rw [if_neg hz] at h; exact h.elim
  · rename_i xs ys
    by_cases hz : xs.length + ys.length ≤ 1000000
    · rw [if_pos hz] at h
      obtain ⟨a, vs, rfl, h1, r1⟩ := rx
      obtain ⟨b, us, rfl, h2, r2⟩ := ry
      have l1 := r1.length
      have l2 := r2.length
      refine .inr (.inr (.inl ⟨a, b, vs, us, rfl, rfl, h1, h2, by rw [l1, l2]; exact line_of hz, fun e0 => ?_, fun e0 e1 => ?_, fun _ _ p hp => ?_⟩))
      · subst e0
        have : xs = [] := List.eq_nil_of_length_eq_zero (by simpa using l1.symm)
        subst this
        exact Pg.here (d := D.tup ys) h ⟨b, us, rfl, h2, r2⟩ s
      · subst e1
        have : ys = [] := List.eq_nil_of_length_eq_zero (by simpa using l2.symm)
        subst this
        rw [List.append_nil] at h
        exact Pg.here (d := D.tup xs) h ⟨a, vs, rfl, h1, r1⟩ s
      · exact h.newTup s (r1.append r2) hp
    · rw [if_neg hz] at h; exact h.elim
  · exact .inr (.inr (.inr (add_lists_ok s rx ry h)))
/-- two ints -/
def intD (C : Int → Int → Bool) (g : Int → Int → Int) : Op := fun d e μ => match d, e with
  | .int i, .int j => if C i j = true then .ok (.int (g i j)) μ else .bad
  | _, _ => .bad
theorem op2_int {K : Fr0} {mg : Str → Option Value} {C : Int → Int → Prop} {c : Int → Int → Bool} {g : Int → Int → Int} (hc : ∀ i j, c i j = true → C i j) : Op2 K mg (rI C fun i j => .int (g i j)) (intD c g) := by
  intro W σ φ H μ d e x y Q s rx ry h
  unfold intD at h
  split at h
  · rename_i i j
    by_cases hh : c i j = true
    · rw [if_pos hh] at h
      exact ⟨i, j, rx, ry, hc i j hh, Pg.here (d := D.int _) h rfl s⟩
    · rw [if_neg hh] at h; exact h.elim
  · exact h.elim
def subD : Op := intD (fun _ _ => true) fun i j => i - j
def modD : Op := intD (fun _ j => decide (0 < j)) fun i j => i % j
def fdivD : Op := intD (fun _ j => decide (0 < j) && decide (j < 1073741824)) fun i j => i / j
def powD : Op := intD (fun i j => decide (0 ≤ j) && decide (j ≤ 1000000) && decide (i.natAbs < 2 ^ 64)) fun i j => i ^ j.toNat
def xorD : Op := intD (fun _ _ => true) fun i j => Builtin.bitXor i j
theorem op_sub' {X : Cx} : OpR X (binaryOp .Sub) (rI (fun _ _ => True) fun i j => .int (i - j)) := opI fun _ _ _ _ _ _ _ _ q => sub_int q
theorem op_xor' {X : Cx} : OpR X (binaryOp .BitXor) (rI (fun _ _ => True) fun i j => .int (Builtin.bitXor i j)) := opI fun _ _ _ _ _ _ _ _ q => xor_int q
/-- a * b: ints, a text or a list times an int -/
def mulOk (i j : Int) : Bool := (decide (-(2 ^ 64) < i) && decide (i < 2 ^ 64)) || (decide (-(2 ^ 64) < j) && decide (j < 2 ^ 64))
theorem of_mulOk {i j : Int} (h : mulOk i j = true) : CMul i j := by
  unfold mulOk at h
  simp only [Bool.or_eq_true, Bool.and_eq_true, decide_eq_true_eq] at h
  exact h
/-- x, n times -/
def timesS {α : Type} (x : List α) (n : Nat) : List α := (List.replicate n x).flatten
theorem timesS_length {α : Type} (x : List α) (n : Nat) : (timesS x n).length = n * x.length := by simp [timesS]
def mulD : Op := fun d e μ => match d, e with
  | .int i, .int j => if mulOk i j = true then .ok (.int (i * j)) μ else .bad
  | .str x, .int n => if x.length * n.toNat ≤ 1000000 ∧ -(2 ^ 60) < n ∧ n < 2 ^ 60 then .ok (.str (timesS x n.toNat)) μ else .bad
  | .ref l, .int n => match μ[l]? with
    | some (.lst xs) => if xs.length * n.toNat ≤ 1000000 ∧ -(2 ^ 60) < n ∧ n < 2 ^ 60 then .ok (.ref μ.length) (μ ++ [.lst (timesS xs n.toNat)]) else .bad
    | _ => .bad
  | _, _ => .bad
def rMulS : R2 := fun x y H Q => ∃ z n, x = .str (tx z) ∧ y = .int n ∧ z.length * n.toNat ≤ 1000000 ∧ -(2 ^ 60) < n ∧ n < 2 ^ 60 ∧ Q (.str (tx (timesS z n.toNat))) H
theorem rep_cps (z : List Nat) : ∀ (n : Nat) (acc : Array Nat), (List.replicate n (tx z).cps).foldl (· ++ ·) acc = acc ++ (timesS z n).toArray
  | 0, acc => by simp [timesS]
  | n + 1, acc => by
    rw [List.replicate_succ, List.foldl_cons, rep_cps z n]
    simp [timesS, List.replicate_succ, tx]
theorem op_mulS {X : Cx} : OpR X (binaryOp .Mult) rMulS := by
  intro pins s σ H x y v u Q I rx ry h
  obtain ⟨z, n, rfl, rfl, hz, h1, h2, q⟩ := h
  obtain ⟨t, rfl⟩ := rx
  obtain ⟨t', rfl⟩ := ry
  have hl := tx_len z
  have len : ¬ n < 1 → z.length * n.toNat ≤ 1000000 := fun _ => hz
  refine PySem.P.mul_str (by
      have a1 : ¬ n < -(2 ^ 63 : Int) := by omega
      have a2 : ¬ n ≥ 2 ^ 63 := by omega
      rw [decide_eq_false a1, decide_eq_false a2]; rfl) (fun hn _ => ?_) (fun hn _ => ?_) ?_
  · rw [hl]
    have b1 : (1 : Int) ≤ n := by omega
    have b2 : (z.length : Int) * n ≤ 1000000 := by
      have e : n = (n.toNat : Int) := by omega
      rw [e, ← Int.natCast_mul]
      exact Int.ofNat_le.mpr hz
    have b3 : (z.length : Int) ≤ (2 ^ 63 - 1) / n := Int.le_ediv_of_mul_le (by omega) (by omega)
    omega
  · rw [hl]; exact short24 (by omega)
  · by_cases hn : n < 1
    · rw [if_pos hn]
      have e : n.toNat = 0 := by omega
      rw [e] at q
      exact ⟨by decide, ⟨.str _, H, I.tok _, ⟨_, rfl⟩, q⟩⟩
    · rw [if_neg hn]
      by_cases h1' : (n == 1 || (tx z).length == 0) = true
      · rw [if_pos h1']
        have e : timesS z n.toNat = z := by
          rw [hl, Bool.or_eq_true, beq_iff_eq, beq_iff_eq] at h1'
          rcases h1' with e | e
          · subst e; simp [timesS]
          · have : z = [] := List.eq_nil_of_length_eq_zero e
            subst this
            simp [timesS]
        rw [e] at q
        exact ⟨.str _, H, I, ⟨_, rfl⟩, q⟩
      · rw [if_neg h1']
        have e := rep_cps z n.toNat #[]
        rw [show (#[] : Array Nat) ++ (timesS z n.toNat).toArray = (timesS z n.toNat).toArray by simp] at e
        rw [e]
        refine ⟨?_, ⟨.str _, H, I.tok _, ⟨_, rfl⟩, q⟩⟩
        show (timesS z n.toNat).toArray.size ≤ sizeLine
        rw [List.size_toArray, timesS_length, Nat.mul_comm]
        exact line_of hz
end G

/-! G5: times, in, subscripts, slices -/
namespace G
open PySem PySem.Spec PyProof.Rows L2

theorem op_mulG {X : Cx} : OpR X (binaryOp .Mult) (fun x y H Q => rI CMul (fun i j => .int (i * j)) x y H Q ∨ rMulS x y H Q ∨ rRep x y H Q) := op_mul.or (op_mulS.or op_rep)
theorem op2_mul {K : Fr0} {mg : Str → Option Value} : Op2 K mg (fun x y H Q => rI CMul (fun i j => .int (i * j)) x y H Q ∨ rMulS x y H Q ∨ rRep x y H Q) mulD := by
  intro W σ φ H μ d e x y Q s rx ry h
  unfold mulD at h
  split at h
  · rename_i i j
    by_cases hh : mulOk i j = true
    · rw [if_pos hh] at h
      exact .inl ⟨i, j, rx, ry, of_mulOk hh, Pg.here (d := D.int _) h rfl s⟩
    · rw [if_neg hh] at h; exact h.elim
  · rename_i z n
    by_cases hh : z.length * n.toNat ≤ 1000000 ∧ -(2 ^ 60) < n ∧ n < 2 ^ 60
    · rw [if_pos hh] at h
      exact .inr (.inl ⟨z, n, rx, ry, hh.1, hh.2.1, hh.2.2, Pg.here (d := D.str _) h rfl s⟩)
    · rw [if_neg hh] at h; exact h.elim
  · rename_i l n
    split at h
    · rename_i xs e0
      by_cases hh : xs.length * n.toNat ≤ 1000000 ∧ -(2 ^ 60) < n ∧ n < 2 ^ 60
      · rw [if_pos hh] at h
        obtain ⟨a, ha, rfl⟩ := rx
        obtain ⟨vs, e1, hr⟩ := s.ob l a _ ha e0
        have hl := hr.length
        obtain ⟨h1, h2, h3⟩ := hh
        refine .inr (.inr ⟨a, n, vs, rfl, ry, e1, by omega, by omega, by rw [hl]; exact line_of h1, fun p hp => h.newList s ?_ hp⟩)
        have rep : ∀ k : Nat, Rvs K φ H (timesS xs k) (List.replicate k vs).flatten := by
          intro k
          induction k with
          | zero => exact rfl
          | succ k ih => 
            show Rvs K φ H ((List.replicate (k + 1) xs).flatten) _
            rw [List.replicate_succ, List.replicate_succ, List.flatten_cons, List.flatten_cons]
            exact hr.append ih
        exact rep _
      · rw [if_neg hh] at h; exact h.elim
    · exact h.elim
  · exact h.elim
section
variable {X : Cx} {W : WX} {pos : Pos} {a b : Expr} {fa fb : Ev}
theorem se_add (ha : SE X W a fa) (hb : SE X W b fb) : SE X W (.BinOp a .Add b pos) (eBin addD fa fb) := se_op op_addG op2_add ha hb
theorem se_sub (ha : SE X W a fa) (hb : SE X W b fb) : SE X W (.BinOp a .Sub b pos) (eBin subD fa fb) := se_op op_sub' (op2_int fun _ _ _ => trivial) ha hb
theorem se_mul (ha : SE X W a fa) (hb : SE X W b fb) : SE X W (.BinOp a .Mult b pos) (eBin mulD fa fb) := se_op op_mulG op2_mul ha hb
theorem se_mod (ha : SE X W a fa) (hb : SE X W b fb) : SE X W (.BinOp a .Mod b pos) (eBin modD fa fb) := se_op op_mod (op2_int fun _ _ h => of_decide_eq_true h) ha hb
theorem se_fdiv (ha : SE X W a fa) (hb : SE X W b fb) : SE X W (.BinOp a .FloorDiv b pos) (eBin fdivD fa fb) := se_op op_fdiv (op2_int fun _ _ h => by
  simp only [Bool.and_eq_true, decide_eq_true_eq] at h; exact h) ha hb
theorem se_pow (ha : SE X W a fa) (hb : SE X W b fb) : SE X W (.BinOp a .Pow b pos) (eBin powD fa fb) := se_op op_pow (op2_int fun _ _ h => by
  simp only [Bool.and_eq_true, decide_eq_true_eq] at h; exact ⟨h.1.1, h.1.2, h.2⟩) ha hb
theorem se_xor (ha : SE X W a fa) (hb : SE X W b fb) : SE X W (.BinOp a .BitXor b pos) (eBin xorD fa fb) := se_op op_xor' (op2_int fun _ _ _ => trivial) ha hb
end
/-! ### -a -/
@[simp] def eNeg (a : Ev) : Ev := fun ρ μ => (a ρ μ).bind fun d μ1 => match d with
  | .int i => .ok (.int (-i)) μ1
  | _ => .bad
section
variable {X : Cx} {W : WX} {pos : Pos} {a : Expr} {fa : Ev}
theorem se_neg (ha : SE X W a fa) : SE X W (.UnaryOp .USub a pos) (eNeg fa) :=
  PE.imp (pe_un un_neg ha) fun σ H Q ⟨φ, μ, ρ, hv, hs, hp⟩ => ⟨φ, μ, ρ, hv, hs, Pg.imp (Pg.bind hp) fun x H1 ⟨d, μ1, φ1, g1, r1, s1, p1⟩ => by
    cases d with
    | int i => exact ⟨i, r1, Pg.here (d := D.int _) p1 rfl s1⟩
    | _ => exact p1.elim⟩
end

/-! ### in -/
def flatD : D → Bool
  | .non => true
  | .bl _ => true
  | .int _ => true
  | .str _ => true
  | _ => false
def eqF : D → D → Bool
  | .non, .non => true
  | .bl a, .bl b => a == b
  | .bl a, .int b => (if a then 1 else 0) == b
  | .int a, .bl b => a == (if b then 1 else 0)
  | .int a, .int b => a == b
  | .str a, .str b => decide (a = b)
  | _, _ => false
/-- a sequence's items -/
def seqOf (μ : Mem) : D → Option (List D)
  | .tup xs => some xs
  | d => lstOf μ d
def inD : Op := fun d e μ => match d, e with
  | .str [c], .str z => .ok (.bl (decide (c ∈ z))) μ
  | d, e => match seqOf μ e with
    | some xs => if (flatD d && xs.all flatD) = true then .ok (.bl (xs.any fun y => eqF y d)) μ else .bad
    | none => .bad
def ninD : Op := fun d e μ => match d, e with
  | .str [c], .str z => .ok (.bl (!decide (c ∈ z))) μ
  | d, e => match seqOf μ e with
    | some xs => if (flatD d && xs.all flatD) = true then .ok (.bl (!xs.any fun y => eqF y d)) μ else .bad
    | none => .bad
section
variable {K : Fr0} {φ : List Addr} {H : Hp} {μ : Mem}
theorem seqOf_sq {d : D} {x : V} {xs : List D} (s : Sm K φ H μ) (e : seqOf μ d = some xs) (r : Rv K φ H d x) : ∃ a vs, x = .ref a ∧ (SqL K H a vs ∨ SqT K H a vs) ∧ Rvs K φ H xs vs := by
  cases d with
  | tup ys =>
    cases e
    obtain ⟨a, vs, rfl, h, r⟩ := r
    exact ⟨a, vs, rfl, .inr h, r⟩
  | fl ys => obtain ⟨a, vs, h1, h2, h3⟩ := lstOf_sq s (show lstOf μ (.fl ys) = some xs from e) r; exact ⟨a, vs, h1, .inl h2, h3⟩
  | ref ys => obtain ⟨a, vs, h1, h2, h3⟩ := lstOf_sq s (show lstOf μ (.ref ys) = some xs from e) r; exact ⟨a, vs, h1, .inl h2, h3⟩
  | _ => cases e
theorem flat_of {d : D} {x : V} (r : Rv K φ H d x) (f : flatD d = true) : flatV x = true := by
  cases d with
  | non => cases (show x = .non from r); rfl
  | bl b => cases (show x = .bl b from r); rfl
  | int b => cases (show x = .int b from r); rfl
  | str b => cases (show x = .str (tx b) from r); rfl
  | _ => cases f
theorem eqF_of {d e : D} {x y : V} (r : Rv K φ H d x) (q : Rv K φ H e y) (f : flatD d = true) (g : flatD e = true) : eqV x y = eqF d e := by
  cases d with
  | non =>
    cases (show x = .non from r)
    cases e with
    | non => cases (show y = .non from q); rfl
    | bl b => cases (show y = .bl b from q); rfl
    | int b => cases (show y = .int b from q); rfl
    | str b => cases (show y = .str (tx b) from q); rfl
    | _ => cases g
  | bl a =>
    cases (show x = .bl a from r)
    cases e with
    | non => cases (show y = .non from q); rfl
    | bl b => cases (show y = .bl b from q); rfl
    | int b => cases (show y = .int b from q); rfl
    | str b => cases (show y = .str (tx b) from q); rfl
    | _ => cases g
  | int a =>
    cases (show x = .int a from r)
    cases e with
    | non => cases (show y = .non from q); rfl
    | bl b => cases (show y = .bl b from q); rfl
    | int b => cases (show y = .int b from q); rfl
    | str b => cases (show y = .str (tx b) from q); rfl
    | _ => cases g
  | str a =>
    cases (show x = .str (tx a) from r)
    cases e with
    | non => cases (show y = .non from q); rfl
    | bl b => cases (show y = .bl b from q); rfl
    | int b => cases (show y = .int b from q); rfl
    | str b =>
      cases (show y = .str (tx b) from q)
      show (tx a == tx b) = decide (a = b)
      rw [← tx_dec, Bool.beq_eq_decide_eq]
    | _ => cases g
  | _ => cases f
theorem inV_of {d : D} {x : V} (r : Rv K φ H d x) (f : flatD d = true) : ∀ {xs : List D} {vs : List V}, Rvs K φ H xs vs → xs.all flatD = true → vs.all flatV = true ∧ inV x vs = xs.any fun y => eqF y d
  | [], vs, h, _ => by cases (show vs = [] from h); exact ⟨rfl, rfl⟩
  | e :: es, vs, h, g => by
    obtain ⟨v, r', rfl, r1, r2⟩ := h
    rw [List.all_cons, Bool.and_eq_true] at g
    obtain ⟨i1, i2⟩ := inV_of r f r2 g.2
    refine ⟨by rw [List.all_cons, flat_of r1 g.1, i1]; rfl, ?_⟩
    unfold inV at i2 ⊢
    rw [List.any_cons, List.any_cons, i2, eqF_of r1 r g.1 f]
end
def rInG (K : Fr0) (neg : Bool) : R2 := fun x y H Q => (∃ (c : Nat) (z : Str), x = .str ⟨#[c]⟩ ∧ y = .str z ∧ Q (.bl (if neg then !decide (c ∈ z.cps.toList) else decide (c ∈ z.cps.toList))) H) ∨ rIn K neg x y H Q
theorem op_inG {X : Cx} : OpR X (compareOp .In) (rInG X.K false) := OpR.or (r := fun x y H Q => ∃ (c : Nat) (z : Str), x = .str ⟨#[c]⟩ ∧ y = .str z ∧ Q (.bl (decide (c ∈ z.cps.toList))) H) op_in_sign op_in_seq
theorem op_ninG {X : Cx} : OpR X (compareOp .NotIn) (rInG X.K true) := OpR.or (r := fun x y H Q => ∃ (c : Nat) (z : Str), x = .str ⟨#[c]⟩ ∧ y = .str z ∧ Q (.bl (!decide (c ∈ z.cps.toList))) H) op_notIn_sign op_notIn_seq
theorem op2_in {K : Fr0} {mg : Str → Option Value} : Op2 K mg (rInG K false) inD := by
  intro W σ φ H μ d e x y Q s rx ry h
  unfold inD at h
  split at h
  · rename_i c z
    exact .inl ⟨c, tx z, rx, ry, by simpa [tx] using Pg.here (d := D.bl _) h rfl s⟩
  · split at h
    · rename_i xs e0
      by_cases hh : (flatD d && xs.all flatD) = true
      · rw [if_pos hh] at h
        rw [Bool.and_eq_true] at hh
        obtain ⟨a, vs, rfl, hq, r⟩ := seqOf_sq s e0 ry
        obtain ⟨i1, i2⟩ := inV_of rx hh.1 r hh.2
        refine .inr ⟨a, vs, rfl, hq, flat_of rx hh.1, i1, ?_⟩
        rw [if_neg Bool.false_ne_true, i2]
        exact Pg.here (d := D.bl _) h rfl s
      · rw [if_neg hh] at h; exact h.elim
    · exact h.elim
theorem op2_nin {K : Fr0} {mg : Str → Option Value} : Op2 K mg (rInG K true) ninD := by
  intro W σ φ H μ d e x y Q s rx ry h
  unfold ninD at h
  split at h
  · rename_i c z
    exact .inl ⟨c, tx z, rx, ry, by simpa [tx] using Pg.here (d := D.bl _) h rfl s⟩
  · split at h
    · rename_i xs e0
      by_cases hh : (flatD d && xs.all flatD) = true
      · rw [if_pos hh] at h
        rw [Bool.and_eq_true] at hh
        obtain ⟨a, vs, rfl, hq, r⟩ := seqOf_sq s e0 ry
        obtain ⟨i1, i2⟩ := inV_of rx hh.1 r hh.2
        refine .inr ⟨a, vs, rfl, hq, flat_of rx hh.1, i1, ?_⟩
        rw [if_pos rfl, i2]
        exact Pg.here (d := D.bl _) h rfl s
      · rw [if_neg hh] at h; exact h.elim
    · exact h.elim
section
variable {X : Cx} {W : WX} {pos : Pos} {a b : Expr} {fa fb : Ev}
theorem se_in (ha : SE X W a fa) (hb : SE X W b fb) (hm : behindInMarks .In b = false := by rfl) : SE X W (.Compare a [.In] [b] pos) (eBin inD fa fb) := se_cmp op_inG op2_in ha hb hm
theorem se_nin (ha : SE X W a fa) (hb : SE X W b fb) (hm : behindInMarks .NotIn b = false := by rfl) : SE X W (.Compare a [.NotIn] [b] pos) (eBin ninD fa fb) := se_cmp op_ninG op2_nin ha hb hm
theorem st_in (ha : SE X W a fa) (hb : SE X W b fb) (hm : behindInMarks .In b = false := by rfl) : ST X W (.Compare a [.In] [b] pos) (tB1 (eBin inD fa fb)) := st_cmp op_inG op2_in ha hb hm
theorem st_nin (ha : SE X W a fa) (hb : SE X W b fb) (hm : behindInMarks .NotIn b = false := by rfl) : ST X W (.Compare a [.NotIn] [b] pos) (tB1 (eBin ninD fa fb)) := st_cmp op_ninG op2_nin ha hb hm
end

/-! ### x[i] -/
def ixD : Op := fun d e μ => match d, e with
  | .str z, .int i => if z.length ≤ 1000000 then (match atI z i with
    | some c => .ok (.str [c]) μ
    | none => .bad) else .bad
  | d, .int i => match seqOf μ d with
    | some xs => match atI xs i with
      | some y => .ok y μ
      | none => .bad
    | none => .bad
  | _, _ => .bad
theorem atI_rv {K : Fr0} {φ : List Addr} {H : Hp} {xs : List D} {vs : List V} {i : Int} {d : D} (r : Rvs K φ H xs vs) (h : atI xs i = some d) : ∃ v, atI vs i = some v ∧ Rv K φ H d v := by
  unfold atI at h ⊢
  rw [r.length]
  cases e : ixN xs.length i with
  | none => rw [e] at h; cases h
  | some j =>
    rw [e] at h
    exact r.get h
theorem op2_ix {K : Fr0} {mg : Str → Option Value} : Op2 K mg (rIx K) ixD := by
  intro W σ φ H μ d e x y Q s rx ry h
  unfold ixD at h
  split at h
  · rename_i z i
    by_cases hz : z.length ≤ 1000000
    · rw [if_pos hz] at h
      split at h
      · rename_i c e0
        exact .inr (.inr ⟨tx z, i, c, rx, ry, len_str hz, by simpa [tx] using e0, Pg.here (d := D.str [c]) h rfl s⟩)
      · exact h.elim
    · rw [if_neg hz] at h; exact h.elim
  · rename_i i _
    split at h
    · rename_i xs e0
      split at h
      · rename_i w e1
        obtain ⟨a, vs, rfl, hq, r⟩ := seqOf_sq s e0 rx
        obtain ⟨v, e2, rv⟩ := atI_rv r e1
        rcases hq with hq | hq
        · exact .inl ⟨a, vs, i, v, rfl, ry, hq, e2, Pg.here h rv s⟩
        · exact .inr (.inl ⟨a, vs, i, v, rfl, ry, hq, e2, Pg.here h rv s⟩)
      · exact h.elim
    · exact h.elim
  · exact h.elim
section
variable {X : Cx} {W : WX} {pos : Pos} {a b : Expr} {fa fb : Ev}
theorem se_ix (ha : SE X W a fa) (hb : SE X W b fb) (hs : PlainIx b := by exact fun _ _ => rfl) : SE X W (.Subscript a b pos) (eBin ixD fa fb) := PE.imp (pe_ix ix_seq ha hb hs) fun _ _ _ h => op2_run op2_ix h
end

/-! ### x[a:b] -/
abbrev Ov := Rho → Mem → Out (Option Int)
def Ropt (_ : List Addr) (_ : Hp) (a b : Option Int) : Prop := a = b
def SO (X : Cx) (W : WX) (e : Option Expr) (f : Ov) : Prop := PO X e (tR X.K X.mg W Ropt f)
theorem PO.imp {X : Cx} {e : Option Expr} {t u : TO} (h : PO X e t) (i : ∀ σ H Q, u σ H Q → t σ H Q) : PO X e u := ⟨fun pins s σ H Q I q => h.run pins s σ H Q I (i σ H Q q)⟩
@[simp] def oNone : Ov := fun _ μ => .ok none μ
@[simp] def oSome (a : Ev) : Ov := fun ρ μ => (a ρ μ).bind fun d μ1 => match d with
  | .int i => .ok (some i) μ1
  | _ => .bad
def cutL {α : Type} (xs : List α) (lo hi : Option Int) : List α := (xs.drop (HT.sIx xs.length 0 lo)).take (HT.sIx xs.length xs.length hi - HT.sIx xs.length 0 lo)
def slD (d : D) (lo hi : Option Int) (μ : Mem) : Out D := match d with
  | .str z => if z.length ≤ 1000000 then .ok (.str (cutL z lo hi)) μ else .bad
  | .tup xs => .ok (.tup (cutL xs lo hi)) μ
  | d => match lstOf μ d with
    | some xs => .ok (.ref μ.length) (μ ++ [.lst (cutL xs lo hi)])
    | none => .bad
@[simp] def eSl (a : Ev) (l u : Ov) : Ev := fun ρ μ => (a ρ μ).bind fun d μ1 => (l ρ μ1).bind fun lo μ2 => (u ρ μ2).bind fun hi μ3 => slD d lo hi μ3
theorem cut_rvs {K : Fr0} {φ : List Addr} {H : Hp} {xs : List D} {vs : List V} {lo hi : Option Int} (r : Rvs K φ H xs vs) : Rvs K φ H (cutL xs lo hi) (cutV vs lo hi) := by
  unfold cutL cutV
  rw [r.length]
  exact (r.drop _).take _
theorem cutL_all {α : Type} {xs : List α} {lo hi : Option Int} (h : HT.sIx xs.length 0 lo = 0 ∧ HT.sIx xs.length xs.length hi = xs.length) : cutL xs lo hi = xs := by
  unfold cutL
  rw [h.1, h.2]
  simp
section
variable {X : Cx} {W : WX} {pos p2 : Pos} {a b : Expr} {fa fb : Ev} {l u : Option Expr} {fl fu : Ov}
theorem so_none : SO X W none oNone := PO.imp po_none fun σ H Q ⟨φ, μ, ρ, hv, hs, hp⟩ => Pg.here hp rfl hs
theorem so_some (ha : SE X W a fa) : SO X W (some a) (oSome fa) :=
  PO.imp (po_some ha) fun σ H Q ⟨φ, μ, ρ, hv, hs, hp⟩ => ⟨φ, μ, ρ, hv, hs, Pg.imp (Pg.bind hp) fun x H1 ⟨d, μ1, φ1, g1, r1, s1, p1⟩ => by
    cases d with
    | int i => exact ⟨i, r1, Pg.here p1 rfl s1⟩
    | _ => exact p1.elim⟩
theorem sl_G : SlR X (fun x lo hi H Q => rSlS x lo hi H Q ∨ rSlA X.K x lo hi H Q ∨ rSlL X.K x lo hi H Q) := sl_str.or (sl_tupA.or sl_list)
theorem sl_lists {K : Fr0} {mg : Str → Option Value} {σ : L2.St} {φ : List Addr} {H : Hp} {μ : Mem} {d : D} {x : V} {lo hi : Option Int} {Q : VK} (s : Sm K φ H μ) (rx : Rv K φ H d x)
    (h : Pg K mg W σ (Rv K) φ H (match lstOf μ d with
    | some xs => .ok (.ref μ.length) (μ ++ [.lst (cutL xs lo hi)])
    | none => .bad) Q) : rSlL K x lo hi H Q := by
  split at h
  · rename_i xs e1
    obtain ⟨a, vs, rfl, hs, r1⟩ := lstOf_sq s e1 rx
    exact ⟨a, vs, rfl, hs, fun p hp => h.newList s (cut_rvs r1) hp⟩
  · exact h.elim
theorem se_sl (ha : SE X W a fa) (hl : SO X W l fl) (hu : SO X W u fu) : SE X W (.Subscript a (.Slice l u none p2) pos) (eSl fa fl fu) :=
  PE.imp (pe_slice sl_G ha hl hu) fun σ H Q ⟨φ, μ, ρ, hv, hs, hp⟩ => ⟨φ, μ, ρ, hv, hs, Pg.imp (Pg.bind hp) fun x H1 ⟨d, μ1, φ1, g1, r1, s1, p1⟩ =>
    ⟨φ1, μ1, ρ, hv.mono g1, s1, Pg.imp (Pg.bind p1) fun lo H2 ⟨lo', μ2, φ2, g2, r2, s2, p2⟩ =>
      ⟨φ2, μ2, ρ, (hv.mono g1).mono g2, s2, Pg.imp (Pg.bind p2) fun hi H3 ⟨hj, μ3, φ3, g3, r3, s3, p3⟩ => by
        obtain rfl : lo' = lo := r2
        obtain rfl : hj = hi := r3
        have rx := (r1.mono g2).mono g3
        unfold slD at p3
        have rest := p3
        cases d with
        | str z =>
          have p3 : Pg X.K X.mg W σ (Rv X.K) φ3 H3 (if z.length ≤ 1000000 then .ok (.str (cutL z lo' hj)) μ3 else .bad) Q := p3
          by_cases hz : z.length ≤ 1000000
          · rw [if_pos hz] at p3
            refine .inl ⟨tx z, rx, len_str hz, Pg.here p3 ?_ s3⟩
            show V.str _ = _
            unfold cutS cutL
            rw [tx_len]
          · rw [if_neg hz] at p3; exact p3.elim
        | tup xs =>
          obtain ⟨a, vs, rfl, h1, r⟩ := rx
          have p3 : Pg X.K X.mg W σ (Rv X.K) φ3 H3 (.ok (.tup (cutL xs lo' hj)) μ3) Q := p3
          have el := r.length
          refine .inr (.inl ⟨a, vs, rfl, h1, fun hw => ?_, fun hw p hp => p3.newTup s3 (cut_rvs r) hp⟩)
          rw [el] at hw
          rw [cutL_all hw] at p3
          exact Pg.here p3 ⟨a, vs, rfl, h1, r⟩ s3
        | _ => exact .inr (.inr (sl_lists s3 rx p3))⟩⟩⟩
end
end G

/-! G6: calls of built-in functions and methods -/
namespace G
open PySem PySem.Spec PyProof.Rows L2

/-! ### calls by values -/
abbrev Fn := List D → Mem → Out D
@[simp] def eCb (g : Fn) (a : Av) : Ev := fun ρ μ => (a ρ μ).bind fun ds μ1 => g ds μ1
def CbOk (K : Fr0) (mg : Str → Option Value) (r : List V → Hp → VK → Prop) (g : Fn) : Prop :=
  ∀ (W : WX) (σ : L2.St) (φ : List Addr) (H : Hp) (μ : Mem) (ds : List D) (vs : List V) (Q : VK), Sm K φ H μ → Rvs K φ H ds vs → Pg K mg W σ (Rv K) φ H (g ds μ) Q → r vs H Q
theorem cb_run {K : Fr0} {mg : Str → Option Value} {W : WX} {r : List V → Hp → VK → Prop} {g : Fn} {a : Av} {σ : L2.St} {H : Hp} {Q : VK} (ho : CbOk K mg r g) (h : tR K mg W (Rv K) (eCb g a) σ H Q) :
    tCB r (tR K mg W (Rvs K) a) σ H Q := by
  obtain ⟨φ, μ, ρ, hv, hs, hp⟩ := h
  refine ⟨φ, μ, ρ, hv, hs, Pg.imp (Pg.bind hp) fun xs H1 ⟨ds, μ1, φ1, g1, r1, s1, p1⟩ => ?_⟩
  exact ho W σ φ1 H1 μ1 ds xs Q s1 r1 p1
section
variable {X : Cx} {W : WX} {pos p : Pos} {e : Expr} {es : List Expr} {fa : Av} {id T : String} {x : Str} {r : List V → Hp → VK → Prop} {g : Fn}
theorem se_cb (hc : CallR X (.builtin id) r) (ho : CbOk X.K X.mg r g) (hm : X.mg x = none) (ha : SA X W (e :: es) fa) (hg : Gl X x := by rfl) (hv : bootBuiltins x = some (.builtin id) := by decide +kernel) (hn : x ≠ "__name__" := by decide) (hdb : (x == ("__debug__" : Str)) = false := by decide)
    (he : starEach (e :: es) X.env = (false, eval e X.env) :: starEach es X.env := by rfl) (hpl : (backTo pos (starEach es X.env)).any (·.1) = false := by rfl) : SE X W (.Call (.Name x p) (e :: es) [] pos) (eCb g fa) :=
  PE.imp (pe_callB hc hg hm hv ha hn hdb he hpl) fun _ _ _ h => cb_run ho h
theorem se_ct (hc : CallR X (.type T) r) (ho : CbOk X.K X.mg r g) (hm : X.mg x = none) (ha : SA X W (e :: es) fa) (hg : Gl X x := by rfl) (hv : bootBuiltins x = some (.type T) := by decide +kernel) (hn : x ≠ "__name__" := by decide) (hdb : (x == ("__debug__" : Str)) = false := by decide)
    (he : starEach (e :: es) X.env = (false, eval e X.env) :: starEach es X.env := by rfl) (hpl : (backTo pos (starEach es X.env)).any (·.1) = false := by rfl) : SE X W (.Call (.Name x p) (e :: es) [] pos) (eCb g fa) :=
  PE.imp (pe_callTy hc hg hm hv ha hn hdb he hpl) fun _ _ _ h => cb_run ho h
end
theorem rvs1 {K : Fr0} {φ : List Addr} {H : Hp} {d : D} {vs : List V} (h : Rvs K φ H [d] vs) : ∃ v, vs = [v] ∧ Rv K φ H d v := by
  obtain ⟨v, r, rfl, h1, h2⟩ := h
  cases (show r = [] from h2)
  exact ⟨v, rfl, h1⟩
theorem rvs2 {K : Fr0} {φ : List Addr} {H : Hp} {d e : D} {vs : List V} (h : Rvs K φ H [d, e] vs) : ∃ v u, vs = [v, u] ∧ Rv K φ H d v ∧ Rv K φ H e u := by
  obtain ⟨v, r, rfl, h1, h2⟩ := h
  obtain ⟨u, rfl, h3⟩ := rvs1 h2
  exact ⟨v, u, rfl, h1, h3⟩
theorem rvs0 {K : Fr0} {φ : List Addr} {H : Hp} {vs : List V} (h : Rvs K φ H [] vs) : vs = [] := h

/-! ### len, int, max, min, abs -/
def lenD : Fn := fun ds μ => match ds with
  | [.str z] => if z.length ≤ 1000000 then .ok (.int z.length) μ else .bad
  | [d] => match seqOf μ d with
    | some xs => .ok (.int xs.length) μ
    | none => .bad
  | _ => .bad
theorem cb_len {K : Fr0} {mg : Str → Option Value} : CbOk K mg (fun xs H Q => ∃ x n, xs = [x] ∧ LenV K x H n ∧ Q (.int n) H) lenD := by
  intro W σ φ H μ ds vs Q s r h
  unfold lenD at h
  split at h
  · rename_i z
    obtain ⟨v, rfl, hv⟩ := rvs1 r
    by_cases hz : z.length ≤ 1000000
    · rw [if_pos hz] at h
      cases (show v = .str (tx z) from hv)
      exact ⟨_, z.length, rfl, ⟨len_str hz, (tx_len z).symm⟩, Pg.here (d := D.int _) h rfl s⟩
    · rw [if_neg hz] at h; exact h.elim
  · obtain ⟨v, rfl, hv⟩ := rvs1 r
    split at h
    · rename_i xs e0
      obtain ⟨a, vs, rfl, hq, rr⟩ := seqOf_sq s e0 hv
      refine ⟨_, xs.length, rfl, ?_, Pg.here (d := D.int _) h rfl s⟩
      rcases hq with hq | hq
      · exact .inl ⟨vs, hq, rr.length.symm⟩
      · exact .inr ⟨vs, hq, rr.length.symm⟩
    · exact h.elim
  · exact h.elim
def toInt : Fn := fun ds μ => match ds with
  | [.int i] => .ok (.int i) μ
  | [.bl b] => .ok (.int (if b then 1 else 0)) μ
  | _ => .bad
theorem cb_int {K : Fr0} {mg : Str → Option Value} : CbOk K mg (fun xs H Q => (∃ i, xs = [.int i] ∧ Q (.int i) H) ∨ ∃ k, xs = [.bl k] ∧ Q (.int (if k then 1 else 0)) H) toInt := by
  intro W σ φ H μ ds vs Q s r h
  unfold toInt at h
  split at h
  · obtain ⟨v, rfl, hv⟩ := rvs1 r
    exact .inl ⟨_, by rw [show v = _ from hv], Pg.here (d := D.int _) h rfl s⟩
  · obtain ⟨v, rfl, hv⟩ := rvs1 r
    exact .inr ⟨_, by rw [show v = _ from hv], Pg.here (d := D.int _) h rfl s⟩
  · exact h.elim
def max2D : Fn := fun ds μ => match ds with
  | [.int i, .int j] => .ok (.int (if j > i then j else i)) μ
  | _ => .bad
def min2D : Fn := fun ds μ => match ds with
  | [.int i, .int j] => .ok (.int (if j < i then j else i)) μ
  | _ => .bad
def absD : Fn := fun ds μ => match ds with
  | [.int i] => .ok (.int (if i < 0 then -i else i)) μ
  | _ => .bad
theorem cb_max2 {K : Fr0} {mg : Str → Option Value} : CbOk K mg (fun xs H Q => ∃ i j, xs = [.int i, .int j] ∧ Q (.int (if j > i then j else i)) H) max2D := by
  intro W σ φ H μ ds vs Q s r h
  unfold max2D at h
  split at h
  · obtain ⟨v, u, rfl, hv, hu⟩ := rvs2 r
    exact ⟨_, _, by rw [show v = _ from hv, show u = _ from hu], Pg.here (d := D.int _) h rfl s⟩
  · exact h.elim
theorem cb_min2 {K : Fr0} {mg : Str → Option Value} : CbOk K mg (fun xs H Q => ∃ i j, xs = [.int i, .int j] ∧ Q (.int (if j < i then j else i)) H) min2D := by
  intro W σ φ H μ ds vs Q s r h
  unfold min2D at h
  split at h
  · obtain ⟨v, u, rfl, hv, hu⟩ := rvs2 r
    exact ⟨_, _, by rw [show v = _ from hv, show u = _ from hu], Pg.here (d := D.int _) h rfl s⟩
  · exact h.elim
theorem cb_abs {K : Fr0} {mg : Str → Option Value} : CbOk K mg (fun xs H Q => ∃ i, xs = [.int i] ∧ Q (.int (if i < 0 then -i else i)) H) absD := by
  intro W σ φ H μ ds vs Q s r h
  unfold absD at h
  split at h
  · obtain ⟨v, rfl, hv⟩ := rvs1 r
    exact ⟨_, by rw [show v = _ from hv], Pg.here (d := D.int _) h rfl s⟩
  · exact h.elim

/-! ### all, any over lists of truth values -/
def blsOf : List D → Option (List Bool)
  | [] => some []
  | .bl b :: r => (blsOf r).map (b :: ·)
  | _ => none
theorem bls_of {K : Fr0} {φ : List Addr} {H : Hp} : ∀ {ds : List D} {vs : List V} {bs : List Bool}, blsOf ds = some bs → Rvs K φ H ds vs → vs = bs.map V.bl
  | [], vs, bs, e, r => by cases e; exact r
  | d :: ds, vs, bs, e, r => by
    obtain ⟨v, r', rfl, h1, h2⟩ := r
    cases d with
    | bl b =>
      have e : (blsOf ds).map (b :: ·) = some bs := e
      obtain ⟨cs, e1, rfl⟩ := map_some e
      rw [show v = .bl b from h1, bls_of e1 h2]
      rfl
    | _ => cases e
def allD : Fn := fun ds μ => match ds with
  | [d] => match (lstOf μ d).bind blsOf with
    | some bs => .ok (.bl (bs.all id)) μ
    | none => .bad
  | _ => .bad
def anyD : Fn := fun ds μ => match ds with
  | [d] => match (lstOf μ d).bind blsOf with
    | some bs => .ok (.bl (bs.any id)) μ
    | none => .bad
  | _ => .bad
theorem lst_bls {K : Fr0} {φ : List Addr} {H : Hp} {μ : Mem} {d : D} {v : V} {bs : List Bool} (s : Sm K φ H μ) (r : Rv K φ H d v) (e : (lstOf μ d).bind blsOf = some bs) : ∃ a, v = .ref a ∧ SqL K H a (bs.map V.bl) := by
  cases e1 : lstOf μ d with
  | none => rw [e1] at e; cases e
  | some xs =>
    rw [e1] at e
    obtain ⟨a, vs, rfl, hq, rr⟩ := lstOf_sq s e1 r
    rw [bls_of (show blsOf xs = some bs from e) rr] at hq
    exact ⟨a, rfl, hq⟩
theorem cb_all {K : Fr0} {mg : Str → Option Value} : CbOk K mg (rAll K) allD := by
  intro W σ φ H μ ds vs Q s r h
  unfold allD at h
  split at h
  · obtain ⟨v, rfl, hv⟩ := rvs1 r
    split at h
    · rename_i bs e0
      obtain ⟨a, rfl, hq⟩ := lst_bls s hv e0
      exact ⟨a, bs, rfl, hq, Pg.here (d := D.bl _) h rfl s⟩
    · exact h.elim
  · exact h.elim
theorem cb_any {K : Fr0} {mg : Str → Option Value} : CbOk K mg (rAny K) anyD := by
  intro W σ φ H μ ds vs Q s r h
  unfold anyD at h
  split at h
  · obtain ⟨v, rfl, hv⟩ := rvs1 r
    split at h
    · rename_i bs e0
      obtain ⟨a, rfl, hq⟩ := lst_bls s hv e0
      exact ⟨a, bs, rfl, hq, Pg.here (d := D.bl _) h rfl s⟩
    · exact h.elim
  · exact h.elim

/-! ### tuple(..), list(..) -/
def tupD : Fn := fun ds μ => match ds with
  | [d] => match seqOf μ d with
    | some xs => .ok (.tup xs) μ
    | none => .bad
  | _ => .bad
def listD : Fn := fun ds μ => match ds with
  | [d] => match seqOf μ d with
    | some xs => .ok (.ref μ.length) (μ ++ [.lst xs])
    | none => .bad
  | _ => .bad
theorem cb_list {K : Fr0} {mg : Str → Option Value} : CbOk K mg (fun xs H Q => ∃ p ys, xs = [.ref p] ∧ (SqL K H p ys ∨ SqT K H p ys) ∧ ∀ l, H l = none → Q (.ref l) (upd H l (.lst ys))) listD := by
  intro W σ φ H μ ds vs Q s r h
  unfold listD at h
  split at h
  · obtain ⟨v, rfl, hv⟩ := rvs1 r
    split at h
    · rename_i xs e0
      obtain ⟨a, vs, rfl, hq, rr⟩ := seqOf_sq s e0 hv
      exact ⟨a, vs, rfl, hq, fun l hl => h.newList s rr hl⟩
    · exact h.elim
  · exact h.elim
theorem cb_tuple {K : Fr0} {mg : Str → Option Value} : CbOk K mg (fun xs H Q => ∃ p ys, xs = [.ref p] ∧ ((SqL K H p ys ∧ ∀ l, H l = none → Q (.ref l) (upd H l (.tup ys))) ∨ (SqT K H p ys ∧ Q (.ref p) H))) tupD := by
  intro W σ φ H μ ds vs Q s r h
  unfold tupD at h
  split at h
  · obtain ⟨v, rfl, hv⟩ := rvs1 r
    split at h
    · rename_i xs e0
      obtain ⟨a, vs, rfl, hq, rr⟩ := seqOf_sq s e0 hv
      rcases hq with hq | hq
      · exact ⟨a, vs, rfl, .inl ⟨hq, fun l hl => h.newTup s rr hl⟩⟩
      · exact ⟨a, vs, rfl, .inr ⟨hq, Pg.here h ⟨a, vs, rfl, hq, rr⟩ s⟩⟩
    · exact h.elim
  · exact h.elim
section
variable {X : Cx} {W : WX} {pos p : Pos} {e : Expr} {es : List Expr} {fa : Av}
theorem se_len (hm : X.mg "len" = none) (ha : SA X W [e] fa) (hg : Gl X "len" := by rfl) (he : starEach [e] X.env = (false, eval e X.env) :: starEach [] X.env := by rfl) : SE X W (.Call (.Name "len" p) [e] [] pos) (eCb lenD fa) := se_cb call_len cb_len hm ha hg PySem.boot_len (by decide) (by decide) he rfl
theorem se_int' (hm : X.mg "int" = none) (ha : SA X W [e] fa) (hg : Gl X "int" := by rfl) (he : starEach [e] X.env = (false, eval e X.env) :: starEach [] X.env := by rfl) : SE X W (.Call (.Name "int" p) [e] [] pos) (eCb toInt fa) := se_ct call_int1 cb_int hm ha hg (by decide +kernel) (by decide) (by decide) he rfl
theorem se_all (hm : X.mg "all" = none) (ha : SA X W [e] fa) (hc : X.calm = true := by rfl) (hg : Gl X "all" := by rfl) (he : starEach [e] X.env = (false, eval e X.env) :: starEach [] X.env := by rfl) : SE X W (.Call (.Name "all" p) [e] [] pos) (eCb allD fa) := se_cb (cr_all hc) cb_all hm ha hg (by decide +kernel) (by decide) (by decide) he rfl
theorem se_any (hm : X.mg "any" = none) (ha : SA X W [e] fa) (hc : X.calm = true := by rfl) (hg : Gl X "any" := by rfl) (he : starEach [e] X.env = (false, eval e X.env) :: starEach [] X.env := by rfl) : SE X W (.Call (.Name "any" p) [e] [] pos) (eCb anyD fa) := se_cb (cr_any hc) cb_any hm ha hg (by decide +kernel) (by decide) (by decide) he rfl
theorem se_tuple (hm : X.mg "tuple" = none) (ha : SA X W [e] fa) (hg : Gl X "tuple" := by rfl) (he : starEach [e] X.env = (false, eval e X.env) :: starEach [] X.env := by rfl) : SE X W (.Call (.Name "tuple" p) [e] [] pos) (eCb tupD fa) := se_ct call_tuple_of cb_tuple hm ha hg (by decide +kernel) (by decide) (by decide) he rfl
theorem se_list (hm : X.mg "list" = none) (ha : SA X W [e] fa) (hg : Gl X "list" := by rfl) (he : starEach [e] X.env = (false, eval e X.env) :: starEach [] X.env := by rfl) : SE X W (.Call (.Name "list" p) [e] [] pos) (eCb listD fa) := se_ct call_list_of cb_list hm ha hg (by decide +kernel) (by decide) (by decide) he rfl
theorem se_abs (hm : X.mg "abs" = none) (ha : SA X W [e] fa) (hg : Gl X "abs" := by rfl) (he : starEach [e] X.env = (false, eval e X.env) :: starEach [] X.env := by rfl) : SE X W (.Call (.Name "abs" p) [e] [] pos) (eCb absD fa) := se_cb call_abs cb_abs hm ha hg (by decide +kernel) (by decide) (by decide) he rfl
theorem se_max2 {e2 : Expr} (hm : X.mg "max" = none) (ha : SA X W [e, e2] fa) (hc : X.calm = true := by rfl) (hg : Gl X "max" := by rfl) (he : starEach [e, e2] X.env = (false, eval e X.env) :: starEach [e2] X.env := by rfl) (hpl : (backTo pos (starEach [e2] X.env)).any (·.1) = false := by rfl) : SE X W (.Call (.Name "max" p) [e, e2] [] pos) (eCb max2D fa) := se_cb (call_max2 hc) cb_max2 hm ha hg (by decide +kernel) (by decide) (by decide) he hpl
theorem se_min2 {e2 : Expr} (hm : X.mg "min" = none) (ha : SA X W [e, e2] fa) (hc : X.calm = true := by rfl) (hg : Gl X "min" := by rfl) (he : starEach [e, e2] X.env = (false, eval e X.env) :: starEach [e2] X.env := by rfl) (hpl : (backTo pos (starEach [e2] X.env)).any (·.1) = false := by rfl) : SE X W (.Call (.Name "min" p) [e, e2] [] pos) (eCb min2D fa) := se_cb (call_min2 hc) cb_min2 hm ha hg (by decide +kernel) (by decide) (by decide) he hpl
end

/-! ### isinstance(x, T), T a built-in class -/
inductive Kd where
  | non | bl | int | str | tup | lst | dct
  deriving DecidableEq
def Kd.name : Kd → String
  | .non => "NoneType" | .bl => "bool" | .int => "int" | .str => "str" | .tup => "tuple" | .lst => "list" | .dct => "dict"
def Kd.isB (a b : Kd) : Bool := decide (a = b) || (decide (a = .bl) && decide (b = .int))
theorem Kd.kit (a b : Kd) (h : b ≠ .non) : kitB a.name b.name = some (a.isB b) := by
  cases b
  · exact absurd rfl h
  all_goals (cases a <;> decide +kernel)
def kdOf (μ : Mem) : D → Option Kd
  | .non => some .non
  | .bl _ => some .bl
  | .int _ => some .int
  | .str _ => some .str
  | .tup _ => some .tup
  | .fl _ => some .lst
  | .ref l => match μ[l]? with
    | some (.lst _) => some .lst
    | some (.dct _) => some .dct
    | none => none
  | .xo _ _ _ _ => none
theorem kd_ty {K : Fr0} {φ : List Addr} {H : Hp} {μ : Mem} {d : D} {x : V} {k : Kd} (s : Sm K φ H μ) (e : kdOf μ d = some k) (r : Rv K φ H d x) : TyX K H x (.type k.name) := by
  cases d with
  | non => cases e; cases (show x = .non from r); exact .base .non
  | bl b => cases e; cases (show x = .bl b from r); exact .base (.bl b)
  | int b => cases e; cases (show x = .int b from r); exact .base (.int b)
  | str b => cases e; cases (show x = .str (tx b) from r); exact .base (.str _)
  | tup ys =>
    cases e
    obtain ⟨a, vs, rfl, h, _⟩ := r
    rcases h with (h | ⟨o, h⟩) | ⟨o, its, n, h, hc, _⟩
    · exact .base (.tup h)
    · exact .fTuple h
    · exact .kTuple h hc
  | fl ys =>
    cases e
    obtain ⟨a, vs, rfl, h, _⟩ := r
    rcases h with ⟨o, h⟩ | ⟨o, its, n, h, hc, _⟩
    · exact .base (.frz h)
    · exact .kList h hc
  | xo _ _ _ _ => cases e
  | ref l =>
    obtain ⟨a, ha, rfl⟩ := r
    have e : (match μ[l]? with
      | some (.lst _) => some Kd.lst
      | some (.dct _) => some Kd.dct
      | none => none) = some k := e
    split at e
    · rename_i xs e0
      cases e
      obtain ⟨vs, h, _⟩ := s.ob l a _ ha e0
      exact .base (.lst h)
    · rename_i xs e0
      cases e
      obtain ⟨vs, h, _⟩ := s.ob l a _ ha e0
      exact .base (.dK h)
    · cases e
@[simp] def eIsi (t : Kd) (a : Ev) : Ev := fun ρ μ => (a ρ μ).bind fun d μ1 => match kdOf μ1 d with
  | some k => .ok (.bl (k.isB t)) μ1
  | none => .bad
section
variable {X : Cx} {W : WX} {pos p p2 : Pos} {e : Expr} {fe : Ev}
theorem se_isi (t : Kd) {x : Str} (hm : X.mg "isinstance" = none) (hm2 : X.mg x = none) (ha : SE X W e fe) (ht : t ≠ .non := by decide) (hv : bootBuiltins x = some (.type t.name) := by decide +kernel)
    (hg : Gl X "isinstance" := by rfl) (hg2 : Gl X x := by rfl) (hn : x ≠ "__name__" := by decide) (hd : (x == ("__debug__" : Str)) = false := by decide)
    (he : starEach [e, .Name x p2] X.env = (false, eval e X.env) :: starEach [.Name x p2] X.env := by rfl) (hpl : (backTo pos (starEach [.Name x p2] X.env)).any (·.1) = false := by rfl) :
    SE X W (.Call (.Name "isinstance" p) [e, .Name x p2] [] pos) (eIsi t fe) :=
  PE.imp (pe_callB call_isi hg hm (by decide +kernel) (pa_cons ha (pa_cons (pe_bltn (v := .ty t.name) hg2 hm2 hv rfl hn hd) pa_nil rfl) he) (by decide) (by decide) he hpl) fun σ H Q ⟨φ, μ, ρ, hv, hs, hp⟩ =>
    ⟨φ, μ, ρ, hv, hs, Pg.imp (Pg.bind hp) fun x H1 ⟨d, μ1, φ1, g1, r1, s1, p1⟩ => by
      split at p1
      · rename_i k ek
        exact ⟨x, .ty t.name, .type k.name, .type t.name, k.isB t, rfl, .ty _, kd_ty s1 ek r1, kit_ty (Kd.kit k t ht), Pg.here (d := D.bl _) p1 rfl s1⟩
      · exact p1.elim⟩
end
end G

/-! G7: methods of texts and lists, x[::-1] -/
namespace G
open PySem PySem.Spec PyProof.Rows L2

/-! ### methods -/
/-- a method's meaning by the receiver and the arguments -/
abbrev Mt := D → List D → Mem → Out D
def MtOk (K : Fr0) (mg : Str → Option Value) (r : V → List V → Hp → VK → Prop) (g : Mt) : Prop :=
  ∀ (W : WX) (σ : L2.St) (φ : List Addr) (H : Hp) (μ : Mem) (d : D) (x : V) (ds : List D) (vs : List V) (Q : VK), Sm K φ H μ → Rv K φ H d x → Rvs K φ H ds vs → Pg K mg W σ (Rv K) φ H (g d ds μ) Q → r x vs H Q
/-- o.m(..) of a text -/
@[simp] def eMs (g : Mt) (o : Ev) (a : Av) : Ev := fun ρ μ => (o ρ μ).bind fun d μ1 => match d with
  | .str z => (a ρ μ1).bind fun ds μ2 => g (.str z) ds μ2
  | _ => .bad
/-- o.m(..) of a list of the store -/
@[simp] def eMl (g : Mt) (o : Ev) (a : Av) : Ev := fun ρ μ => (o ρ μ).bind fun d μ1 => match d with
  | .ref l => match μ1[l]? with
    | some (.lst _) => (a ρ μ1).bind fun ds μ2 => g (.ref l) ds μ2
    | _ => .bad
  | _ => .bad
section
variable {X : Cx} {W : WX} {pos apos : Pos} {o e : Expr} {es : List Expr} {fo : Ev} {fa : Av} {id : String} {name : Str} {r : V → List V → Hp → VK → Prop} {g : Mt}
theorem se_ms0 (slot : Slot "str" name id) (ty : typeOf (.builtin id) = pure (.type "method_descriptor")) (rule : MtR X id r) (ok : MtOk X.K X.mg r g) (ho : SE X W o fo)
    (hbase : attributeBase o name X.env (eval o X.env) = eval o X.env := by rfl) (hline : (apos.endLine == pos.line) = true := by rfl) : SE X W (.Call (.Attribute o name apos) [] [] pos) (eMs g fo aNil) :=
  PE.imp (pe_bm0 F.plainAttrs_str slot ty rule ho hbase hline) fun σ H Q ⟨φ, μ, ρ, hv, hs, hp⟩ => ⟨φ, μ, ρ, hv, hs, Pg.imp (Pg.bind hp) fun x H1 ⟨d, μ1, φ1, g1, r1, s1, p1⟩ => by
    cases d with
    | str z =>
      cases (show x = .str (tx z) from r1)
      exact ⟨rfl, ok W σ φ1 H1 μ1 (.str z) _ [] [] Q s1 rfl rfl p1⟩
    | _ => exact p1.elim⟩
theorem se_ms1 (slot : Slot "str" name id) (ty : typeOf (.builtin id) = pure (.type "method_descriptor")) (rule : MtR X id r) (ok : MtOk X.K X.mg r g) (ho : SE X W o fo) (ha : SA X W (e :: es) fa)
    (hbase : attributeBase o name X.env (eval o X.env) = eval o X.env := by rfl)
    (hfew : ((backTo pos (starEach (e :: es) X.env)).all (fun x => !x.1) && (backToKw pos (keywordEach [] X.env)).all (fun x => x.1.isSome)
      && decide ((e :: es).length + ([] : List Keyword).length + (if ([] : List Keyword).isEmpty then 0 else 1) < 30)) = true := by rfl)
    (hline : (apos.endLine == pos.line) = true := by rfl) (hs : starEach (e :: es) X.env = (false, eval e X.env) :: starEach es X.env := by rfl) (hplain : (backTo pos (starEach es X.env)).any (·.1) = false := by rfl) :
    SE X W (.Call (.Attribute o name apos) (e :: es) [] pos) (eMs g fo fa) :=
  PE.imp (pe_bm F.plainAttrs_str slot ty rule ho ha hbase hfew hline hs hplain) fun σ H Q ⟨φ, μ, ρ, hv, hs, hp⟩ => ⟨φ, μ, ρ, hv, hs, Pg.imp (Pg.bind hp) fun x H1 ⟨d, μ1, φ1, g1, r1, s1, p1⟩ => by
    cases d with
    | str z =>
      cases (show x = .str (tx z) from r1)
      exact ⟨rfl, φ1, μ1, ρ, hv.mono g1, s1, Pg.imp (Pg.bind p1) fun xs H2 ⟨ds, μ2, φ2, g2, r2, s2, p2⟩ => ok W σ φ2 H2 μ2 (.str z) _ ds xs Q s2 rfl r2 p2⟩
    | _ => exact p1.elim⟩
theorem list_ty {K : Fr0} {φ : List Addr} {H : Hp} {μ : Mem} {l : Nat} {x : V} {xs : List D} (s : Sm K φ H μ) (e : μ[l]? = some (.lst xs)) (r : Rv K φ H (.ref l) x) : tyV K "list" x H := by
  obtain ⟨a, ha, rfl⟩ := r
  obtain ⟨vs, e1, _⟩ := s.ob l a _ ha e
  exact Or.inl ⟨rfl, vs, SqL.of e1⟩
theorem se_ml0 (slot : Slot "list" name id) (ty : typeOf (.builtin id) = pure (.type "method_descriptor")) (rule : MtR X id r) (ok : MtOk X.K X.mg r g) (ho : SE X W o fo)
    (hbase : attributeBase o name X.env (eval o X.env) = eval o X.env := by rfl) (hline : (apos.endLine == pos.line) = true := by rfl) : SE X W (.Call (.Attribute o name apos) [] [] pos) (eMl g fo aNil) :=
  PE.imp (pe_bm0 PySem.F.plainAttrs_list slot ty rule ho hbase hline) fun σ H Q ⟨φ, μ, ρ, hv, hs, hp⟩ => ⟨φ, μ, ρ, hv, hs, Pg.imp (Pg.bind hp) fun x H1 ⟨d, μ1, φ1, g1, r1, s1, p1⟩ => by
    cases d with
    | ref l =>
      have p1 : Pg X.K X.mg W σ (Rv X.K) φ1 H1 (match μ1[l]? with
        | some (.lst _) => (aNil ρ μ1).bind fun ds μ2 => g (.ref l) ds μ2
        | _ => .bad) Q := p1
      split at p1
      · rename_i xs e0
        exact ⟨list_ty s1 e0 r1, ok W σ φ1 H1 μ1 (.ref l) _ [] [] Q s1 r1 rfl p1⟩
      · exact p1.elim
    | _ => exact p1.elim⟩
theorem se_ml1 (slot : Slot "list" name id) (ty : typeOf (.builtin id) = pure (.type "method_descriptor")) (rule : MtR X id r) (ok : MtOk X.K X.mg r g) (ho : SE X W o fo) (ha : SA X W (e :: es) fa)
    (hbase : attributeBase o name X.env (eval o X.env) = eval o X.env := by rfl)
    (hfew : ((backTo pos (starEach (e :: es) X.env)).all (fun x => !x.1) && (backToKw pos (keywordEach [] X.env)).all (fun x => x.1.isSome)
      && decide ((e :: es).length + ([] : List Keyword).length + (if ([] : List Keyword).isEmpty then 0 else 1) < 30)) = true := by rfl)
    (hline : (apos.endLine == pos.line) = true := by rfl) (hs : starEach (e :: es) X.env = (false, eval e X.env) :: starEach es X.env := by rfl) (hplain : (backTo pos (starEach es X.env)).any (·.1) = false := by rfl) :
    SE X W (.Call (.Attribute o name apos) (e :: es) [] pos) (eMl g fo fa) :=
  PE.imp (pe_bm PySem.F.plainAttrs_list slot ty rule ho ha hbase hfew hline hs hplain) fun σ H Q ⟨φ, μ, ρ, hv, hs, hp⟩ => ⟨φ, μ, ρ, hv, hs, Pg.imp (Pg.bind hp) fun x H1 ⟨d, μ1, φ1, g1, r1, s1, p1⟩ => by
    cases d with
    | ref l =>
      have p1 : Pg X.K X.mg W σ (Rv X.K) φ1 H1 (match μ1[l]? with
        | some (.lst _) => (fa ρ μ1).bind fun ds μ2 => g (.ref l) ds μ2
        | _ => .bad) Q := p1
      split at p1
      · rename_i xs e0
        exact ⟨list_ty s1 e0 r1, φ1, μ1, ρ, hv.mono g1, s1, Pg.imp (Pg.bind p1) fun xs H2 ⟨ds, μ2, φ2, g2, r2, s2, p2⟩ => ok W σ φ2 H2 μ2 (.ref l) _ ds xs Q s2 (r1.mono g2) r2 p2⟩
      · exact p1.elim
    | _ => exact p1.elim⟩
end

/-! ### lists -/
def appendM : Mt := fun d ds μ => match d, ds with
  | .ref l, [y] => match μ[l]? with
    | some (.lst xs) => if xs.length < 1000000 then .ok .non (μ.set l (.lst (xs ++ [y]))) else .bad
    | _ => .bad
  | _, _ => .bad
def popM : Mt := fun d ds μ => match d, ds with
  | .ref l, [] => match μ[l]? with
    | some (.lst xs) => match xs.getLast? with
      | some y => .ok y (μ.set l (.lst xs.dropLast))
      | none => .bad
    | _ => .bad
  | _, _ => .bad
def extendM : Mt := fun d ds μ => match d, ds with
  | .ref l, [.ref k] => match μ[l]?, μ[k]? with
    | some (.lst xs), some (.lst ys) => if xs.length + ys.length ≤ 1000000 then .ok .non (μ.set l (.lst (xs ++ ys))) else .bad
    | _, _ => .bad
  | _, _ => .bad
section
variable {K : Fr0} {mg : Str → Option Value} {W : WX} {σ : L2.St} {φ : List Addr} {H : Hp} {μ : Mem}
/-- a list of the store is written -/
theorem Pg.setL {l : Nat} {a : Addr} {ds : List D} {vs ws : List V} {d : D} {v : V} {Q : VK} (h : Pg K mg W σ (Rv K) φ H (.ok d (μ.set l (.lst ds))) Q) (s : Sm K φ H μ) (ha : φ[l]? = some a) (e : H a = some (.lst vs)) (r : Rvs K φ H ds ws) (rv : Rv K φ H d v) :
    Q v (upd H a (.lst ws)) := by
  have g : Gr φ H φ (upd H a (.lst ws)) := Gr.write ha e (fun _ z => by cases z) fun _ _ z => by cases z
  exact h _ _ φ g (rv.mono g) (s.write ha e (fun _ z => by cases z) (fun _ _ z => by cases z) ⟨ws, upd_same, r.mono g⟩)
end
theorem mt_appendOk {K : Fr0} {mg : Str → Option Value} : MtOk K mg rAppend appendM := by
  intro W σ φ H μ d x ds vs Q s rx rs h
  unfold appendM at h
  split at h
  · rename_i l y
    split at h
    · rename_i xs e0
      by_cases hz : xs.length < 1000000
      · rw [if_pos hz] at h
        obtain ⟨a, ha, rfl⟩ := rx
        obtain ⟨us, e1, r1⟩ := s.ob l a _ ha e0
        obtain ⟨v, rfl, rv⟩ := rvs1 rs
        exact ⟨a, us, v, rfl, rfl, e1, by rw [r1.length, sizeLine_eq]; omega, h.setL s ha e1 (r1.append (Rvs.one rv)) rfl⟩
      · rw [if_neg hz] at h; exact h.elim
    · exact h.elim
  · exact h.elim
theorem mt_popOk {K : Fr0} {mg : Str → Option Value} : MtOk K mg rPop popM := by
  intro W σ φ H μ d x ds vs Q s rx rs h
  unfold popM at h
  split at h
  · rename_i l
    split at h
    · rename_i xs e0
      split at h
      · rename_i y ey
        obtain ⟨a, ha, rfl⟩ := rx
        obtain ⟨us, e1, r1⟩ := s.ob l a _ ha e0
        cases rvs0 rs
        rw [List.getLast?_eq_getElem?] at ey
        obtain ⟨v, ev, rv⟩ := r1.get ey
        exact ⟨a, us, v, rfl, rfl, e1, by rw [r1.length]; exact ev, h.setL s ha e1 r1.dropLast rv⟩
      · exact h.elim
    · exact h.elim
  · exact h.elim
theorem mt_extendOk {K : Fr0} {mg : Str → Option Value} : MtOk K mg rExtend extendM := by
  intro W σ φ H μ d x ds vs Q s rx rs h
  unfold extendM at h
  split at h
  · rename_i l k
    split at h
    · rename_i xs ys e0 e9
      by_cases hz : xs.length + ys.length ≤ 1000000
      · rw [if_pos hz] at h
        obtain ⟨a, ha, rfl⟩ := rx
        obtain ⟨us, e1, r1⟩ := s.ob l a _ ha e0
        obtain ⟨v, rfl, rv⟩ := rvs1 rs
        obtain ⟨b, hb, rfl⟩ := rv
        obtain ⟨ws, e2, r2⟩ := s.ob k b _ hb e9
        exact ⟨a, b, us, ws, rfl, rfl, e1, e2, by rw [r1.length, r2.length]; exact line_of hz, h.setL s ha e1 (r1.append r2) rfl⟩
      · rw [if_neg hz] at h; exact h.elim
    · exact h.elim
  · exact h.elim
section
variable {X : Cx} {W : WX} {pos apos : Pos} {o e : Expr} {fo : Ev} {fa : Av}
theorem se_append (ho : SE X W o fo) (ha : SA X W [e] fa) (hbase : attributeBase o "append" X.env (eval o X.env) = eval o X.env := by rfl)
    (hfew : ((backTo pos (starEach [e] X.env)).all (fun x => !x.1) && (backToKw pos (keywordEach [] X.env)).all (fun x => x.1.isSome) && decide ([e].length + ([] : List Keyword).length + (if ([] : List Keyword).isEmpty then 0 else 1) < 30)) = true := by rfl)
    (hline : (apos.endLine == pos.line) = true := by rfl) (hs : starEach [e] X.env = (false, eval e X.env) :: starEach [] X.env := by rfl) : SE X W (.Call (.Attribute o "append" apos) [e] [] pos) (eMl appendM fo fa) :=
  se_ml1 PySem.F.slot_list_append PySem.F.type_list_append (L2.mt_append (X := X)) mt_appendOk ho ha hbase hfew hline hs rfl
theorem se_extend (ho : SE X W o fo) (ha : SA X W [e] fa) (hbase : attributeBase o "extend" X.env (eval o X.env) = eval o X.env := by rfl)
    (hfew : ((backTo pos (starEach [e] X.env)).all (fun x => !x.1) && (backToKw pos (keywordEach [] X.env)).all (fun x => x.1.isSome) && decide ([e].length + ([] : List Keyword).length + (if ([] : List Keyword).isEmpty then 0 else 1) < 30)) = true := by rfl)
    (hline : (apos.endLine == pos.line) = true := by rfl) (hs : starEach [e] X.env = (false, eval e X.env) :: starEach [] X.env := by rfl) : SE X W (.Call (.Attribute o "extend" apos) [e] [] pos) (eMl extendM fo fa) :=
  se_ml1 PySem.F.slot_list_extend PySem.F.type_list_extend (L2.mt_extend (X := X)) mt_extendOk ho ha hbase hfew hline hs rfl
theorem se_pop (ho : SE X W o fo) (hbase : attributeBase o "pop" X.env (eval o X.env) = eval o X.env := by rfl) (hline : (apos.endLine == pos.line) = true := by rfl) : SE X W (.Call (.Attribute o "pop" apos) [] [] pos) (eMl popM fo aNil) :=
  se_ml0 PySem.F.slot_list_pop PySem.F.type_list_pop (L2.mt_pop (X := X)) mt_popOk ho hbase hline
end

/-! ### texts: join, index, swapcase -/
def strsOf : List D → Option (List (List Nat))
  | [] => some []
  | .str x :: r => (strsOf r).map (x :: ·)
  | _ => none
theorem strs_of {K : Fr0} {φ : List Addr} {H : Hp} : ∀ {ds : List D} {vs : List V} {bs : List (List Nat)}, strsOf ds = some bs → Rvs K φ H ds vs → vs = (bs.map tx).map V.str
  | [], vs, bs, e, r => by cases e; exact r
  | d :: ds, vs, bs, e, r => by
    obtain ⟨v, r', rfl, h1, h2⟩ := r
    cases d with
    | str b =>
      have e : (strsOf ds).map (b :: ·) = some bs := e
      obtain ⟨cs, e1, rfl⟩ := map_some e
      rw [show v = .str (tx b) from h1, strs_of e1 h2]
      rfl
    | _ => cases e
/-- texts with a text between them -/
def joinL (s : List Nat) : List (List Nat) → List Nat
  | [] => []
  | [x] => x
  | x :: y :: r => x ++ s ++ joinL s (y :: r)
theorem join_tx (s : List Nat) : ∀ xs : List (List Nat), Str.join (tx s) (xs.map tx) = tx (joinL s xs)
  | [] => rfl
  | [x] => rfl
  | x :: y :: r => by
    show tx x ++ tx s ++ Str.join (tx s) ((y :: r).map tx) = _
    rw [join_tx s (y :: r), tx_app, tx_app]
    rfl
def joinM : Mt := fun d ds μ => match d, ds with
  | .str s, [e] => match (seqOf μ e).bind strsOf with
    | some xs => if (xs.map (·.length)).sum + xs.length * s.length ≤ 1000000 then .ok (.str (joinL s xs)) μ else .bad
    | none => .bad
  | _, _ => .bad
theorem mt_joinOk {K : Fr0} {mg : Str → Option Value} : MtOk K mg (fun x xs H Q => ∃ a p, ∃ ys : List Str, x = .str a ∧ xs = [.ref p] ∧ (SqL K H p (ys.map V.str) ∨ SqT K H p (ys.map V.str)) ∧
    (ys.map (·.length)).sum + ys.length * a.length ≤ 16777216 ∧ Q (.str (Txt.join a ys)) H) joinM := by
  intro W σ φ H μ d x ds vs Q s rx rs h
  unfold joinM at h
  split at h
  · rename_i z e
    obtain ⟨v, rfl, rv⟩ := rvs1 rs
    split at h
    · rename_i xs e0
      cases e1 : seqOf μ e with
      | none => rw [e1] at e0; cases e0
      | some ys =>
        rw [e1] at e0
        obtain ⟨a, us, rfl, hq, rr⟩ := seqOf_sq s e1 rv
        rw [strs_of (show strsOf ys = some xs from e0) rr] at hq
        by_cases hz : (xs.map (·.length)).sum + xs.length * z.length ≤ 1000000
        · rw [if_pos hz] at h
          have el : (xs.map tx).map (·.length) = xs.map (·.length) := by
            rw [List.map_map]
            exact List.map_congr_left fun y _ => tx_len y
          refine ⟨tx z, a, xs.map tx, rx, rfl, hq, by rw [el, List.length_map, tx_len]; omega, ?_⟩
          show Q (.str (Builtin.Str.glued (tx z) (xs.map tx))) H
          rw [StrLaws.glued_eq_join, join_tx]
          exact Pg.here (d := D.str _) h rfl s
        · rw [if_neg hz] at h; exact h.elim
    · exact h.elim
  · exact h.elim
/-- the first place of a sign -/
def ixOf (z : List Nat) (c : Nat) : Option Nat := z.findIdx? (· == c)
def indexM : Mt := fun d ds μ => match d, ds with
  | .str z, [.str [c]] => match ixOf z c with
    | some i => .ok (.int i) μ
    | none => .bad
  | _, _ => .bad
theorem at_one (z : List Nat) (c i : Nat) : StrLaws.At (tx z) (tx [c]) (tx z).length i ↔ z[i]? = some c := by
  have h := StrLaws.subAt_one (tx z) c i
  simp only [tx, List.toList_toArray] at h
  exact h
theorem mt_indexOk {K : Fr0} {mg : Str → Option Value} : MtOk K mg (fun x xs H Q => ∃ a b i rest, x = .str a ∧ xs = [.str b] ∧ Builtin.Str.occurrences a b 0 a.length 1 = i :: rest ∧ Q (.int (i : Nat)) H) indexM := by
  intro W σ φ H μ d x ds vs Q s rx rs h
  unfold indexM at h
  split at h
  · rename_i z c
    obtain ⟨v, rfl, rv⟩ := rvs1 rs
    cases (show v = .str (tx [c]) from rv)
    split at h
    · rename_i i e0
      unfold ixOf at e0
      rw [List.findIdx?_eq_some_iff_getElem] at e0
      obtain ⟨hi, e1, e2⟩ := e0
      have hc : z[i]? = some c := by rw [List.getElem?_eq_getElem hi, show z[i] = c by simpa using e1]
      rcases StrLaws.occ_head (tx z) (tx [c]) 1 (Nat.le_refl _) with ⟨_, hn⟩ | ⟨j, rest, ej, hj, hn⟩
      · exact absurd ((at_one z c i).mpr hc) (hn i)
      · have hj' := (at_one z c j).mp hj
        have e : j = i := by
          rcases Nat.lt_trichotomy j i with q | q | q
          · have := e2 j q
            obtain ⟨hj2, hj3⟩ := List.getElem?_eq_some_iff.mp hj'
            rw [hj3] at this
            simp at this
          · exact q
          · exact absurd ((at_one z c i).mpr hc) (hn i q)
        subst e
        exact ⟨tx z, tx [c], j, rest, rx, rfl, ej, Pg.here (d := D.int _) h rfl s⟩
    · exact h.elim
  · exact h.elim
/-- a sign with its case turned -/
def swc (c : Nat) : Nat := if 65 ≤ c ∧ c ≤ 90 then c + 32 else if 97 ≤ c ∧ c ≤ 122 then c - 32 else c
def swapM : Mt := fun d ds μ => match d, ds with
  | .str z, [] => if z.length ≤ 1000000 ∧ z.all (· < 128) = true then .ok (.str (z.map swc)) μ else .bad
  | _, _ => .bad
theorem swap_sign : ∀ c : Nat, c < 128 → (if Unicode.isUpper c then Unicode.lowerOf c else if Unicode.isLower c then Unicode.upperOf c else [c]) = [swc c] := by
  intro c hc
  have h : ∀ c : _root_.Fin 128, (if Unicode.isUpper c.1 then Unicode.lowerOf c.1 else if Unicode.isLower c.1 then Unicode.upperOf c.1 else [c.1]) = [swc c.1] := by decide +kernel
  exact h ⟨c, hc⟩
theorem swap_tx (z : List Nat) (h : ∀ c ∈ z, c < 128) : Txt.swapcase (tx z) = tx (z.map swc) := by
  unfold Txt.swapcase PySem.placed
  have e : (tx z).cps.mapIdx (fun i c => (if Unicode.isUpper c then Unicode.lowerAt (tx z).cps i else if Unicode.isLower c then Unicode.upperOf c else [c]).toArray) = (z.map fun c => #[swc c]).toArray := by
    apply Array.toList_inj.mp
    rw [Array.toList_mapIdx]
    apply List.ext_getElem
    · simp
    · intro i h1 h2
      have hi : i < z.length := by simpa using h1
      have hc : z[i] < 128 := h _ (List.getElem_mem hi)
      have el : Unicode.lowerAt (tx z).cps i = Unicode.lowerOf z[i] := by
        unfold Unicode.lowerAt
        have : (tx z).cps[i]? = some z[i] := by simp [tx, hi]
        rw [this]
        have hne : (z[i] == 0x3A3) = false := by simp; omega
        simp [hne]
      simp only [List.getElem_mapIdx, List.getElem_map]
      have ez : (tx z).cps.toList[i]'(by simpa using hi) = z[i] := by simp [tx]
      rw [ez, el, swap_sign _ hc]
  rw [e]
  congr 1
  have fl : ∀ (l : List Nat) (acc : Array Nat), (l.map fun c => #[swc c]).foldl (fun a b => a ++ b) acc = acc ++ (l.map swc).toArray := by
    intro l
    induction l with
    | nil => intro acc; simp
    | cons c r ih =>
      intro acc
      rw [List.map_cons, List.foldl_cons, ih]
      simp
  show (z.map fun c => #[swc c]).toArray.flatten = (z.map swc).toArray
  unfold Array.flatten
  rw [← Array.foldl_toList]
  exact (fl z #[]).trans (by simp)
theorem mt_swapcase {X : Cx} : MtR X "str.swapcase" (fun x xs H Q => ∃ a, x = .str a ∧ xs = [] ∧ a.length ≤ 5592405 ∧ Q (.str (Txt.swapcase a)) H) :=
  mt0 (C := fun a => a.length ≤ 5592405) (g := fun a => .str (Txt.swapcase a)) fun a _ s _ hc h => PySem.SC.swapcase (fit_swapcase hc) (h _ (s.toks + 1) ⟨_, rfl⟩)
theorem mt_swapOk {K : Fr0} {mg : Str → Option Value} : MtOk K mg (fun x xs H Q => ∃ a, x = .str a ∧ xs = [] ∧ a.length ≤ 5592405 ∧ Q (.str (Txt.swapcase a)) H) swapM := by
  intro W σ φ H μ d x ds vs Q s rx rs h
  unfold swapM at h
  split at h
  · rename_i z
    cases rvs0 rs
    by_cases hz : z.length ≤ 1000000 ∧ z.all (· < 128) = true
    · rw [if_pos hz] at h
      refine ⟨tx z, rx, rfl, by rw [tx_len]; omega, ?_⟩
      rw [swap_tx z fun c hc => by simpa using List.all_eq_true.mp hz.2 c hc]
      exact Pg.here (d := D.str _) h rfl s
    · rw [if_neg hz] at h; exact h.elim
  · exact h.elim
section
variable {X : Cx} {W : WX} {pos apos : Pos} {o e : Expr} {fo : Ev} {fa : Av}
theorem se_join (ho : SE X W o fo) (ha : SA X W [e] fa) (hbase : attributeBase o "join" X.env (eval o X.env) = eval o X.env := by rfl)
    (hfew : ((backTo pos (starEach [e] X.env)).all (fun x => !x.1) && (backToKw pos (keywordEach [] X.env)).all (fun x => x.1.isSome) && decide ([e].length + ([] : List Keyword).length + (if ([] : List Keyword).isEmpty then 0 else 1) < 30)) = true := by rfl)
    (hline : (apos.endLine == pos.line) = true := by rfl) (hs : starEach [e] X.env = (false, eval e X.env) :: starEach [] X.env := by rfl) : SE X W (.Call (.Attribute o "join" apos) [e] [] pos) (eMs joinM fo fa) :=
  se_ms1 F.slot_str_join F.type_str_join (L2.mt_join (X := X)) mt_joinOk ho ha hbase hfew hline hs rfl
theorem se_index (ho : SE X W o fo) (ha : SA X W [e] fa) (hbase : attributeBase o "index" X.env (eval o X.env) = eval o X.env := by rfl)
    (hfew : ((backTo pos (starEach [e] X.env)).all (fun x => !x.1) && (backToKw pos (keywordEach [] X.env)).all (fun x => x.1.isSome) && decide ([e].length + ([] : List Keyword).length + (if ([] : List Keyword).isEmpty then 0 else 1) < 30)) = true := by rfl)
    (hline : (apos.endLine == pos.line) = true := by rfl) (hs : starEach [e] X.env = (false, eval e X.env) :: starEach [] X.env := by rfl) : SE X W (.Call (.Attribute o "index" apos) [e] [] pos) (eMs indexM fo fa) :=
  se_ms1 F.slot_str_index F.type_str_index (L2.mt_sindex (X := X)) mt_indexOk ho ha hbase hfew hline hs rfl
theorem se_swapcase (ho : SE X W o fo) (hbase : attributeBase o "swapcase" X.env (eval o X.env) = eval o X.env := by rfl) (hline : (apos.endLine == pos.line) = true := by rfl) : SE X W (.Call (.Attribute o "swapcase" apos) [] [] pos) (eMs swapM fo aNil) :=
  se_ms0 F.slot_str_swapcase F.type_str_swapcase (mt_swapcase (X := X)) mt_swapOk ho hbase hline
end
end G

/-! G8: statements, loops, comprehensions -/
namespace G
open PySem PySem.Spec PyProof.Rows L2

section
variable {K : Fr0} {mg : Str → Option Value} {W : WX} {φ φ' : List Addr} {H H' : Hp}
theorem Ps.imp {r : SR} {E E' : Ends} (h : Ps K mg W φ H r E) (i1 : ∀ σ H, E.nx σ H → E'.nx σ H) (i2 : ∀ v H, E.rt v H → E'.rt v H) (i3 : ∀ σ H, E.bk σ H → E'.bk σ H) (i4 : ∀ σ H, E.ct σ H → E'.ct σ H) : Ps K mg W φ H r E' := by
  cases r with
  | nx ρ μ => exact fun σ H2 φ2 g v s => i1 _ _ (h σ H2 φ2 g v s)
  | rt d μ => exact fun v H2 φ2 g r s => i2 _ _ (h v H2 φ2 g r s)
  | bk ρ μ => exact fun σ H2 φ2 g v s => i3 _ _ (h σ H2 φ2 g v s)
  | ct ρ μ => exact fun σ H2 φ2 g v s => i4 _ _ (h σ H2 φ2 g v s)
  | ex e ρ μ => exact h
  | bad => exact h
theorem Ps.thn {α β : Type} {σ : L2.St} {R : List Addr → Hp → α → β → Prop} {ρ : Rho} {r : Out α} {g : α → Mem → SR} {E : Ends} (h : Ps K mg W φ H (r.thn ρ g) E) (hv : Vs K φ H ρ σ) :
    Pg K mg W σ R φ H r (fun x H1 => ∃ a μ1 φ1, Gr φ H φ1 H1 ∧ R φ1 H1 a x ∧ Sm K φ1 H1 μ1 ∧ Ps K mg W φ1 H1 (g a μ1) E) := by
  cases r with
  | ok d μ => exact fun v H2 φ2 g2 r2 s2 => ⟨d, μ, φ2, g2, r2, s2, Ps.grow g2 h⟩
  | ex e μ => exact fun H' φ' c dd g1 s1 rx => h σ H' φ' c dd g1 (hv.mono g1) s1 rx
  | bad => exact h
end

/-! ### blocks -/
@[simp] def sSkip : Sd := fun ρ μ => .nx ρ μ
@[simp] def sSeq (f g : Sd) : Sd := fun ρ μ => match f ρ μ with
  | .nx ρ1 μ1 => g ρ1 μ1
  | .rt d μ1 => .rt d μ1
  | .bk ρ1 μ1 => .bk ρ1 μ1
  | .ct ρ1 μ1 => .ct ρ1 μ1
  | .ex e ρ1 μ1 => .ex e ρ1 μ1
  | .bad => .bad
@[simp] def sIf (c : Tv) (f g : Sd) : Sd := fun ρ μ => (c ρ μ).thn ρ fun k μ1 => if k = true then f ρ μ1 else g ρ μ1
@[simp] def sRet (e : Ev) : Sd := fun ρ μ => (e ρ μ).thn ρ fun d μ1 => .rt d μ1
@[simp] def sRetN : Sd := fun _ μ => .rt .non μ
@[simp] def sExpr (e : Ev) : Sd := fun ρ μ => (e ρ μ).thn ρ fun _ μ1 => .nx ρ μ1
@[simp] def sSet (i : Nat) (e : Ev) : Sd := fun ρ μ => (e ρ μ).thn ρ fun d μ1 => .nx (ρ.set i (some d)) μ1
@[simp] def sBreak : Sd := fun ρ μ => .bk ρ μ
@[simp] def sCont : Sd := fun ρ μ => .ct ρ μ
/-- x op= e -/
def sAug (i : Nat) (o : Op) (e : Ev) : Sd := fun ρ μ => match ρ[i]? with
  | some (some x) => (e ρ μ).thn ρ fun y μ1 => match o x y μ1 with
    | .ok d μ2 => .nx (ρ.set i (some d)) μ2
    | _ => .bad
  | _ => .bad
section
variable {X : Cx} {W : WX} {pos pos' : Pos} {st : Stmt} {rest : List Stmt} {f g : Sd} {e : Expr} {fe : Ev}
theorem sss_nil : SSs X W [] sSkip := PSs.imp pss_nil fun D σ H ⟨φ, μ, ρ, hv, hs, hp⟩ => hp σ H φ (Gr.refl φ H) hv hs
theorem sss_cons (h1 : SS X W st f) (h2 : SSs X W rest g) : SSs X W (st :: rest) (sSeq f g) :=
  PSs.imp (pss_cons h1 h2) fun D σ H ⟨φ, μ, ρ, hv, hs, hp⟩ => by
    refine ⟨φ, μ, ρ, hv, hs, ?_⟩
    have hp : Ps X.K X.mg W φ H (match f ρ μ with
      | .nx ρ1 μ1 => g ρ1 μ1
      | .rt d μ1 => .rt d μ1
      | .bk ρ1 μ1 => .bk ρ1 μ1
      | .ct ρ1 μ1 => .ct ρ1 μ1
      | .ex e ρ1 μ1 => .ex e ρ1 μ1
      | .bad => .bad) D := hp
    cases e : f ρ μ with
    | nx ρ1 μ1 => rw [e] at hp; exact fun σ' H' φ' g1 v1 s1 => ⟨φ', μ1, ρ1, v1, s1, Ps.grow g1 hp⟩
    | rt d μ1 => rw [e] at hp; exact hp
    | bk ρ1 μ1 => rw [e] at hp; exact hp
    | ct ρ1 μ1 => rw [e] at hp; exact hp
    | ex x ρ1 μ1 => rw [e] at hp; exact hp
    | bad => rw [e] at hp; exact hp
theorem sss_one (h1 : SS X W st f) : SSs X W [st] f := pss_one h1
theorem ss_if {c : Expr} {a b : List Stmt} {tc : Tv} (hc : ST X W c tc) (ha : SSs X W a f) (hb : SSs X W b g) : SS X W (.If c a b pos) (sIf tc f g) :=
  PS.imp (ps_if hc ha hb) fun D σ H ⟨φ, μ, ρ, hv, hs, hp⟩ => ⟨φ, μ, ρ, hv, hs, Pg.imp (Ps.thn hp hv) fun c H1 ⟨k, μ1, φ1, g1, r1, s1, p1⟩ => by
    obtain rfl : k = c := r1
    cases k with
    | true => exact ⟨φ1, μ1, ρ, hv.mono g1, s1, p1⟩
    | false => exact ⟨φ1, μ1, ρ, hv.mono g1, s1, p1⟩⟩
theorem ss_ret (he : SE X W e fe) : SS X W (.Return (some e) pos) (sRet fe) :=
  PS.imp (ps_ret he) fun D σ H ⟨φ, μ, ρ, hv, hs, hp⟩ => ⟨φ, μ, ρ, hv, hs, Pg.imp (Ps.thn hp hv) fun x H1 ⟨d, μ1, φ1, g1, r1, s1, p1⟩ => p1 x H1 φ1 (Gr.refl _ _) r1 s1⟩
theorem ss_retN : SS X W (.Return none pos) sRetN := PS.imp ps_retN fun D σ H ⟨φ, μ, ρ, hv, hs, hp⟩ => hp .non H φ (Gr.refl _ _) rfl hs
theorem ss_pass : SS X W (.Pass pos) sSkip := PS.imp ps_pass fun D σ H ⟨φ, μ, ρ, hv, hs, hp⟩ => hp σ H φ (Gr.refl φ H) hv hs
theorem ss_break : SS X W (.Break pos) sBreak := PS.imp ps_break fun D σ H ⟨φ, μ, ρ, hv, hs, hp⟩ => hp σ H φ (Gr.refl φ H) hv hs
theorem ss_cont : SS X W (.Continue pos) sCont := PS.imp ps_continue fun D σ H ⟨φ, μ, ρ, hv, hs, hp⟩ => hp σ H φ (Gr.refl φ H) hv hs
theorem ss_doc {x j} : SS X W (.Expr (.Constant (.str x) j pos) pos') sSkip := PS.imp ps_doc fun D σ H ⟨φ, μ, ρ, hv, hs, hp⟩ => hp σ H φ (Gr.refl φ H) hv hs
theorem ss_expr (he : SE X W e fe) (hs : swapsWith e none pos.line X.env = pure false := by rfl) : SS X W (.Expr e pos) (sExpr fe) :=
  PS.imp (ps_expr he hs) fun D σ H ⟨φ, μ, ρ, hv, hs, hp⟩ => ⟨φ, μ, ρ, hv, hs, Pg.imp (Ps.thn hp hv) fun x H1 ⟨d, μ1, φ1, g1, r1, s1, p1⟩ => p1 σ H1 φ1 (Gr.refl _ _) (hv.mono g1) s1⟩
theorem ss_set (i : Nat) {x : Str} (hN : X.N.Nodup) (he : SE X W e fe) (hi : X.N[i]? = some x := by rfl) (hx : Loc X.env.scope x := by first | exact .inl rfl | exact .inr rfl) (hs : swapsWith e (some (.Name x pos')) pos.line X.env = pure false := by rfl)
    (hf : X.fn x = true ∨ X.env.scope.names.lookup x = some .local := by first | exact .inl rfl | exact .inr rfl) : SS X W (.Assign [.Name x pos'] e pos) (sSet i fe) :=
  PS.imp (ps_set hN hi hx he hs hf) fun D σ H ⟨φ, μ, ρ, hv, hs, hp⟩ => ⟨φ, μ, ρ, hv, hs, Pg.imp (Ps.thn hp hv) fun x H1 ⟨d, μ1, φ1, g1, r1, s1, p1⟩ => p1 _ H1 φ1 (Gr.refl _ _) ((hv.mono g1).set i r1) s1⟩
theorem ss_aug (i : Nat) {x : Str} {op : Operator} {r : R2} {o : Op} (hN : X.N.Nodup) (he : SE X W e fe) (hr : OpR X (inplaceOp op) r) (ho : Op2 X.K X.mg r o) (hi : X.N[i]? = some x := by rfl) (hx : Loc X.env.scope x := by first | exact .inl rfl | exact .inr rfl)
    (hf : X.fn x = true ∨ X.env.scope.names.lookup x = some .local := by first | exact .inl rfl | exact .inr rfl) : SS X W (.AugAssign (.Name x pos') op e pos) (sAug i o fe) :=
  PS.imp (ps_aug (ti := r) hN hi hx he hr hf) fun D σ H ⟨φ, μ, ρ, hv, hs, hp⟩ => by
    have hp : Ps X.K X.mg W φ H (match ρ[i]? with
      | some (some x) => (fe ρ μ).thn ρ fun y μ1 => match o x y μ1 with
        | .ok d μ2 => .nx (ρ.set i (some d)) μ2
        | _ => .bad
      | _ => .bad) D := hp
    split at hp
    · rename_i d0 e0
      obtain ⟨v0, ev, rv⟩ := hv.at' i d0 e0
      refine ⟨v0, ev, φ, μ, ρ, hv, hs, Pg.imp (Ps.thn hp hv) fun y H1 ⟨d, μ1, φ1, g1, r1, s1, p1⟩ => ?_⟩
      refine ho W σ φ1 H1 μ1 d0 d v0 y _ s1 (rv.mono g1) r1 ?_
      split at p1
      · rename_i d2 μ2 e2
        rw [e2]
        exact fun z H2 φ2 g2 r2 s2 => p1 _ H2 φ2 g2 (((hv.mono g1).mono g2).set i r2) s2
      · exact p1.elim
    · exact hp.elim
end

/-! ### targets -/
inductive Tg where
  | name (i : Nat)
  | tup (is : List Nat)
def gsN : List Nat → TGs
  | [] => gNil
  | i :: r => gCons (gName i) (gsN r)
def tgR (K : Fr0) : Tg → TG
  | .name i => gName i
  | .tup is => gTup K is.length (gsN is)
@[simp] def setAll {α : Type} : List (Option α) → List Nat → List α → List (Option α)
  | ρ, i :: is, d :: ds => setAll (ρ.set i (some d)) is ds
  | ρ, _, _ => ρ
@[simp] def tgD : Tg → D → Rho → Option Rho
  | .name i, d, ρ => some (ρ.set i (some d))
  | .tup is, .tup xs, ρ => if is.length = xs.length then some (setAll ρ is xs) else none
  | _, _, _ => none
def Tg.slots : Tg → List Nat
  | .name i => [i]
  | .tup is => is
theorem wipe_set : ∀ {ws : List Nat} {σ : L2.St} {i : Nat} {v : Option V}, i ∈ ws → L2.wipe (σ.set i v) ws = L2.wipe σ ws
  | w :: ws, σ, i, v, h => by
    unfold L2.wipe
    by_cases hi : i ∈ ws
    · rw [wipe_set hi]
    · have e : i = w := by
        rcases List.mem_cons.mp h with q | q
        · exact q
        · exact absurd q hi
      subst e
      have : ∀ (ws : List Nat) (σ : L2.St), i ∉ ws → L2.wipe (σ.set i v) ws = (L2.wipe σ ws).set i v := by
        intro ws
        induction ws with
        | nil => intro σ _; rfl
        | cons w ws ih =>
          intro σ hn
          unfold L2.wipe
          rw [ih σ fun z => hn (List.mem_cons_of_mem _ z)]
          rw [List.set_comm _ _ (fun z => hn (by rw [z]; exact List.mem_cons_self))]
      rw [this ws σ hi, List.set_set]
theorem wipe_setAll : ∀ {is ws : List Nat} {σ : L2.St} {vs : List V}, (∀ i ∈ is, i ∈ ws) → L2.wipe (setAll σ is vs) ws = L2.wipe σ ws
  | [], ws, σ, vs, _ => by cases vs <;> rfl
  | i :: is, ws, σ, [], _ => rfl
  | i :: is, ws, σ, v :: vs, h => by
    unfold setAll
    rw [wipe_setAll fun j hj => h j (List.mem_cons_of_mem _ hj), wipe_set (h i List.mem_cons_self)]
theorem vs_setAll {K : Fr0} {φ : List Addr} {H : Hp} : ∀ {is : List Nat} {ρ : Rho} {σ : L2.St} {ds : List D} {vs : List V}, Vs K φ H ρ σ → Rvs K φ H ds vs → Vs K φ H (setAll ρ is ds) (setAll σ is vs)
  | [], ρ, σ, ds, vs, h, r => by cases ds <;> cases vs <;> exact h
  | i :: is, ρ, σ, [], vs, h, r => by cases (show vs = [] from r); exact h
  | i :: is, ρ, σ, d :: ds, vs, h, r => by
    obtain ⟨v, r', rfl, r1, r2⟩ := r
    show Vs K φ H (setAll (ρ.set i (some d)) is ds) (setAll (σ.set i (some v)) is r')
    exact vs_setAll (h.set i r1) r2
theorem gsN_run : ∀ {is : List Nat} {vs : List V} {σ : L2.St} {H : Hp} {Q : L2.St → Hp → Prop}, is.length = vs.length → Q (setAll σ is vs) H → gsN is vs σ H Q
  | [], [], σ, H, Q, _, q => ⟨rfl, q⟩
  | i :: is, v :: vs, σ, H, Q, h, q => ⟨v, vs, rfl, gsN_run (by simpa using h) q⟩
/-- the target takes the value -/
theorem tg_run {K : Fr0} {φ : List Addr} {H : Hp} {μ : Mem} {t : Tg} {d : D} {x : V} {ρ ρ' : Rho} {σ : L2.St} {Q : L2.St → Hp → Prop} (hv : Vs K φ H ρ σ) (r : Rv K φ H d x) (e : tgD t d ρ = some ρ')
    (q : ∀ σ', Vs K φ H ρ' σ' → (∀ ws, (∀ i ∈ t.slots, i ∈ ws) → L2.wipe σ' ws = L2.wipe σ ws) → Q σ' H) : tgR K t x σ H Q := by
  cases t with
  | name i =>
    cases e
    exact q _ (hv.set i r) fun ws h => wipe_set (h i List.mem_cons_self)
  | tup is =>
    cases d with
    | tup xs =>
      have e : (if is.length = xs.length then some (setAll ρ is xs) else none) = some ρ' := e
      by_cases hl : is.length = xs.length
      · rw [if_pos hl] at e
        cases e
        obtain ⟨a, vs, rfl, h1, r1⟩ := r
        refine ⟨a, vs, rfl, h1, by rw [r1.length, hl], gsN_run (by rw [r1.length, hl]) (q _ (vs_setAll hv r1) fun ws h => wipe_setAll h)⟩
      · rw [if_neg hl] at e; cases e
    | _ => cases e
section
variable {X : Cx} {pos : Pos}
theorem sg_name (i : Nat) {x : Str} (hN : X.N.Nodup) (hi : X.N[i]? = some x := by rfl) (hx : Loc X.env.scope x := by first | exact .inl rfl | exact .inr rfl) (hf : X.fn x = true ∨ X.env.scope.names.lookup x = some .local := by first | exact .inl rfl | exact .inr rfl) :
    PG X (.Name x pos) (tgR X.K (.name i)) := pg_name hN hi hx hf
theorem sgs_nil : PGs X [] (gsN []) := pgs_nil
theorem sgs_cons {i : Nat} {is : List Nat} {e : Expr} {es : List Expr} (h1 : PG X e (gName i)) (h2 : PGs X es (gsN is)) (hs : (assignEach (e :: es) X.env).map (·.2) = assign e X.env :: (assignEach es X.env).map (·.2) := by rfl) : PGs X (e :: es) (gsN (i :: is)) := pgs_cons h1 h2 hs
theorem sg_tup {is : List Nat} {es : List Expr} {k : Nat} (h : PGs X es (gsN is)) (hc : X.calm = true := by rfl) (hn : (assignEach es X.env).length = is.length := by rfl) (hst : (assignEach es X.env).findIdx? (·.1) = none := by rfl) : PG X (.Tuple es k pos) (tgR X.K (.tup is)) := pg_tup hc h hn hst
end
/-- a, b = e -/
@[simp] def sTup (t : Tg) (e : Ev) : Sd := fun ρ μ => (e ρ μ).thn ρ fun d μ1 => match tgD t d ρ with
  | some ρ1 => .nx ρ1 μ1
  | none => .bad
section
variable {X : Cx} {W : WX} {pos : Pos} {e tg : Expr} {fe : Ev} {t : Tg}
theorem ss_tup (he : SE X W e fe) (hg : PG X tg (tgR X.K t)) (hs : swapsWithSole [tg] e pos.line X.env = pure false := by rfl) (hw : swappedStores [tg] e X.env = pure none := by rfl)
    (h1 : (assignEach [tg] X.env).map (·.2) = [assign tg X.env] := by rfl) : SS X W (.Assign [tg] e pos) (sTup t fe) :=
  PS.imp (ps_asg he hg hs hw h1) fun D σ H ⟨φ, μ, ρ, hv, hs, hp⟩ => ⟨φ, μ, ρ, hv, hs, Pg.imp (Ps.thn hp hv) fun x H1 ⟨d, μ1, φ1, g1, r1, s1, p1⟩ => by
    split at p1
    · rename_i ρ1 e1
      exact tg_run (μ := μ1) (hv.mono g1) r1 e1 fun σ' v' _ => p1 σ' H1 φ1 (Gr.refl _ _) v' s1
    · exact p1.elim⟩
/-- a, b = x, y -/
@[simp] def sPar (i j : Nat) (a : Av) : Sd := fun ρ μ => (a ρ μ).thn ρ fun ds μ1 => match ds with
  | [d, e] => .nx ((ρ.set i (some d)).set j (some e)) μ1
  | _ => .bad
theorem ss_par (i j : Nat) {x y : Str} {a b : Expr} {fa : Av} {px py pt : Pos} {kt k2 pt2} (hN : X.N.Nodup) (ha : SA X W [a, b] fa) (hij : i ≠ j := by decide) (hi : X.N[i]? = some x := by rfl) (hj : X.N[j]? = some y := by rfl)
    (hx : X.env.scope.names.lookup x = some .local := by rfl) (hy : X.env.scope.names.lookup y = some .local := by rfl) (hc : X.calm = true := by rfl)
    (hw : swappedStores [.Tuple [.Name x px, .Name y py] kt pt] (.Tuple [a, b] k2 pt2) X.env = pure (some [x, y]) := by rfl)
    (hs : swapsWithSole [.Tuple [.Name x px, .Name y py] kt pt] (.Tuple [a, b] k2 pt2) pos.line X.env = pure false := by rfl) :
    SS X W (.Assign [.Tuple [.Name x px, .Name y py] kt pt] (.Tuple [a, b] k2 pt2) pos) (sPar i j fa) :=
  PS.imp (ps_par hc hN hi hj hij hx hy ha hw hs) fun D σ H ⟨φ, μ, ρ, hv, hs, hp⟩ => ⟨φ, μ, ρ, hv, hs, Pg.imp (Ps.thn hp hv) fun vs H1 ⟨ds, μ1, φ1, g1, r1, s1, p1⟩ => by
    split at p1
    · rename_i d e
      obtain ⟨v, u, rfl, r2, r3⟩ := rvs2 r1
      exact ⟨v, u, rfl, p1 _ H1 φ1 (Gr.refl _ _) (((hv.mono g1).set i r2).set j r3) s1⟩
    · exact p1.elim⟩
end
/-- o[i] = e -/
def setIx (o i v : D) (μ : Mem) : Out Unit := match o, i with
  | .ref l, .int k => match μ[l]? with
    | some (.lst xs) => match ixN xs.length k with
      | some j => .ok () (μ.set l (.lst (xs.set j v)))
      | none => .bad
    | _ => .bad
  | _, _ => .bad
@[simp] def sSetIx (o i e : Ev) : Sd := fun ρ μ => (e ρ μ).thn ρ fun v μ1 => (o ρ μ1).thn ρ fun a μ2 => (i ρ μ2).thn ρ fun k μ3 => (setIx a k v μ3).thn ρ fun _ μ4 => .nx ρ μ4
section
variable {X : Cx} {W : WX} {pos p2 : Pos} {o i e : Expr} {fo fi fe : Ev}
theorem ss_setIx (he : SE X W e fe) (ho : SE X W o fo) (hi : SE X W i fi)
    (ha : ∀ v, assign (.Subscript o i p2) X.env v = (do
      let ov ← holding [v] (eval o X.env)
      let iv ← holding [v, ov] (eval i X.env)
      standAt p2
      holding [v, ov, iv] (setItem ov iv v)
      release [v, ov, iv] []) := by intro _; rfl)
    (hs : swapsWithSole [.Subscript o i p2] e pos.line X.env = pure false := by rfl) (hw : swappedStores [.Subscript o i p2] e X.env = pure none := by rfl)
    (h1 : (assignEach [.Subscript o i p2] X.env).map (·.2) = [assign (.Subscript o i p2) X.env] := by rfl) : SS X W (.Assign [.Subscript o i p2] e pos) (sSetIx fo fi fe) :=
  PS.imp (ps_asg he (pg_sub ho hi set_list ha) hs hw h1) fun D σ H ⟨φ, μ, ρ, hv, hs, hp⟩ => ⟨φ, μ, ρ, hv, hs, Pg.imp (Ps.thn hp hv) fun x H1 ⟨d, μ1, φ1, g1, r1, s1, p1⟩ => by
    have hv1 := hv.mono g1
    refine ⟨φ1, μ1, ρ, hv1, s1, Pg.imp (Ps.thn p1 hv1) fun ov H2 ⟨a, μ2, φ2, g2, r2, s2, p2⟩ => ?_⟩
    have hv2 := hv1.mono g2
    refine ⟨φ2, μ2, ρ, hv2, s2, Pg.imp (Ps.thn p2 hv2) fun iv H3 ⟨k, μ3, φ3, g3, r3, s3, p3⟩ => ?_⟩
    have hv3 := hv2.mono g3
    have rd := (r1.mono g2).mono g3
    have ra := r2.mono g3
    unfold setIx at p3
    cases a with
    | ref l =>
      cases k with
      | int n =>
        have p3 : Ps X.K X.mg W φ3 H3 ((match μ3[l]? with
          | some (.lst xs) => match ixN xs.length n with
            | some j => Out.ok () (μ3.set l (.lst (xs.set j d)))
            | none => .bad
          | _ => .bad : Out Unit).thn ρ fun _ μ4 => .nx ρ μ4) D := p3
        split at p3
        · rename_i xs e0
          split at p3
          · rename_i j ej
            obtain ⟨ad, had, rfl⟩ := ra
            obtain ⟨us, e1, ru⟩ := s3.ob l ad _ had e0
            have nt : ∀ ys, (HO.lst us) ≠ HO.tup ys := fun _ z => by cases z
            have nf : ∀ ob u, (HO.lst us) ≠ HO.frz ob u := fun _ _ z => by cases z
            refine ⟨ad, us, n, j, rfl, r3, e1, by rw [ru.length]; exact ej, ?_⟩
            have gg : Gr φ3 H3 φ3 (upd H3 ad (.lst (us.set j x))) := Gr.write had e1 nt nf
            exact p3 σ _ φ3 gg (hv3.mono gg) (s3.write had e1 nt nf ⟨_, upd_same, (ru.set j rd).mono gg⟩)
          · exact p3.elim
        · exact p3.elim
      | _ => exact p3.elim
    | _ => exact p3.elim⟩
end
end G

/-! G9: what is walked; for, comprehensions, while -/
namespace G
open PySem PySem.Spec PyProof.Rows L2

/-- a list of the store that has to stand while it is walked -/
abbrev Wt := Option (Nat × List D)
def wtOk (w : Wt) (μ : Mem) : Prop := ∀ l xs, w = some (l, xs) → μ[l]? = some (.lst xs)
theorem wtOk_none {μ : Mem} : wtOk none μ := fun _ _ h => by cases h
theorem wtOk_some {l : Nat} {xs : List D} {μ : Mem} (h : μ[l]? = some (.lst xs)) : wtOk (some (l, xs)) μ := fun _ _ e => by cases e; exact h
noncomputable def ifC {α : Type} (c : Prop) (a b : α) : α := @ite α c (Classical.propDecidable c) a b
theorem ifC_pos {α : Type} {c : Prop} {a b : α} (h : c) : ifC c a b = a := by unfold ifC; rw [if_pos h]
theorem ifC_neg {α : Type} {c : Prop} {a b : α} (h : ¬ c) : ifC c a b = b := by unfold ifC; rw [if_neg h]
abbrev Its := List D × Wt
abbrev Sv := Rho → Mem → Out Its
/-- the iterator J yields just these -/
def RJ (K : Fr0) (φ0 : List Addr) (H0 : Hp) (a : Its) (J : It) : Prop :=
  ∀ (φ : List Addr) (H : Hp) (μ : Mem), Gr φ0 H0 φ H → Sm K φ H μ → wtOk a.2 μ →
    (∀ i d, a.1[i]? = some d → J.go i H ∧ ∀ x H', J.yld i H x H' → Gr φ H φ H' ∧ Sm K φ H' μ ∧ Rv K φ H' d x) ∧ J.stop a.1.length H
def SI (X : Cx) (W : WX) (tg e : Expr) (f : Sv) : Prop := PI X tg e (tR X.K X.mg W (RJ X.K) f)
theorem PI.imp {X : Cx} {tg e : Expr} {t u : TI} (h : PI X tg e t) (i : ∀ σ H Q, u σ H Q → t σ H Q) : PI X tg e u := ⟨fun pins s σ H Q I q => h.run pins s σ H Q I (i σ H Q q)⟩

/-! ### sources -/
@[simp] def iSeq (a : Ev) : Sv := fun ρ μ => (a ρ μ).bind fun d μ1 => match d with
  | .tup xs => .ok (xs, none) μ1
  | .fl xs => .ok (xs, none) μ1
  | .ref l => match μ1[l]? with
    | some (.lst xs) => .ok (xs, some (l, xs)) μ1
    | _ => .bad
  | .str z => .ok (z.map fun c => .str [c], none) μ1
  | _ => .bad
theorem rj_list {K : Fr0} {φ : List Addr} {H : Hp} {a : Addr} {vs : List V} {xs : List D} {wt : Wt} (h : ∀ φ2 H2 μ2, Gr φ H φ2 H2 → Sm K φ2 H2 μ2 → wtOk wt μ2 → ∃ us, SqL K H2 a us ∧ Rvs K φ2 H2 xs us) (uniq : ∀ H us ws, SqL K H a us → SqL K H a ws → us.length = ws.length) :
    RJ K φ H (xs, wt) (Itl K a) := by
  intro φ2 H2 μ2 g s w
  obtain ⟨us, h1, r⟩ := h φ2 H2 μ2 g s w
  refine ⟨fun i d e => ?_, us, h1, by rw [r.length]; exact Nat.le_refl _⟩
  obtain ⟨v, ev, rv⟩ := r.get e
  refine ⟨⟨us, v, h1, ev⟩, fun x H' y => ?_⟩
  obtain ⟨rfl, y⟩ := y
  have := y us h1
  rw [ev] at this
  cases this
  exact ⟨Gr.refl _ _, s, rv⟩
theorem rj_tup {K : Fr0} {φ : List Addr} {H : Hp} {a : Addr} {vs : List V} {xs : List D} (h1 : SqT K H a vs) (r : Rvs K φ H xs vs) : RJ K φ H (xs, none) (Itt K a) := by
  intro φ2 H2 μ2 g s _
  have h2 := g.seqT h1
  have r2 := r.mono g
  refine ⟨fun i d e => ?_, vs, h2, by rw [r2.length]; exact Nat.le_refl _⟩
  obtain ⟨v, ev, rv⟩ := r2.get e
  refine ⟨⟨vs, v, h2, ev⟩, fun x H' y => ?_⟩
  obtain ⟨rfl, y⟩ := y
  have := y vs h2
  rw [ev] at this
  cases this
  exact ⟨Gr.refl _ _, s, rv⟩
theorem rj_str {K : Fr0} {φ : List Addr} {H : Hp} {z : List Nat} : RJ K φ H (z.map fun c => .str [c], none) (L2.Its (tx z)) := by
  intro φ2 H2 μ2 g s _
  have hz : (tx z).cps.size = z.length := by simp [tx]
  refine ⟨fun i d e => ?_, ?_⟩
  · rw [List.getElem?_map] at e
    obtain ⟨c, ec, rfl⟩ := map_some e
    have hi := (List.getElem?_eq_some_iff.mp ec).1
    refine ⟨show i < (tx z).cps.size by rw [hz]; exact hi, fun x H' y => ?_⟩
    obtain ⟨rfl, c', ec', rfl⟩ := y
    have : (tx z).cps[i]? = z[i]? := by simp [tx]
    rw [this, ec] at ec'
    cases ec'
    exact ⟨Gr.refl _ _, s, rfl⟩
  · show (tx z).cps.size ≤ _
    rw [hz, List.length_map]
    exact Nat.le_refl _
/-- a list, a tuple, a text is walked -/
def rWalk (K : Fr0) (x : V) (H : Hp) (R : It → Hp → Prop) : Prop := (∃ a xs, x = .ref a ∧ SqL K H a xs ∧ R (Itl K a) H) ∨ (∃ a xs, x = .ref a ∧ SqT K H a xs ∧ R (Itt K a) H) ∨ ∃ z, x = .str z ∧ R (L2.Its z) H
theorem pi_walk {X : Cx} {tg e : Expr} {te : TE} (he : PE X e te) : PI X tg e (fun σ H R => te σ H fun x H1 => rWalk X.K x H1 R) := by
  refine ⟨fun pins s σ H R I h => ?_⟩
  refine thn (he.run pins s σ H _ I h) fun v s1 ⟨x, H1, J1, r1, q1⟩ => ?_
  rcases q1 with ⟨a, xs, rfl, hq, q⟩ | ⟨a, xs, rfl, hq, q⟩ | ⟨z, rfl, q⟩
  · cases r1
    obtain ⟨its, rv, p, hz⟩ := J1.list hq
    exact wpAny_pyIter_list p.isList (pi_one (tk := s1.toks) J1 _ (turn_list a _) ⟨_, Heap.get?_push_size _ rfl, rfl, rfl⟩ q)
  · cases r1
    obtain ⟨its, rv, p, hz⟩ := J1.tuple hq
    exact wpAny_pyIter_tuple (show s1.heap.IsTuple a its.toArray from p) (pi_one (tk := s1.toks) J1 _ (turn_tuple a _) ⟨_, Heap.get?_push_size _ rfl, rfl, rfl⟩ q)
  · obtain ⟨t, rfl⟩ := r1
    cases hz : z.cps.all (· < 128)
    · exact wpAny_pyIter_wide hz (pi_one (tk := s1.toks) J1 _ (turn_str _ z t "str_iterator" (.inr rfl)) ⟨_, Heap.get?_push_size _ rfl, rfl, rfl⟩ q)
    · exact wpAny_pyIter_ascii hz (pi_one (tk := s1.toks) J1 _ (turn_str _ z t "str_ascii_iterator" (.inl rfl)) ⟨_, Heap.get?_push_size _ rfl, rfl, rfl⟩ q)
theorem rj_lst {K : Fr0} {φ : List Addr} {H : Hp} {a : Addr} {l : Nat} {xs : List D} (ha : φ[l]? = some a) : RJ K φ H (xs, some (l, xs)) (Itl K a) := by
  intro φ2 H2 μ2 g s w
  obtain ⟨us, e1, r⟩ := s.ob l a _ (g.get ha) (w l xs rfl)
  refine ⟨fun i d e => ?_, us, SqL.of e1, by rw [r.length]; exact Nat.le_refl _⟩
  obtain ⟨v, ev, rv⟩ := r.get e
  refine ⟨⟨us, v, SqL.of e1, ev⟩, fun x H' y => ?_⟩
  obtain ⟨rfl, y⟩ := y
  have := y us (SqL.of e1)
  rw [ev] at this
  cases this
  exact ⟨Gr.refl _ _, s, rv⟩
theorem rj_fl {K : Fr0} {φ : List Addr} {H : Hp} {a : Addr} {vs : List V} {xs : List D} (h1 : FzL K H a vs) (r : Rvs K φ H xs vs) : RJ K φ H (xs, none) (Itl K a) := by
  intro φ2 H2 μ2 g s _
  have h2 := (g.fzl h1).sq
  have r2 := r.mono g
  refine ⟨fun i d e => ?_, vs, h2, by rw [r2.length]; exact Nat.le_refl _⟩
  obtain ⟨v, ev, rv⟩ := r2.get e
  refine ⟨⟨vs, v, h2, ev⟩, fun x H' y => ?_⟩
  obtain ⟨rfl, y⟩ := y
  have := y vs h2
  rw [ev] at this
  cases this
  exact ⟨Gr.refl _ _, s, rv⟩
section
variable {X : Cx} {W : WX} {pos p : Pos} {e tg : Expr} {fe : Ev} {fa : Av}
theorem si_seq (he : SE X W e fe) : SI X W tg e (iSeq fe) :=
  PI.imp (pi_walk he) fun σ H R ⟨φ, μ, ρ, hv, hs, hp⟩ => ⟨φ, μ, ρ, hv, hs, Pg.imp (Pg.bind hp) fun x H1 ⟨d, μ1, φ1, g1, r1, s1, p1⟩ => by
    cases d with
    | tup xs =>
      obtain ⟨a, vs, rfl, h1, r⟩ := r1
      exact .inr (.inl ⟨a, vs, rfl, h1, Pg.here (d := ((xs, none) : Its)) p1 (rj_tup h1 r) s1⟩)
    | fl xs =>
      obtain ⟨a, vs, rfl, h1, r⟩ := r1
      exact .inl ⟨a, vs, rfl, h1.sq, Pg.here (d := ((xs, none) : Its)) p1 (rj_fl h1 r) s1⟩
    | str z =>
      cases (show x = .str (tx z) from r1)
      exact .inr (.inr ⟨tx z, rfl, Pg.here (d := ((z.map fun c => .str [c], none) : Its)) p1 rj_str s1⟩)
    | ref l =>
      have p1 : Pg X.K X.mg W σ (RJ X.K) φ1 H1 (match μ1[l]? with
        | some (.lst xs) => .ok (xs, some (l, xs)) μ1
        | _ => .bad) R := p1
      split at p1
      · rename_i xs e0
        obtain ⟨a, ha, rfl⟩ := r1
        obtain ⟨us, e1, r⟩ := s1.ob l a _ ha e0
        exact .inl ⟨a, us, rfl, SqL.of e1, Pg.here p1 (rj_lst ha) s1⟩
      · exact p1.elim
    | _ => exact p1.elim⟩
/-- lo, lo + 1, .. (n of them) -/
def rngL (lo : Int) (n : Nat) : List D := (List.range n).map fun (k : Nat) => .int (lo + (k : Int))
theorem rngL_len (lo : Int) (n : Nat) : (rngL lo n).length = n := by simp [rngL]
theorem rj_rng {K : Fr0} {φ : List Addr} {H : Hp} {lo : Int} {n : Nat} : RJ K φ H (rngL lo n, none) (Itr lo n) := by
  intro φ2 H2 μ2 g s _
  refine ⟨fun i d e => ?_, show n ≤ _ by rw [rngL_len]; exact Nat.le_refl _⟩
  unfold rngL at e
  rw [List.getElem?_map] at e
  obtain ⟨c, ec, rfl⟩ := map_some e
  have hi : i < n := by simpa using (List.getElem?_eq_some_iff.mp ec).1
  rw [List.getElem?_range hi] at ec
  cases ec
  refine ⟨hi, fun x H' y => ?_⟩
  obtain ⟨rfl, rfl⟩ := y
  exact ⟨Gr.refl _ _, s, rfl⟩
@[simp] def iRange1 (a : Av) : Sv := fun ρ μ => (a ρ μ).bind fun ds μ1 => match ds with
  | [.int j] => if -(2 ^ 62) ≤ j ∧ j < 2 ^ 62 then .ok (rngL 0 j.toNat, none) μ1 else .bad
  | _ => .bad
@[simp] def iRange2 (a : Av) : Sv := fun ρ μ => (a ρ μ).bind fun ds μ1 => match ds with
  | [.int i, .int j] => if -(2 ^ 62) ≤ i ∧ i < 2 ^ 62 ∧ -(2 ^ 62) ≤ j ∧ j < 2 ^ 62 then .ok (rngL i (j - i).toNat, none) μ1 else .bad
  | _ => .bad
theorem si_range1 (hm : X.mg "range" = none) (ha : SA X W [e] fa) (hg : Gl X "range" := by rfl) (hs : starEach [e] X.env = [(false, eval e X.env)] := by rfl) : SI X W tg (.Call (.Name "range" p) [e] [] pos) (iRange1 fa) :=
  PI.imp (pi_range1 hg hm ha hs) fun σ H R ⟨φ, μ, ρ, hv, hs, hp⟩ => ⟨φ, μ, ρ, hv, hs, Pg.imp (Pg.bind hp) fun xs H1 ⟨ds, μ1, φ1, g1, r1, s1, p1⟩ => by
    split at p1
    · rename_i j
      obtain ⟨v, rfl, rv⟩ := rvs1 r1
      by_cases hj : -(2 ^ 62) ≤ j ∧ j < 2 ^ 62
      · rw [if_pos hj] at p1
        exact ⟨j, by rw [show v = _ from rv], hj.1, hj.2, Pg.here p1 rj_rng s1⟩
      · rw [if_neg hj] at p1; exact p1.elim
    · exact p1.elim⟩
theorem si_range2 {e2 : Expr} (hm : X.mg "range" = none) (ha : SA X W [e, e2] fa) (hg : Gl X "range" := by rfl) (hs : starEach [e, e2] X.env = [(false, eval e X.env), (false, eval e2 X.env)] := by rfl) (hs2 : starEach [e2] X.env = [(false, eval e2 X.env)] := by rfl) :
    SI X W tg (.Call (.Name "range" p) [e, e2] [] pos) (iRange2 fa) :=
  PI.imp (pi_range2 hg hm ha hs hs2) fun σ H R ⟨φ, μ, ρ, hv, hs, hp⟩ => ⟨φ, μ, ρ, hv, hs, Pg.imp (Pg.bind hp) fun xs H1 ⟨ds, μ1, φ1, g1, r1, s1, p1⟩ => by
    split at p1
    · rename_i i j
      obtain ⟨v, u, rfl, rv, ru⟩ := rvs2 r1
      by_cases hj : -(2 ^ 62) ≤ i ∧ i < 2 ^ 62 ∧ -(2 ^ 62) ≤ j ∧ j < 2 ^ 62
      · rw [if_pos hj] at p1
        exact ⟨i, j, by rw [show v = _ from rv, show u = _ from ru], hj, Pg.here p1 rj_rng s1⟩
      · rw [if_neg hj] at p1; exact p1.elim
    · exact p1.elim⟩
end

/-! ### for -/
noncomputable def forG (t : Tg) (body : Sd) (ws : List Nat) (wt : Wt) : List D → Rho → Mem → SR
  | [], ρ, μ => ifC (wtOk wt μ) (.nx (wipeR ρ ws) μ) .bad
  | d :: r, ρ, μ => ifC (wtOk wt μ) (match tgD t d (wipeR ρ ws) with
    | some ρ1 => match body ρ1 μ with
      | .nx ρ2 μ2 => forG t body ws wt r ρ2 μ2
      | .ct ρ2 μ2 => forG t body ws wt r ρ2 μ2
      | .bk ρ2 μ2 => .nx (wipeR ρ2 ws) μ2
      | .rt d μ2 => .rt d μ2
      | .ex e ρ2 μ2 => .ex e ρ2 μ2
      | .bad => .bad
    | none => .bad) .bad
noncomputable def sFor (ws : List Nat) (t : Tg) (src : Sv) (body : Sd) : Sd := fun ρ μ => (src ρ μ).thn ρ fun a μ1 => forG t body ws a.2 a.1 ρ μ1
theorem for_run {K : Fr0} {mg : Str → Option Value} {W : WX} {t : Tg} {f : Sd} {ws : List Nat} {D0 : Ends} {J : It} {a : Its} {φ0 : List Addr} {H0 : Hp} (hJ : RJ K φ0 H0 a J) {σ : L2.St} {ρ : Rho} {μ : Mem} (hv : Vs K φ0 H0 ρ σ) (hs : Sm K φ0 H0 μ)
    (hp : Ps K mg W φ0 H0 (forG t f ws a.2 a.1 ρ μ) D0) :
    ∃ WW : Nat → Nat → L2.St → Hp → Prop, (∃ m, WW 0 m σ H0) ∧ ∀ i m σ H, WW i m σ H →
      (J.stop i H ∧ D0.nx σ H) ∨ (J.go i H ∧ ∃ N : L2.St → Hp → Prop, (∀ σ' H', N σ' H' → ∃ m', m' < m ∧ WW (i + 1) m' σ' H') ∧ ∀ x H', J.yld i H x H' → tgR K t x σ H' fun σ2 H2 => tS K mg W f { D0 with nx := N, ct := N, bk := D0.nx } σ2 H2) := by
  refine ⟨fun i m σ H => ∃ φ μ ρ, i + m = a.1.length ∧ Gr φ0 H0 φ H ∧ Vs K φ H ρ σ ∧ Sm K φ H μ ∧ Ps K mg W φ H (forG t f ws a.2 (a.1.drop i) ρ μ) D0, ⟨a.1.length, φ0, μ, ρ, by simp, Gr.refl _ _, hv, hs, by simpa using hp⟩, ?_⟩
  rintro i m σ H ⟨φ, μ, ρ, em, g, hv, hs, hp⟩
  cases hd : a.1.drop i with
  | nil =>
    rw [hd] at hp
    have hl : a.1.length ≤ i := List.drop_eq_nil_iff.mp hd
    have ei : i = a.1.length := by omega
    by_cases hw : wtOk a.2 μ
    · have hp : Ps K mg W φ H (ifC (wtOk a.2 μ) (.nx (wipeR ρ ws) μ) .bad) D0 := hp
      rw [ifC_pos hw] at hp
      obtain ⟨_, st⟩ := hJ φ H μ g hs hw
      exact .inl ⟨by rw [ei]; exact st, hp σ H φ (Gr.refl _ _) (hv.wipe ws) hs⟩
    · have hp : Ps K mg W φ H (ifC (wtOk a.2 μ) (.nx (wipeR ρ ws) μ) .bad) D0 := hp
      rw [ifC_neg hw] at hp
      exact hp.elim
  | cons d r =>
    rw [hd] at hp
    have hi : a.1[i]? = some d := by
      have : (a.1.drop i)[0]? = some d := by rw [hd]; rfl
      simpa using this
    have hr : a.1.drop (i + 1) = r := by
      have : (a.1.drop i).drop 1 = r := by rw [hd]; rfl
      rw [List.drop_drop] at this
      exact this
    have hlt := (List.getElem?_eq_some_iff.mp hi).1
    have hp : Ps K mg W φ H (ifC (wtOk a.2 μ) (match tgD t d (wipeR ρ ws) with
      | some ρ1 => match f ρ1 μ with
        | .nx ρ2 μ2 => forG t f ws a.2 r ρ2 μ2
        | .ct ρ2 μ2 => forG t f ws a.2 r ρ2 μ2
        | .bk ρ2 μ2 => .nx (wipeR ρ2 ws) μ2
        | .rt d μ2 => .rt d μ2
        | .ex e ρ2 μ2 => .ex e ρ2 μ2
        | .bad => .bad
      | none => .bad) .bad) D0 := hp
    by_cases hw : wtOk a.2 μ
    · rw [ifC_pos hw] at hp
      obtain ⟨it, _⟩ := hJ φ H μ g hs hw
      obtain ⟨go, yl⟩ := it i d hi
      refine .inr ⟨go, fun σ' H' => ∃ φ' μ' ρ', Gr φ0 H0 φ' H' ∧ Vs K φ' H' ρ' σ' ∧ Sm K φ' H' μ' ∧ Ps K mg W φ' H' (forG t f ws a.2 r ρ' μ') D0, fun σ' H' ⟨φ', μ', ρ', g', v', s', p'⟩ => ?_, fun x H' y => ?_⟩
      · exact ⟨m - 1, by omega, φ', μ', ρ', by omega, g', v', s', by rw [hr]; exact p'⟩
      · obtain ⟨g1, s1, r1⟩ := yl x H' y
        split at hp
        · rename_i ρ1 e1
          refine tg_run (μ := μ) ((hv.wipe ws).mono g1) r1 e1 fun σ1 v1 _ => ⟨φ, μ, ρ1, v1, s1, ?_⟩
          have hp := Ps.grow g1 hp
          have g2 := g.trans g1
          cases e2 : f ρ1 μ with
          | nx ρ2 μ2 => rw [e2] at hp; exact fun σ3 H3 φ3 g3 v3 s3 => ⟨φ3, μ2, ρ2, g2.trans g3, v3, s3, Ps.grow g3 hp⟩
          | ct ρ2 μ2 => rw [e2] at hp; exact fun σ3 H3 φ3 g3 v3 s3 => ⟨φ3, μ2, ρ2, g2.trans g3, v3, s3, Ps.grow g3 hp⟩
          | bk ρ2 μ2 => rw [e2] at hp; exact fun σ3 H3 φ3 g3 v3 s3 => hp σ3 H3 φ3 g3 (v3.wipe ws) s3
          | rt d μ2 => rw [e2] at hp; exact hp
          | ex x ρ2 μ2 => rw [e2] at hp; exact hp
          | bad => rw [e2] at hp; exact hp.elim
        · exact hp.elim
    · rw [ifC_neg hw] at hp; exact hp.elim
section
variable {X : Cx} {W : WX} {pos : Pos} {iter tg : Expr} {body : List Stmt} {src : Sv} {t : Tg} {f : Sd}
theorem ss_for (ws : List Nat) (hp : PassesOwn (model X.prog X.w) X.A X.env X.xe) (hi : SI X W tg iter src) (hg : PG X tg (tgR X.K t)) (hb : SSs X W body f) (hc : X.calm = true := by rfl) (hs : ∀ x, foldedSetIterable iter X.env x = pure x := by intro _; rfl) :
    SS X W (.For tg iter body [] pos) (sFor ws t src f) :=
  PS.imp (ps_for hp hc hi hg hb hs) fun D σ H ⟨φ, μ, ρ, hv, hs, hp⟩ => ⟨φ, μ, ρ, hv, hs, Pg.imp (Ps.thn hp hv) fun J H1 ⟨a, μ1, φ1, g1, r1, s1, p1⟩ => for_run r1 (hv.mono g1) s1 p1⟩
end

/-! ### comprehensions -/
noncomputable def compG (t : Tg) (c : Tv) (el : Ev) (wt : Wt) (ρ : Rho) : List D → Mem → Out (List D)
  | [], μ => ifC (wtOk wt μ) (.ok [] μ) .bad
  | d :: r, μ => ifC (wtOk wt μ) (match tgD t d ρ with
    | some ρ1 => match c ρ1 μ with
      | .ok true μ1 => match el ρ1 μ1 with
        | .ok y μ2 => (compG t c el wt ρ r μ2).bind fun ys μ3 => .ok (y :: ys) μ3
        | _ => .bad
      | .ok false μ1 => compG t c el wt ρ r μ1
      | _ => .bad
    | none => .bad) .bad
noncomputable def eComp (ws : List Nat) (t : Tg) (src : Sv) (c : Tv) (el : Ev) : Ev := fun ρ μ => (src ρ μ).bind fun a μ1 => if a.1.length ≤ 1000000 then (compG t c el a.2 (wipeR ρ ws) a.1 μ1).bind fun ys μ2 => .ok (.ref μ2.length) (μ2 ++ [.lst ys]) else .bad
@[simp] def cYes : Tv := fun _ μ => .ok true μ
abbrev W0 : WX := fun _ _ _ _ => False
theorem Pg.w0 {K : Fr0} {mg : Str → Option Value} {α β : Type} {R : List Addr → Hp → α → β → Prop} {σ : L2.St} {φ : List Addr} {H : Hp} {r : Out α} {Q : β → Hp → Prop} {a : α} {μ : Mem} (e : r = .ok a μ) (h : ∀ (v : β) (H' : Hp) (φ' : List Addr), Gr φ H φ' H' → R φ' H' a v → Sm K φ' H' μ → Q v H') : Pg K mg W0 σ R φ H r Q := by
  rw [e]
  exact h
theorem wipe_twice {σ : L2.St} {ws : List Nat} : L2.wipe (L2.wipe σ ws) ws = L2.wipe σ ws := by
  apply List.ext_getElem?
  intro j
  have key : ∀ (τ : L2.St) (ws : List Nat), (L2.wipe τ ws)[j]? = if j ∈ ws ∧ j < τ.length then some none else τ[j]? := by
    intro τ ws
    induction ws with
    | nil => simp [L2.wipe]
    | cons w r ih =>
      unfold L2.wipe
      by_cases hw : w = j
      · subst hw
        by_cases hl : w < τ.length
        · rw [List.getElem?_set_self (by rw [wipe_length]; exact hl), if_pos ⟨List.mem_cons_self, hl⟩]
        · rw [if_neg fun z => hl z.2, List.getElem?_eq_none (by rw [List.length_set, wipe_length]; omega), List.getElem?_eq_none (by omega)]
      · rw [List.getElem?_set_ne hw, ih]
        have : j ∈ w :: r ↔ j ∈ r := ⟨fun h => (List.mem_cons.mp h).resolve_left (fun z => hw z.symm), List.mem_cons_of_mem _⟩
        simp only [this]
  rw [key, key, wipe_length]
  split <;> simp_all
theorem lc_run {K : Fr0} {mg : Str → Option Value} {W : WX} {t : Tg} {c : Tv} {el : Ev} {ws : List Nat} {J : It} {a : Its} {φ0 : List Addr} {H0 : Hp} (hJ : RJ K φ0 H0 a J) {σ : L2.St} {ρ : Rho} {μ : Mem} {Q : VK} {Dd : Addr} (hsl : ∀ i ∈ t.slots, i ∈ ws) (hz : a.1.length ≤ 1000000) (hD : H0 Dd = none)
    (hv : Vs K φ0 H0 ρ σ) (hs : Sm K φ0 H0 μ) (hp : Pg K mg W σ (Rv K) φ0 H0 ((compG t c el a.2 (wipeR ρ ws) a.1 μ).bind fun ys μ2 => .ok (.ref μ2.length) (μ2 ++ [.lst ys])) Q) :
    ∃ WW : Nat → Nat → Hp → Prop, (∃ m, WW 0 m (upd H0 Dd (.lst []))) ∧ ∀ i m H, WW i m H →
      (J.stop i H ∧ Q (.ref Dd) H) ∨ (J.go i H ∧ ∃ Nx : Hp → Prop, (∀ H', Nx H' → ∃ m', m' < m ∧ WW (i + 1) m' H') ∧ ∀ x H', J.yld i H x H' → tgR K t x (L2.wipe σ ws) H' fun σ2 H2 => L2.wipe σ2 ws = L2.wipe σ ws ∧ tR K mg W0 Req c σ2 H2 fun b H3 =>
        if b = true then tR K mg W0 (Rv K) el σ2 H3 fun y H4 => ∃ acc, H4 Dd = some (.lst acc) ∧ acc.length < sizeLine ∧ Nx (upd H4 Dd (.lst (acc ++ [y]))) else Nx H3) := by
  -- behind i items: acc holds what is made so far, the rest of the meaning is wanted (over the heap at the start)
  refine ⟨fun i m H => ∃ φ μ as acc, i + m = a.1.length ∧ acc.length ≤ i ∧ Gr φ0 H0 φ H ∧ H Dd = some (.lst acc) ∧ Dd ∉ φ ∧ Rvs K φ H as acc ∧ Sm K φ H μ ∧
    Pg K mg W σ (Rv K) φ0 H0 ((compG t c el a.2 (wipeR ρ ws) (a.1.drop i) μ).bind fun ys μ2 => .ok (.ref μ2.length) (μ2 ++ [O.lst (as ++ ys)])) Q, ⟨a.1.length, φ0, μ, [], [], by simp, by simp, Gr.new hD, upd_same, hs.free hD, rfl, hs.new hD, by rw [List.drop_zero]; exact hp⟩, ?_⟩
  rintro i m H ⟨φ, μ, as, acc, em, ha, g, eD, nD, ra, hs, hp⟩
  cases hd : a.1.drop i with
  | nil =>
    rw [hd] at hp
    have hl : a.1.length ≤ i := List.drop_eq_nil_iff.mp hd
    have ei : i = a.1.length := by omega
    have hp : Pg K mg W σ (Rv K) φ0 H0 ((ifC (wtOk a.2 μ) (Out.ok [] μ) .bad).bind fun ys μ2 => .ok (.ref μ2.length) (μ2 ++ [O.lst (as ++ ys)])) Q := hp
    by_cases hw : wtOk a.2 μ
    · rw [ifC_pos hw] at hp
      have hp : Pg K mg W σ (Rv K) φ0 H0 (.ok (.ref μ.length) (μ ++ [O.lst (as ++ [])])) Q := hp
      rw [List.append_nil] at hp
      obtain ⟨_, st⟩ := hJ φ H μ g hs hw
      refine .inl ⟨by rw [ei]; exact st, hp _ H (φ ++ [Dd]) (Gr.adopt φ0 g hD) ⟨Dd, ?_, rfl⟩ (hs.adopt eD nD ra)⟩
      rw [← hs.len, List.getElem?_append_right (Nat.le_refl _)]
      simp
    · rw [ifC_neg hw] at hp
      exact hp.elim
  | cons d r =>
    rw [hd] at hp
    have hi : a.1[i]? = some d := by
      have : (a.1.drop i)[0]? = some d := by rw [hd]; rfl
      simpa using this
    have hr : a.1.drop (i + 1) = r := by
      have : (a.1.drop i).drop 1 = r := by rw [hd]; rfl
      rw [List.drop_drop] at this
      exact this
    have hlt := (List.getElem?_eq_some_iff.mp hi).1
    have hp : Pg K mg W σ (Rv K) φ0 H0 ((ifC (wtOk a.2 μ) (match tgD t d (wipeR ρ ws) with
      | some ρ1 => match c ρ1 μ with
        | .ok true μ1 => match el ρ1 μ1 with
          | .ok y μ2 => (compG t c el a.2 (wipeR ρ ws) r μ2).bind fun ys μ3 => .ok (y :: ys) μ3
          | _ => .bad
        | .ok false μ1 => compG t c el a.2 (wipeR ρ ws) r μ1
        | _ => .bad
      | none => .bad) .bad).bind fun ys μ2 => .ok (.ref μ2.length) (μ2 ++ [O.lst (as ++ ys)])) Q := hp
    by_cases hw : wtOk a.2 μ
    · rw [ifC_pos hw] at hp
      obtain ⟨it, _⟩ := hJ φ H μ g hs hw
      obtain ⟨go, yl⟩ := it i d hi
      refine .inr ⟨go, fun H' => ∃ φ' μ' as' acc', acc'.length ≤ i + 1 ∧ Gr φ0 H0 φ' H' ∧ H' Dd = some (.lst acc') ∧ Dd ∉ φ' ∧ Rvs K φ' H' as' acc' ∧ Sm K φ' H' μ' ∧
        Pg K mg W σ (Rv K) φ0 H0 ((compG t c el a.2 (wipeR ρ ws) r μ').bind fun ys μ2 => .ok (.ref μ2.length) (μ2 ++ [O.lst (as' ++ ys)])) Q, fun H' ⟨φ', μ', as', acc', l', g', e', n', r', s', p'⟩ => ?_, fun x H' y => ?_⟩
      · exact ⟨m - 1, by omega, φ', μ', as', acc', by omega, l', g', e', n', r', s', by rw [hr]; exact p'⟩
      · obtain ⟨g1, s1, r1⟩ := yl x H' y
        have far : ∀ {φa φb : List Addr} {Ha Hb : Hp}, Gr φa Ha φb Hb → Ha Dd = some (.lst acc) → Dd ∉ φa → Hb Dd = some (.lst acc) ∧ Dd ∉ φb := fun {φa φb Ha Hb} gg e n => by
          refine ⟨gg.fr Dd _ e n, fun hm => ?_⟩
          obtain ⟨tt, rfl, ht⟩ := gg.pre
          rcases List.mem_append.mp hm with q | q
          · exact n q
          · rw [ht Dd q] at e; cases e
        obtain ⟨e1, n1⟩ := far g1 eD nD
        split at hp
        · rename_i ρ1 et
          refine tg_run (μ := μ) (((hv.mono g).mono g1).wipe2 ws) r1 et fun σ1 v1 hσ => ⟨?_, φ, μ, ρ1, v1, s1, ?_⟩
          · rw [hσ ws hsl]
            exact wipe_twice
          · split at hp
            · rename_i μ1 ec
              refine Pg.w0 ec fun b H2 φ2 g2 rb s2 => ?_
              obtain rfl : true = b := rb
              obtain ⟨e2, n2⟩ := far g2 e1 n1
              refine iteT ⟨φ2, μ1, ρ1, v1.mono g2, s2, ?_⟩
              split at hp
              · rename_i y1 μ2 ee
                refine Pg.w0 ee fun yv H3 φ3 g3 ry s3 => ?_
                obtain ⟨e3, n3⟩ := far g3 e2 n2
                have gall := ((g.trans g1).trans g2).trans g3
                have ra3 := ((ra.mono g1).mono g2).mono g3
                refine ⟨acc, e3, by rw [sizeLine_eq]; omega, φ3, μ2, as ++ [y1], acc ++ [yv], by simp; omega, gall.poke hD, upd_same, n3, ?_, s3.poke e3 n3, ?_⟩
                · exact (ra3.append (Rvs.one ry)).monoM (Gm.poke e3)
                · cases er : compG t c el a.2 (wipeR ρ ws) r μ2 with
                  | ok ys μ3 =>
                    rw [er] at hp
                    have hp : Pg K mg W σ (Rv K) φ0 H0 (.ok (.ref μ3.length) (μ3 ++ [O.lst (as ++ (y1 :: ys))])) Q := hp
                    show Pg K mg W σ (Rv K) φ0 H0 (.ok (.ref μ3.length) (μ3 ++ [O.lst ((as ++ [y1]) ++ ys)])) Q
                    rw [List.append_assoc]
                    exact hp
                  | ex x μ3 => rw [er] at hp; exact hp
                  | bad => rw [er] at hp; exact hp
              · exact hp.elim
            · rename_i μ1 ec
              refine Pg.w0 ec fun b H2 φ2 g2 rb s2 => ?_
              obtain rfl : false = b := rb
              obtain ⟨e2, n2⟩ := far g2 e1 n1
              exact iteF ⟨φ2, μ1, as, acc, by omega, (g.trans g1).trans g2, e2, n2, (ra.mono g1).mono g2, s2, hp⟩
            · exact hp.elim
        · exact hp.elim
    · rw [ifC_neg hw] at hp; exact hp.elim
section
variable {X : Cx} {W : WX} {pos spos py : Pos} {elt tgE iter : Expr} {ifs : List Expr} {scope : Scope} {src : Sv} {c : Tv} {el : Ev}
theorem se_comp (own : List (Str × Nat)) (t : Tg) (hN : X.N.Nodup) (hi : SI X W tgE iter src) (ok : BlkOk X.N X.env.scope scope own)
    (hg : ∀ (s : Shared) (H : Hp) (C : Addr) (cl : List (Str × Addr)) (fp : List Addr), PG (X.blk s H scope (compEnvC scope cl C X.env) fp) tgE (tgR X.K t))
    (ht : ∀ (s : Shared) (H : Hp) (C : Addr) (cl : List (Str × Addr)) (fp : List Addr), PTs (X.blk s H scope (compEnvC scope cl C X.env) fp) ifs (tR X.K X.mg W0 Req c))
    (he : ∀ (s : Shared) (H : Hp) (C : Addr) (cl : List (Str × Addr)) (fp : List Addr), SE (X.blk s H scope (compEnvC scope cl C X.env) fp) W0 elt el)
    (hsl : ∀ i ∈ t.slots, i ∈ own.map (·.2) := by decide) (hc : X.calm = true := by rfl) (hs : ∀ x, foldedSetIterable iter X.env x = pure x := by intro _; rfl) :
    SE X W (.ListComp elt [⟨tgE, iter, ifs, 0⟩] scope pos) (eComp (own.map (·.2)) t src c el) :=
  PE.imp (pe_lc (te := tR X.K X.mg W0 (Rv X.K) el) hc hN hi ok hg ht he hs) fun σ H Q ⟨φ, μ, ρ, hv, hs, hp⟩ => ⟨φ, μ, ρ, hv, hs, Pg.imp (Pg.bind hp) fun J H1 ⟨a, μ1, φ1, g1, r1, s1, p1⟩ => by
    by_cases hz : a.1.length ≤ 1000000
    · rw [if_pos hz] at p1
      exact fun Dd hD => lc_run r1 hsl hz hD (hv.mono g1) s1 p1
    · rw [if_neg hz] at p1; exact p1.elim⟩
theorem ss_setComp (i : Nat) (own : List (Str × Nat)) (t : Tg) {y : Str} (hN : X.N.Nodup) (hi : SI X W tgE iter src) (ok : BlkOk X.N X.env.scope scope own)
    (hg : ∀ (s : Shared) (H : Hp) (C : Addr) (cl : List (Str × Addr)) (fp : List Addr), PG (X.blk s H scope (compEnvC scope cl C X.env) fp) tgE (tgR X.K t))
    (ht : ∀ (s : Shared) (H : Hp) (C : Addr) (cl : List (Str × Addr)) (fp : List Addr), PTs (X.blk s H scope (compEnvC scope cl C X.env) fp) ifs (tR X.K X.mg W0 Req c))
    (he : ∀ (s : Shared) (H : Hp) (C : Addr) (cl : List (Str × Addr)) (fp : List Addr), SE (X.blk s H scope (compEnvC scope cl C X.env) fp) W0 elt el)
    (hsw : swapsWith (.ListComp elt [⟨tgE, iter, ifs, 0⟩] scope pos) (some (.Name y py)) spos.line X.env = pure true)
    (hy : X.N[i]? = some y := by rfl) (hyl : X.env.scope.names.lookup y = some .local := by rfl) (hsl : ∀ i ∈ t.slots, i ∈ own.map (·.2) := by decide) (hc : X.calm = true := by rfl) (hs : ∀ x, foldedSetIterable iter X.env x = pure x := by intro _; rfl) :
    SS X W (.Assign [.Name y py] (.ListComp elt [⟨tgE, iter, ifs, 0⟩] scope pos) spos) (sSet i (eComp (own.map (·.2)) t src c el)) :=
  PS.imp (ps_setLc (te := tR X.K X.mg W0 (Rv X.K) el) hc hN hy hyl hsw hi ok hg ht he hs) fun D σ H ⟨φ, μ, ρ, hv, hs, hp⟩ => by
    have hp : Ps X.K X.mg W φ H ((eComp (own.map (·.2)) t src c el ρ μ).thn ρ fun d μ1 => .nx (ρ.set i (some d)) μ1) D := hp
    have hp2 := Ps.thn (σ := σ) (R := Rv X.K) hp hv
    have hp3 : Pg X.K X.mg W σ (Rv X.K) φ H (eComp (own.map (·.2)) t src c el ρ μ) (fun x H1 => gName i x σ H1 D.nx) := Pg.imp hp2 fun x H1 ⟨d, μ1, φ1, g1, r1, s1, p1⟩ => p1 _ H1 φ1 (Gr.refl _ _) ((hv.mono g1).set i r1) s1
    refine ⟨φ, μ, ρ, hv, hs, Pg.imp (Pg.bind hp3) fun J H1 ⟨a, μ1, φ1, g1, r1, s1, p1⟩ => ?_⟩
    by_cases hz : a.1.length ≤ 1000000
    · rw [if_pos hz] at p1
      exact fun Dd hD => lc_run r1 hsl hz hD (hv.mono g1) s1 p1
    · rw [if_neg hz] at p1; exact p1.elim
theorem sts_nil : PTs X [] (tR X.K X.mg W0 Req cYes) := ⟨fun pins s σ H Q I ⟨φ, μ, ρ, hv, hs, hp⟩ => pts_nil.run pins s σ H Q I (Pg.here hp rfl hs)⟩
theorem sts_one {e : Expr} (h : ST X W0 e c) : PTs X [e] (tR X.K X.mg W0 Req c) := pts_one h
end
end G

/-! G10: while; defs, calls -/
namespace G
open PySem PySem.Spec PyProof.Rows L2

/-! ### while, as many turns as it takes -/
def whileG (c : Tv) (f : Sd) (ws : List Nat) : Nat → Sd
  | 0, _, _ => .bad
  | n + 1, ρ, μ => (c (wipeR ρ ws) μ).thn ρ fun k μ1 => if k = true then (match f (wipeR ρ ws) μ1 with
    | .nx ρ2 μ2 => whileG c f ws n ρ2 μ2
    | .ct ρ2 μ2 => whileG c f ws n ρ2 μ2
    | .bk ρ2 μ2 => .nx (wipeR ρ2 ws) μ2
    | .rt d μ2 => .rt d μ2
    | .ex e ρ2 μ2 => .ex e ρ2 μ2
    | .bad => .bad) else .nx (wipeR ρ ws) μ1
/-- the meaning, if some number of turns is enough -/
noncomputable def sWhile (ws : List Nat) (c : Tv) (f : Sd) : Sd := fun ρ μ => ifC (∃ n, whileG c f ws n ρ μ ≠ .bad) (whileG c f ws (Classical.epsilon fun n => whileG c f ws n ρ μ ≠ .bad) ρ μ) .bad
theorem whileG_more {c : Tv} {f : Sd} {ws : List Nat} : ∀ (n m : Nat) (ρ : Rho) (μ : Mem), n ≤ m → whileG c f ws n ρ μ ≠ .bad → whileG c f ws m ρ μ = whileG c f ws n ρ μ
  | 0, _, _, _, _, h => absurd rfl h
  | n + 1, 0, _, _, h, _ => by omega
  | n + 1, m + 1, ρ, μ, h, hb => by
    have ih := whileG_more (c := c) (f := f) (ws := ws) n m
    unfold whileG at hb ⊢
    cases e : c (wipeR ρ ws) μ with
    | ok k μ1 =>
      rw [e] at hb
      show (if k = true then _ else _) = (if k = true then _ else _)
      have hb : (if k = true then (match f (wipeR ρ ws) μ1 with
        | .nx ρ2 μ2 => whileG c f ws n ρ2 μ2
        | .ct ρ2 μ2 => whileG c f ws n ρ2 μ2
        | .bk ρ2 μ2 => .nx (wipeR ρ2 ws) μ2
        | .rt d μ2 => .rt d μ2
        | .ex e ρ2 μ2 => .ex e ρ2 μ2
        | .bad => .bad) else SR.nx (wipeR ρ ws) μ1) ≠ .bad := hb
      by_cases hk : k = true
      · rw [if_pos hk] at hb ⊢
        rw [if_pos hk]
        cases e2 : f (wipeR ρ ws) μ1 with
        | nx ρ2 μ2 => rw [e2] at hb; exact ih ρ2 μ2 (by omega) hb
        | ct ρ2 μ2 => rw [e2] at hb; exact ih ρ2 μ2 (by omega) hb
        | _ => rfl
      · rw [if_neg hk, if_neg hk]
    | ex x μ1 => rfl
    | bad => rfl
theorem sWhile_eq {ws : List Nat} {c : Tv} {f : Sd} {ρ : Rho} {μ : Mem} {r : SR} (n : Nat) (h : whileG c f ws n ρ μ = r) (hr : r ≠ .bad) : sWhile ws c f ρ μ = r := by
  have hx : ∃ n, whileG c f ws n ρ μ ≠ .bad := ⟨n, by rw [h]; exact hr⟩
  unfold sWhile
  rw [ifC_pos hx]
  have h1 := Classical.epsilon_spec hx
  generalize Classical.epsilon (fun n => whileG c f ws n ρ μ ≠ .bad) = m at h1
  rcases Nat.le_total n m with q | q
  · rw [whileG_more n m ρ μ q (by rw [h]; exact hr), h]
  · rw [← whileG_more m n ρ μ q h1, h]
section
variable {X : Cx} {W : WX} {pos : Pos} {c : Expr} {body : List Stmt} {tc : Tv} {f : Sd}
theorem ss_while (ws : List Nat) (hp : PassesOwn (model X.prog X.w) X.A X.env X.xe) (hc : ST X W c tc) (hb : SSs X W body f) : SS X W (.While c body [] pos) (sWhile ws tc f) :=
  PS.imp (ps_while hp hc hb) fun D σ H ⟨φ, μ, ρ, hv, hs, hp⟩ => by
    have hp : Ps X.K X.mg W φ H (ifC (∃ n, whileG tc f ws n ρ μ ≠ .bad) (whileG tc f ws (Classical.epsilon fun n => whileG tc f ws n ρ μ ≠ .bad) ρ μ) .bad) D := hp
    by_cases hx : ∃ n, whileG tc f ws n ρ μ ≠ .bad
    · rw [ifC_pos hx] at hp
      generalize Classical.epsilon (fun n => whileG tc f ws n ρ μ ≠ .bad) = m at hp
      refine ⟨fun m σ H => ∃ φ μ ρ, Vs X.K φ H ρ σ ∧ Sm X.K φ H μ ∧ Ps X.K X.mg W φ H (whileG tc f ws m ρ μ) D, ⟨m, φ, μ, ρ, hv, hs, hp⟩, ?_⟩
      rintro m σ H ⟨φ, μ, ρ, hv, hs, hp⟩
      cases m with
      | zero => exact hp.elim
      | succ m =>
        have hw := hv.wipe ws
        have hp : Ps X.K X.mg W φ H ((tc (wipeR ρ ws) μ).thn ρ fun k μ1 => if k = true then (match f (wipeR ρ ws) μ1 with
          | .nx ρ2 μ2 => whileG tc f ws m ρ2 μ2
          | .ct ρ2 μ2 => whileG tc f ws m ρ2 μ2
          | .bk ρ2 μ2 => .nx (wipeR ρ2 ws) μ2
          | .rt d μ2 => .rt d μ2
          | .ex e ρ2 μ2 => .ex e ρ2 μ2
          | .bad => .bad) else .nx (wipeR ρ ws) μ1) D := hp
        refine ⟨φ, μ, wipeR ρ ws, hw, hs, Pg.imp (Ps.thn hp hv) fun b H1 ⟨k, μ1, φ1, g1, r1, s1, p1⟩ => ?_⟩
        obtain rfl : k = b := r1
        have hw1 := hw.mono g1
        cases k with
        | true =>
          rw [if_pos rfl] at p1 ⊢
          refine ⟨fun σ' H' => ∃ φ' μ' ρ', Vs X.K φ' H' ρ' σ' ∧ Sm X.K φ' H' μ' ∧ Ps X.K X.mg W φ' H' (whileG tc f ws m ρ' μ') D, fun σ' H' q => ⟨m, Nat.lt_succ_self m, q⟩, φ1, μ1, wipeR ρ ws, hw1, s1, ?_⟩
          cases e2 : f (wipeR ρ ws) μ1 with
          | nx ρ2 μ2 => rw [e2] at p1; exact fun σ3 H3 φ3 g3 v3 s3 => ⟨φ3, μ2, ρ2, v3, s3, Ps.grow g3 p1⟩
          | ct ρ2 μ2 => rw [e2] at p1; exact fun σ3 H3 φ3 g3 v3 s3 => ⟨φ3, μ2, ρ2, v3, s3, Ps.grow g3 p1⟩
          | bk ρ2 μ2 => rw [e2] at p1; exact fun σ3 H3 φ3 g3 v3 s3 => p1 σ3 H3 φ3 g3 (v3.wipe ws) s3
          | rt d μ2 => rw [e2] at p1; exact p1
          | ex x ρ2 μ2 => rw [e2] at p1; exact p1
          | bad => rw [e2] at p1; exact p1.elim
        | false =>
          rw [if_neg Bool.false_ne_true] at p1 ⊢
          exact p1 σ H1 φ1 (Gr.refl _ _) hw1 s1
    · rw [ifC_neg hx] at hp; exact hp.elim
end

/-! ### defs -/
/-- a def's promise by its meaning -/
def spOf (K : Fr0) (mg : Str → Option Value) (n : Nat) (g : Fn) : Sp := fun vs H Q E => vs.length = n ∧ ∃ φ μ ds, Rvs K φ H ds vs ∧ Sm K φ H μ ∧ Pg K mg (fun c dd _ H' => E c dd H') [] (Rv K) φ H (g ds μ) Q
/-- the def x (st) stands in the module and keeps to its meaning -/
structure Cal (P : Program) (w : World) (K : Fr0) (mg : Str → Option Value) (base : Heap) (k : Nat) (x : Str) (st : Stmt) (ps : List Str) (g : Fn) : Prop where
  ex : ∃ (f : Addr) (fd : FuncData), mg x = some (.ref f) ∧ Fun K x x st f fd ∧ Binds K fd ps [] ∧ FnOk P w K mg base (L2.CX P w) k f fd ps (spOf K mg ps.length g)
section
variable {P : Program} {w : World} {K : Fr0} {mg : Str → Option Value} {base : Heap} {x : Str} {st : Stmt} {ps : List Str}
theorem Cal.mono {j k : Nat} {g : Fn} (c : Cal P w K mg base j x st ps g) (h : j ≤ k) : Cal P w K mg base k x st ps g := by
  obtain ⟨f, fd, h1, h2, h4, h5⟩ := c.ex
  exact ⟨f, fd, h1, h2, h4, h5.mono h⟩
/-- a clearer meaning: it says what the meaning does, up to places that nothing refers to any more -/
theorem Cal.imp {k : Nat} {g g' : Fn} (c : Cal P w K mg base k x st ps g)
    (h : ∀ (φ : List Addr) (H : Hp) (W : WX) (Q : VK) (ds : List D) (μ : Mem) (vs : List V), ds.length = ps.length → Rvs K φ H ds vs → Sm K φ H μ → Pg K mg W [] (Rv K) φ H (g' ds μ) Q → Pg K mg W [] (Rv K) φ H (g ds μ) Q) : Cal P w K mg base k x st ps g' := by
  obtain ⟨f, fd, h1, h2, h4, h5⟩ := c.ex
  exact ⟨f, fd, h1, h2, h4, h5.imp fun vs H Q E ⟨l, φ, μ, ds, r, s, q⟩ => ⟨l, φ, μ, ds, r, s, h φ H _ Q ds μ vs (by rw [← r.length]; exact l) r s q⟩⟩
/-- the meanings are alike where it matters -/
theorem Cal.eqOn {k : Nat} {g g' : Fn} (c : Cal P w K mg base k x st ps g) (h : ∀ ds μ, ds.length = ps.length → g' ds μ ≠ .bad → g ds μ = g' ds μ) : Cal P w K mg base k x st ps g' :=
  c.imp fun φ H W Q ds μ vs l _ _ q => by
    by_cases hb : g' ds μ = .bad
    · rw [hb] at q; exact q.elim
    · rw [h ds μ l hb]; exact q
end
/-- a def in the module, told apart from what it does -/
structure Df (K : Fr0) (mg : Str → Option Value) (x : Str) (st : Stmt) (ps : List Str) : Prop where
  ex : ∃ (f : Addr) (fd : FuncData), mg x = some (.ref f) ∧ Fun K x x st f fd ∧ Binds K fd ps []
@[simp] def runD (N : List Str) (f : Sd) : Fn := fun ds μ => match f (ds.map some ++ List.replicate (N.length - ds.length) none) μ with
  | .nx _ μ1 => .ok .non μ1
  | .rt d μ1 => .ok d μ1
  | .ex e _ μ1 => .ex e μ1
  | _ => .bad
theorem vs_start {K : Fr0} {φ : List Addr} {H : Hp} {N : List Str} {ds : List D} {vs : List V} (r : Rvs K φ H ds vs) : Vs K φ H (ds.map some ++ List.replicate (N.length - ds.length) none) (L2.start N vs) := by
  have hl := r.length
  refine ⟨by simp [L2.start, hl], fun i d e => ?_⟩
  by_cases hi : i < ds.length
  · rw [List.getElem?_append_left (by simpa using hi), List.getElem?_map] at e
    obtain ⟨d', e', q⟩ := map_some e
    cases q
    obtain ⟨v, ev, rv⟩ := r.get e'
    refine ⟨v, ?_, rv⟩
    unfold L2.start
    rw [List.getElem?_append_left (by simp; omega), List.getElem?_map, ev]
    rfl
  · rw [List.getElem?_append_right (by simp; omega), List.getElem?_replicate] at e
    split at e <;> cases e
section
variable {P : Program} {w : World} {K : Fr0} {mg : Str → Option Value} {base : Heap}
/-- THE RULE of a def: its body's meaning -/
theorem cal_of {x : Str} {st : Stmt} {N ps : List Str} {k : Nat} {f : Sd} (F : Df K mg x st ps) (S : FnScope N ps (defScope st))
    (body : ∀ (a : Addr) (cdv : Value) (A : Around) (outer : List Env) (s : Shared) (H : Hp) (E : XK), Room k (A.deeper (envOfC x (defScope st) s.heap.objs.size a cdv)) →
      SSs (cxOf (L2.CX P w) P w K mg base N x (defScope st) a cdv A outer s H E) (fun c d _ H' => E c d H') (defBody st) f) : Cal P w K mg base (k + 1) x st ps (runD N f) := by
  obtain ⟨a, fd, hm, F, hb⟩ := F.ex
  refine ⟨a, fd, hm, F, hb, F.okX S (fun vs H Q E h => h.1) fun cdv A outer s H vs Q E hr h => ?_⟩
  obtain ⟨l, φ, μ, ds, r, sm, q⟩ := h
  refine ⟨_, body a cdv A outer s H E hr, φ, μ, _, vs_start r, sm, ?_⟩
  unfold runD at q
  cases e : f (ds.map some ++ List.replicate (N.length - ds.length) none) μ with
  | nx ρ1 μ1 => rw [e] at q; exact fun σ' H' φ' g v s => q .non H' φ' g rfl s
  | rt d μ1 => rw [e] at q; exact q
  | bk ρ1 μ1 => rw [e] at q; exact q.elim
  | ct ρ1 μ1 => rw [e] at q; exact q.elim
  | ex x ρ1 μ1 => rw [e] at q; exact fun σ' H' φ' c dd g v s rx => q H' φ' c dd g s rx
  | bad => rw [e] at q; exact q.elim
end
theorem Pg.wish {K : Fr0} {mg : Str → Option Value} {α β : Type} {R : List Addr → Hp → α → β → Prop} {W : WX} {σ : L2.St} {φ : List Addr} {H : Hp} {r : Out α} {Q : β → Hp → Prop} (h : Pg K mg W σ R φ H r Q) : Pg K mg (fun c dd _ H' => W c dd σ H') [] R φ H r Q := by
  cases r with
  | ok d μ => exact h
  | ex e μ => exact h
  | bad => exact h
@[simp] def eCall (g : Fn) (a : Av) : Ev := fun ρ μ => (a ρ μ).bind fun ds μ1 => g ds μ1
section
variable {X : Cx} {W : WX} {pos p : Pos} {e : Expr} {es : List Expr} {kws : List Keyword} {fa fk : Av} {x : Str} {g : Fn} {k n : Nat} {st : Stmt} {ps ks : List Str}
theorem Pg.calls {φ : List Addr} {H : Hp} {σ : L2.St} {Q : VK} {n : Nat} {r : Out (List D)} (h : Pg X.K X.mg W σ (Rv X.K) φ H (r.bind fun ds μ1 => g ds μ1) Q) (hlen : ∀ ds μ', r = .ok ds μ' → ds.length = n) :
    Pg X.K X.mg W σ (Rvs X.K) φ H r (fun vs H1 => spOf X.K X.mg n g vs H1 Q (WE W σ)) := by
  cases r with
  | ok ds μ1 => exact fun vs H1 φ1 g1 r1 s1 => ⟨by rw [r1.length]; exact hlen ds μ1 rfl, φ1, μ1, ds, r1, s1, (Pg.grow g1 h).wish⟩
  | ex x μ1 => exact h
  | bad => exact h
theorem se_call (C : Cal X.prog X.w X.K X.mg X.base k x st ps g) (hr : Room k X.A) (tk : Takes X W) (ha : SA X W (e :: es) fa) (hlen : ∀ ρ μ ds μ', fa ρ μ = .ok ds μ' → ds.length = ps.length) (hg : Gl X x := by rfl) (hdb : (x == ("__debug__" : Str)) = false := by decide)
    (he : starEach (e :: es) X.env = (false, eval e X.env) :: starEach es X.env := by rfl) (hpl : (backTo pos (starEach es X.env)).any (·.1) = false := by rfl) : SE X W (.Call (.Name x p) (e :: es) [] pos) (eCall g fa) := by
  obtain ⟨f, fd, hm, F, hb, Fo⟩ := C.ex
  exact PE.imp (pe_callS (E := WE W) Fo hr hg hm F.kp hb (fun σ => passAt tk σ) ha hdb he hpl) fun σ H Q ⟨φ, μ, ρ, hv, hs, hp⟩ => ⟨φ, μ, ρ, hv, hs, Pg.calls hp fun ds μ' => hlen ρ μ ds μ'⟩
/-- a def without parameters -/
theorem se_call0 (C : Cal X.prog X.w X.K X.mg X.base k x st ps g) (hr : Room k X.A) (tk : Takes X W) (hn : ps.length = 0 := by rfl) (hg : Gl X x := by rfl) (hdb : (x == ("__debug__" : Str)) = false := by decide) : SE X W (.Call (.Name x p) [] [] pos) (fun _ μ => g [] μ) := by
  obtain ⟨f, fd, hm, F, hb, Fo⟩ := C.ex
  refine ⟨fun pins s σ H Q I h => ?_⟩
  obtain ⟨φ, μ, ρ, hv, hs, hp⟩ := h
  refine wpAny_Call_Name_kw (ld_glob I hg hm ?_ hdb)
  exact PySem.W.callWith_K0 I.kIn F.kp (run_fnS (us := []) (E := WE W) Fo hr hb (passAt tk σ) I .nil ⟨hn.symm, φ, μ, [], rfl, hs, hp.wish⟩)
/-! keywords: the parameters in their sequence -/
structure SK (X : Cx) (W : WX) (kws : List Keyword) (f : Av) : Prop where
  pk : PK X kws (tR X.K X.mg W (Rvs X.K) f)
theorem sk_nil : SK X W [] aNil := ⟨⟨fun pos pins s σ H Q I ⟨φ, μ, ρ, hv, hs, hp⟩ => wpAny_evalAll_nil ⟨[], H, I, .nil, hp [] H φ (Gr.refl _ _) rfl hs⟩⟩⟩
theorem sk_cons {nm : Option Str} {kpos : Pos} {fe : Ev} (ha : SE X W e fe) (hr : SK X W kws fk) : SK X W (⟨nm, e, kpos⟩ :: kws) (aCons fe fk) := by
  refine ⟨⟨fun pos pins s σ H Q I h => ?_⟩⟩
  have h : tR X.K X.mg W (Rvs X.K) (fun ρ μ => (fe ρ μ).bind fun d μ1 => (fk ρ μ1).bind fun ds μ2 => .ok (d :: ds) μ2) σ H Q := h
  obtain ⟨φ, μ, ρ, hv, hs, hp⟩ := h
  exact (pk_cons ha hr.pk).run pos pins s σ H Q I ⟨φ, μ, ρ, hv, hs, Pg.imp (Pg.bind hp) fun x H1 ⟨d, μ1, φ1, g1, r1, s1, p1⟩ =>
    ⟨φ1, μ1, ρ, hv.mono g1, s1, Pg.imp (Pg.bind p1) fun xs H2 ⟨ds, μ2, φ2, g2, r2, s2, p2⟩ => Pg.here p2 ⟨x, xs, rfl, r1.mono g2, r2⟩ s2⟩⟩
theorem kbn_of {K : Fr0} {f : Addr} {fd : FuncData} (F : Fun K x x st f fd) (n : Nat) (ks : List Str)
    (h : ∀ (kV doc pm : Value) (an : Option Addr) (cdv ct : Value) (us ws : List Value), us.length = n → ws.length = ks.length → bindArgs (PySem.W.fnOf x x (defArgs st) (defBody st) (defScope st) .none kV doc pm an cdv ct) ⟨us, ks.zip ws⟩ = pure (ps.zip (us ++ ws))) :
    KBn K fd ps n ks (fun us ws => us ++ ws) (fun vs zs => vs ++ zs) := by
  obtain ⟨oc, od, kV, doc, pm, an, cdv, ct, osl, rfl, lk, hcd⟩ := F.ex
  exact ⟨fun s us ws _ l1 l2 => .of_eq (h kV doc pm an cdv ct us ws l1 l2), fun r z => r.append z⟩
@[simp] def eCallK (g : Fn) (n m : Nat) (a b : Av) : Ev := fun ρ μ => (a ρ μ).bind fun ds μ1 => (b ρ μ1).bind fun es μ2 => if ds.length = n ∧ es.length = m then g (ds ++ es) μ2 else .bad
theorem callKW_run {f : Addr} {fd : FuncData} {pins : List (Addr × Obj)} {σ : L2.St} {H : Hp} {s : Shared} {Q : VK} {us ws : List Value} {vs zs : List V} {φ : List Addr} {μ : Mem} {ds es : List D} (Fo : FnOk X.prog X.w X.K X.mg X.base (L2.CX X.prog X.w) k f fd ps (spOf X.K X.mg ps.length g)) (hr : Room k X.A)
    (kb : KBn X.K fd ps n ks (fun us ws => us ++ ws) (fun vs zs => vs ++ zs)) (tk : Takes X W) (I : Inv X pins σ H s) (r : Vals vs us) (z : Vals zs ws) (rd : Rvs X.K φ H ds vs) (rz : Rvs X.K φ H es zs) (sm : Sm X.K φ H μ) (hnm : n + ks.length = ps.length)
    (h : Pg X.K X.mg W σ (Rv X.K) φ H (if ds.length = n ∧ es.length = ks.length then g (ds ++ es) μ else .bad) Q) : wpAny (model X.prog X.w) X.A (call (.ref f) us (ks.zip ws)) (EP X pins σ Q) X.xe s := by
  by_cases hc : ds.length = n ∧ es.length = ks.length
  · rw [if_pos hc] at h
    have lv : vs.length = n := rd.length.trans hc.1
    have lz : zs.length = ks.length := rz.length.trans hc.2
    refine wpAny_call (codeAny_mono (Fo.run X.A X.stack s H ⟨us, ks.zip ws⟩ (us ++ ws) (vs ++ zs) Q (WE W σ) hr I.env0 (kb.to s us ws I.kIn (r.length ▸ lv) (z.length ▸ lz)) (r.append z) ⟨by rw [List.length_append]; omega, φ, μ, ds ++ es, rd.append rz, sm, h.wish⟩) fun o s2 w => ?_)
    cases o with
    | error e => exact passAt tk σ pins H s e s2 I w
    | ok c =>
      cases c with
      | ret u => exact I.after w
      | next => exact w.elim
      | brk => exact w.elim
      | cont => exact w.elim
  · rw [if_neg hc] at h; exact h.elim
theorem se_callK (C : Cal X.prog X.w X.K X.mg X.base k x st ps g) (hr : Room k X.A) (tk : Takes X W) (n : Nat) (ks : List Str)
    (hb : ∀ (kV doc pm : Value) (an : Option Addr) (cdv ct : Value) (us ws : List Value), us.length = n → ws.length = ks.length → bindArgs (PySem.W.fnOf x x (defArgs st) (defBody st) (defScope st) .none kV doc pm an cdv ct) ⟨us, ks.zip ws⟩ = pure (ps.zip (us ++ ws)))
    (ha : SA X W (e :: es) fa) (hk : SK X W kws fk) (hnm : n + ks.length = ps.length := by rfl) (hall : (backToKw pos (keywordEach kws X.env)).all (·.1.isSome) = true := by rfl) (hks : (backToKw pos (keywordEach kws X.env)).filterMap (·.1) = ks := by rfl) (hg : Gl X x := by rfl)
    (hdb : (x == ("__debug__" : Str)) = false := by decide) (he : starEach (e :: es) X.env = (false, eval e X.env) :: starEach es X.env := by rfl)
    (hpl : ((backTo pos (starEach (e :: es) X.env)).any (·.1) || (backToKw pos (keywordEach kws X.env)).any (·.1.isNone)) = false := by rfl) : SE X W (.Call (.Name x p) (e :: es) kws pos) (eCallK g n ks.length fa fk) := by
  obtain ⟨f, fd, hm, F, _, Fo⟩ := C.ex
  refine ⟨fun pins s σ H Q I h => ?_⟩
  obtain ⟨φ, μ, ρ, hv, hs, hp⟩ := h
  refine wpAny_Call_Name_kw (ld_glob I hg hm ?_ hdb)
  refine PySem.W.callWith_KW (h₀ := X.base) I.ok.mod.kin F.kp hall (thn (ha.run pos pins s σ H _ I ⟨φ, μ, ρ, hv, hs, Pg.bind hp⟩) fun us s1 ⟨vs, H1, I1, r, ds, μ1, φ1, g1, r1, m1, p1⟩ => ?_) hpl he
  refine thn (hk.pk.run pos pins s1 σ H1 _ I1 ⟨φ1, μ1, ρ, hv.mono g1, m1, Pg.bind p1⟩) fun ws s2 ⟨zs, H2, I2, rz, es', μ2, φ2, g2, r2, m2, p2⟩ => ⟨I2.kIn, ?_⟩
  rw [hks]
  exact callKW_run Fo hr (kbn_of F n ks hb) tk I2 r rz (r1.mono g2) r2 m2 hnm p2
theorem se_callK0 (C : Cal X.prog X.w X.K X.mg X.base k x st ps g) (hr : Room k X.A) (tk : Takes X W) (ks : List Str)
    (hb : ∀ (kV doc pm : Value) (an : Option Addr) (cdv ct : Value) (us ws : List Value), us.length = 0 → ws.length = ks.length → bindArgs (PySem.W.fnOf x x (defArgs st) (defBody st) (defScope st) .none kV doc pm an cdv ct) ⟨us, ks.zip ws⟩ = pure (ps.zip (us ++ ws)))
    (hk : SK X W kws fk) (hnm : 0 + ks.length = ps.length := by rfl) (hall : (backToKw pos (keywordEach kws X.env)).all (·.1.isSome) = true := by rfl) (hks : (backToKw pos (keywordEach kws X.env)).filterMap (·.1) = ks := by rfl) (hg : Gl X x := by rfl)
    (hdb : (x == ("__debug__" : Str)) = false := by decide) (hpl : ((backTo pos (starEach [] X.env)).any (·.1) || (backToKw pos (keywordEach kws X.env)).any (·.1.isNone)) = false := by rfl) :
    SE X W (.Call (.Name x p) [] kws pos) (eCallK g 0 ks.length aNil fk) := by
  obtain ⟨f, fd, hm, F, _, Fo⟩ := C.ex
  refine ⟨fun pins s σ H Q I h => ?_⟩
  obtain ⟨φ, μ, ρ, hv, hs, hp⟩ := h
  refine wpAny_Call_Name_kw (ld_glob I hg hm ?_ hdb)
  refine PySem.W.callWith_KW0 (h₀ := X.base) I.ok.mod.kin F.kp hall ?_ hpl
  have hp : Pg X.K X.mg W σ (Rv X.K) φ H ((fk ρ μ).bind fun es μ2 => if ([] : List D).length = 0 ∧ es.length = ks.length then g ([] ++ es) μ2 else .bad) Q := hp
  refine thn (hk.pk.run pos pins s σ H _ I ⟨φ, μ, ρ, hv, hs, Pg.bind hp⟩) fun ws s2 ⟨zs, H2, I2, rz, es', μ2, φ2, g2, r2, m2, p2⟩ => ⟨I2.kIn, ?_⟩
  rw [hks]
  exact callKW_run (us := []) (vs := []) Fo hr (kbn_of F 0 ks hb) tk I2 .nil rz (show Rvs X.K φ2 H2 [] [] from rfl) r2 m2 hnm p2
end
/-- so many arguments -/
def ALen (f : Av) (n : Nat) : Prop := ∀ ρ μ ds μ', f ρ μ = .ok ds μ' → ds.length = n
theorem alen_nil : ALen aNil 0 := fun ρ μ ds μ' h => by cases h; rfl
theorem alen_cons {a : Ev} {r : Av} {n : Nat} (h : ALen r n) : ALen (aCons a r) (n + 1) := fun ρ μ ds μ' e => by
  have e : ((a ρ μ).bind fun d μ1 => (r ρ μ1).bind fun ds μ2 => .ok (d :: ds) μ2) = .ok ds μ' := e
  cases e1 : a ρ μ with
  | ok d μ1 =>
    rw [e1] at e
    have e : ((r ρ μ1).bind fun ds μ2 => Out.ok (d :: ds) μ2) = .ok ds μ' := e
    cases e2 : r ρ μ1 with
    | ok es μ2 =>
      rw [e2] at e
      cases e
      rw [List.length_cons, h ρ μ1 es _ e2]
    | ex x μ2 => rw [e2] at e; cases e
    | bad => rw [e2] at e; cases e
  | ex x μ2 => rw [e1] at e; cases e
  | bad => rw [e1] at e; cases e
end G

/-! G11: raise; try with several clauses, with and without a name -/
namespace G
open PySem PySem.Spec PyProof.Rows L2

/-! ### raise -/
/-- the class x (at C) is an own error without an __init__ -/
structure Er0 (K : Fr0) (mg : Str → Option Value) (x : Str) (C : Addr) : Prop where
  gC : mg x = some (.ref C)
  made : PySem.W.excIn K C [.type "Exception", .type "BaseException", .type "object"] "Exception.__new__" = true
  kC : PySem.W.keepIn K (.ref C) = true
  sub : PySem.W.subIn K (.ref C) (.type "BaseException") = some true
  ty : PySem.W.typeIn K (.ref C) = some (.type "type")
  hd : PySem.W.hasDictIn K C = true
section
variable {X : Cx} {W : WX} {x m : Str} {C : Addr}
theorem ss_raise0 (hc : X.calm = true) (tk : Takes X W) (E : Er0 X.K X.mg x C) {j : Nat} {p p2 pos pos2 : Pos} (hg : Gl X x := by rfl) (hdb : (x == ("__debug__" : Str)) = false := by decide) :
    SS X W (.Raise (some (.Call (.Name x p) [.Constant (.str m) j p2] [] pos)) none pos2) (fun ρ μ => .ex ⟨x, []⟩ ρ μ) :=
  PS.imp (ps_raise hc tk (pmk_own PySem.F.excBase_Exception E.made E.gC E.kC (raises_own E.sub E.ty) hg hdb)) fun D σ H ⟨φ, μ, ρ, hv, hs, hp⟩ => hp σ H φ (.ref C) none (Gr.refl _ _) hv hs ⟨E.gC, rfl⟩
end

/-! ### try -/
abbrev Clause := Value × Option Nat × (Addr → Value → Option Addr → TS)
/-- behind a suite with a name the name's slot is empty -/
def endsAt (o : Option Nat) (D : Ends) : Ends := match o with
  | none => D
  | some i => { nx := fun σ H => D.nx (σ.set i none) H, rt := D.rt, bk := fun σ H => D.bk (σ.set i none) H, ct := fun σ H => D.ct (σ.set i none) H }
def inAt (o : Option Nat) (a : Addr) (σ : L2.St) : L2.St := match o with
  | none => σ
  | some i => σ.set i (some (.ref a))
def wMix (K : Fr0) (Wout : WX) (D : Ends) : List Clause → WX
  | [] => Wout
  | (c, o, ts) :: r => fun cls d σ H => ∃ b, PySem.W.exmOne K cls c = some b ∧ (b = true → ∀ a, H a = none → ts a cls d (endsAt o D) (inAt o a σ) H) ∧ (b = false → wMix K Wout D r cls d σ H)
inductive Mixed (X : Cx) : List ExceptHandler → List Clause → Prop
  | nil : Mixed X [] []
  | plain {x : Str} {c : Value} {ts : Addr → Value → Option Addr → TS} {b0 : Stmt} {body : List Stmt} {p q : Pos} {r : List ExceptHandler} {l : List Clause} (hc : Names X x c)
      (hsu : ∀ (a : Addr) (oe : Obj) (cls : Value) (d : Option Addr) (pn : List (Addr × Obj)), Zc cls d oe → (∃ vs, oe.data = .fields vs) → PSs (X.suite a ((a, oe) :: pn)) (b0 :: body) (ts a cls d)) (hr : Mixed X r l) :
      Mixed X (.ExceptHandler (some (.Name x p)) none (b0 :: body) q :: r) ((c, none, ts) :: l)
  | named {x n : Str} {c : Value} {i : Nat} {ts : Addr → Value → Option Addr → TS} {b0 : Stmt} {body : List Stmt} {p q : Pos} {r : List ExceptHandler} {l : List Clause} (hc : Names X x c) (hN : X.N.Nodup) (hi : X.N[i]? = some n) (hln : X.env.kindOf n = some .local)
      (hsu : ∀ (a : Addr) (oe : Obj) (cls : Value) (d : Option Addr) (pn : List (Addr × Obj)), Zc cls d oe → (∃ vs, oe.data = .fields vs) → PSs (X.suite a ((a, oe) :: pn)) (b0 :: body) (ts a cls d)) (hr : Mixed X r l) :
      Mixed X (.ExceptHandler (some (.Name x p)) (some n) (b0 :: body) q :: r) ((c, some i, ts) :: l)
section
variable {X : Cx} {pins : List (Addr × Obj)} {σ : L2.St} {H : Hp} {s : Shared}
/-- out of a try's body, nothing raised -/
theorem sp_ofTry {xe : Value → Shared → Prop} {D : Ends} {f : Flow} (ok : X.Ok) (h : SP (X.tr (X.pn ++ pins) xe) [] D f s) : SP X pins D f s := by
  cases f with
  | next => obtain ⟨τ, G, I, q⟩ := h; exact ⟨τ, G, I.ofTry ok, q⟩
  | brk => obtain ⟨τ, G, I, q⟩ := h; exact ⟨τ, G, I.ofTry ok, q⟩
  | cont => obtain ⟨τ, G, I, q⟩ := h; exact ⟨τ, G, I.ofTry ok, q⟩
  | ret u => obtain ⟨v, τ, G, I, r, q⟩ := h; exact ⟨v, τ, G, I.ofTry ok, r, q⟩
/-- out of a clause's suite -/
theorem sp_ofSuite {a : Addr} {oe : Obj} {D : Ends} {f : Flow} (ok : X.Ok) (h : SP (X.suite a ((a, oe) :: (X.pn ++ pins))) [] D f s) : SP X pins D f s := by
  cases f with
  | next => obtain ⟨τ, G, I, q⟩ := h; exact ⟨τ, G, I.unsuite ok, q⟩
  | brk => obtain ⟨τ, G, I, q⟩ := h; exact ⟨τ, G, I.unsuite ok, q⟩
  | cont => obtain ⟨τ, G, I, q⟩ := h; exact ⟨τ, G, I.unsuite ok, q⟩
  | ret u => obtain ⟨v, τ, G, I, r, q⟩ := h; exact ⟨v, τ, G, I.unsuite ok, r, q⟩
variable {hs : List ExceptHandler} {body : List Stmt} {l : List Clause} {pos : Pos} {tb : WX → TS} {Wout : WX} {h0 : ExceptHandler}
theorem ps_try_mix (hst : X.stack = X.env :: X.outer) (hfr : X.env.frame = some X.env.locals) (tk : Takes X Wout)
    (hb : ∀ (W : WX) (pn : List (Addr × Obj)) (xe : Value → Shared → Prop), Takes (X.tr pn xe) W → PassesOwn (model X.prog X.w) X.A X.env xe → PSs (X.tr pn xe) body (tb W))
    (hh : Mixed X (h0 :: hs) l) : PS X (.Try body (h0 :: hs) [] [] pos) (fun D σ H => tb (wMix X.K Wout D l) D σ H) := by
  refine ⟨fun pins s σ H D I q0 => ?_⟩
  have ok := I.ok
  have frA : X.A.frames = some (X.env :: X.outer) := ok.frames.trans (congrArg some hst)
  refine wpAny_Try_except ?_
  refine wpAny_mono ((hb (wMix X.K Wout D l) (X.pn ++ pins) (fun e sA => wpAny (model X.prog X.w) X.A (noteFrame e X.env) (fun _ sB => wpAny (model X.prog X.w) X.A (setFlight e none) (fun _ sC =>
    wpAny (model X.prog X.w) X.A (handleBy e X.env (h0 :: hs)) (SP X pins D) X.xe sC) X.xe sB) X.xe sA) (fun u sE xx => ?_) PassesOwn.looking).run [] s σ H D (I.toTry _) q0) (fun f sF hf => ?_) (fun e sX he => he)
  · obtain ⟨a, B, sI, pinsB, τ, G, cls, d, rfl, Jt, nb, up, sky, na, os, ag, w⟩ := xx
    have J : Inv X pins τ G sI := Jt.ofTry ok
    have sky2 : Sky B (X.env :: X.outer) a (Zc cls d) X.env.locals sE.heap := hst ▸ sky
    show wpAny (model X.prog X.w) X.A (noteFrame (.ref a) X.env) _ _ _
    refine Sky.land Zc.steady frA hfr sky2 fun hA flA upA => ?_
    have JA : Inv X pins τ G { sE with heap := hA } := J.landed nb flA.1 (up.trans upA) os ag
    obtain ⟨oA, vA, eA, zA, dA⟩ := flA.there
    have nfr : a ∉ frs (X.env :: X.outer) := fun hm => by
      obtain ⟨_, ob, eb, hn⟩ := flA.2.2.1.mem hm
      rw [eA] at eb; cases eb
      exact hn _ dA
    have nL : a ≠ X.env.locals := fun z => nfr (List.mem_filterMap.mpr ⟨X.env, List.mem_cons_self, hfr.trans (congrArg some z.symm)⟩)
    have nF : a ∉ X.fs := fun hm => by
      obtain ⟨e, he, z⟩ := List.mem_filterMap.mp hm
      exact nfr (List.mem_filterMap.mpr ⟨e, List.mem_cons_of_mem _ he, z⟩)
    have SA0 := JA.suite eA dA na nL nF
    have LT : PySem.W.Looks (model X.prog X.w) hA (typeOf (.ref a)) cls := fun A Q E s k q => wpAny_typeOf_ref (k _ _ eA) (zA.1.symm ▸ q)
    have test : ∀ {x : Str} {c : Value} {np : Pos} {b : Bool} {A2 : Around} {Q : Bool → Shared → Prop} {E E2 : Value → Shared → Prop}, Names X x c → PySem.W.exmOne X.K cls c = some b →
        Q b { sE with heap := hA } → wpAny (model X.prog X.w) (X.A.mark (some (.ref a))) (eval (.Name x np) X.env) (fun v s1 => wpAny (model X.prog X.w) A2 (excMatches (.ref a) v) Q E2 s1) E { sE with heap := hA } := fun {x c np b A2 Q E E2} hc hx q => by
      have LM := PySem.W.exm_one (M := model X.prog X.w) JA.kIn LT hx
      have q2 : wpAny (model X.prog X.w) A2 (excMatches (.ref a) c) Q E2 { sE with heap := hA } := LM.here q
      obtain ⟨g1, g2, g3 | ⟨g3, g4, g5⟩⟩ := hc
      · exact ld_glob (X := X.suite a ((a, oA) :: (X.pn ++ pins))) SA0 g1 g3 q2 g2
      · exact ld_blt (X := X.suite a ((a, oA) :: (X.pn ++ pins))) SA0 g1 g3 g4 q2 g5 g2
    have go : ∀ {ks : List ExceptHandler} {kl : List Clause}, Mixed X ks kl → wMix X.K Wout D kl cls d τ G → wpAny (model X.prog X.w) X.A (handleBy (.ref a) X.env ks) (SP X pins D) X.xe { sE with heap := hA } := by
      intro ks kl hk
      induction hk with
      | nil =>
        intro w
        refine wpAny_handleBy_nil ?_
        obtain ⟨_, _, _, oe, vs, T, oT, _, he, hz, hd, h1, hr⟩ := id flA
        unfold PySem.passOn
        refine wpAny_bind (wpAny_field he hd h1 ?_)
        rw [if_neg (show ¬ ((Value.ref T == Value.none) = true) from by simp)]
        have fin : wpAny (model X.prog X.w) X.A (setFlight (.ref a) X.env.frame) (fun _ sD => wpAny (model X.prog X.w) X.A (throw (.ref a) : Sem Flow) (SP X pins D) X.xe sD) X.xe { sE with heap := hA } := by
          rw [hfr]
          refine HandSPX.setFlight_upZ flA fun hB heldB upB => wpAny_throw (tk _ _ ?_)
          exact ⟨a, B, sI, pins, τ, G, cls, d, rfl, J, nb, (up.trans upA).trans upB, .inr (.inr (hst.symm ▸ heldB)), na, os, ag, w⟩
        first
          | exact wpAny_bind (wpAny_pure (wpAny_bind fin))
          | exact wpAny_bind fin
      | @plain x c ts b0 body p q r l hc hsu hr ih =>
        intro w
        obtain ⟨b, hx, yes, no⟩ := w
        refine wpAny_handleBy_cons (codeAny_handlers_test ?_) (by intro z; cases z)
        refine test hc hx ?_
        cases b with
        | true =>
          refine codeAny_handlers_suite ?_
          refine HandSPX.lands_againZ flA fun hB flB upB => ?_
          have JB : Inv X pins τ G { sE with heap := hB } := J.landed nb flB.1 ((up.trans upA).trans upB) os ag
          obtain ⟨oB, vB, eB, zB, dB⟩ := flB.there
          exact wpAny_mono ((hsu a oB cls d (X.pn ++ pins) zB ⟨_, dB⟩).run [] _ _ G _ (JB.suite eB dB na nL nF) (yes rfl a na)) (fun f sG hf => sp_ofSuite ok hf) (fun _ _ z => False.elim z)
        | false =>
          show wpAny _ X.A (handleBy (.ref a) X.env r) _ _ _
          exact ih (no rfl)
      | @named x n c i ts b0 body p q r l hc hN hi hln hsu hr ih =>
        intro w
        obtain ⟨b, hx, yes, no⟩ := w
        refine wpAny_handleBy_cons (codeAny_handlers_test ?_) (by intro z; cases z)
        refine test hc hx ?_
        cases b with
        | true =>
          refine codeAny_handlers_suite_as ?_
          refine HandSPX.lands_againZ flA fun hB flB upB => ?_
          have JB : Inv X pins τ G { sE with heap := hB } := J.landed nb flB.1 ((up.trans upA).trans upB) os ag
          obtain ⟨oB, vB, eB, zB, dB⟩ := flB.there
          refine store_ok (X := X.suite a ((a, oB) :: (X.pn ++ pins))) (v := .ref a) (JB.suite eB dB na nL nF) hN hi (.inl hln) rfl (fun sG SG => ?_) (.inr hln)
          refine wpAny_mono ((hsu a oB cls d (X.pn ++ pins) zB ⟨_, dB⟩).run [] sG _ G _ SG (yes rfl a na)) (fun f sJ hf => ?_) (fun _ _ z => False.elim z)
          have gone : ∀ {τ2 : L2.St} {G2 : Hp} {Q : Shared → Prop}, Inv (X.suite a ((a, oB) :: (X.pn ++ pins))) [] τ2 G2 sJ → (∀ sK, Inv X pins (τ2.set i none) G2 sK → Q sK) →
              wpAny (model X.prog X.w) X.A (do bindName X.env n .none; unbindBehindTheSuite X.env n q) (fun _ sK => Q sK) X.xe sJ := fun {τ2 G2 Q} S2 hq => gone_ok (S2.unsuite ok) hN hi hln hq
          cases f with
          | next => obtain ⟨τ2, G2, S2, w2⟩ := hf; exact gone S2 fun sK K2 => ⟨_, _, K2, w2⟩
          | brk => obtain ⟨τ2, G2, S2, w2⟩ := hf; exact gone S2 fun sK K2 => ⟨_, _, K2, w2⟩
          | cont => obtain ⟨τ2, G2, S2, w2⟩ := hf; exact gone S2 fun sK K2 => ⟨_, _, K2, w2⟩
          | ret u => obtain ⟨v2, τ2, G2, S2, r2, w2⟩ := hf; exact gone S2 fun sK K2 => ⟨_, _, _, K2, r2, w2⟩
        | false =>
          show wpAny _ X.A (handleBy (.ref a) X.env r) _ _ _
          exact ih (no rfl)
    exact go hh w
  · have z := sp_ofTry ok hf
    cases f with
    | next => exact wpAny_execs_nil z
    | brk => exact z
    | cont => exact z
    | ret u => exact z
end

/-! ### a clause's meaning -/
/-- a clause: does it take the exception (none: not known), its name's slot, its suite -/
inductive Hd where
  | pl (m : EX → Option Bool) (f : Sd)
  | as (m : EX → Option Bool) (i : Nat) (f : EX → Addr → Option Addr → Sd)
def SR.noEx : SR → SR
  | .ex _ _ _ => .bad
  | r => r
def SR.unset (i : Nat) : SR → SR
  | .nx ρ μ => .nx (ρ.set i none) μ
  | .bk ρ μ => .bk (ρ.set i none) μ
  | .ct ρ μ => .ct (ρ.set i none) μ
  | .rt d μ => .rt d μ
  | .ex _ _ _ => .bad
  | .bad => .bad
def xoOf (e : EX) (a : Addr) (dd : Option Addr) : D := .xo a dd (e.fs.map (·.1)) (e.fs.map (·.2))
/-- where the fields stand: nowhere, if there are none -/
def ddOf (e : EX) (d : Addr) : Option Addr := if e.fs.isEmpty = true then none else some d
def asG (i : Nat) (f : EX → Addr → Option Addr → Sd) (e : EX) (ρ : Rho) (μ : Mem) (a : Addr) (dd : Option Addr) : SR := (f e a dd (ρ.set i (some (xoOf e a dd))) μ).unset i
noncomputable def catchG : List Hd → EX → Sd
  | [], e, ρ, μ => .ex e ρ μ
  | .pl m f :: r, e, ρ, μ => match m e with
    | some true => (f ρ μ).noEx
    | some false => catchG r e ρ μ
    | none => .bad
  | .as m i f :: r, e, ρ, μ => match m e with
    | some true => ifC (∀ a d, asG i f e ρ μ a (ddOf e d) = asG i f e ρ μ 0 (ddOf e 0)) (asG i f e ρ μ 0 (ddOf e 0)) .bad
    | some false => catchG r e ρ μ
    | none => .bad
noncomputable def sTry (f : Sd) (hs : List Hd) : Sd := fun ρ μ => match f ρ μ with
  | .ex e ρ1 μ1 => catchG hs e ρ1 μ1
  | r => r
/-- the clauses' suites have these meanings -/
inductive HdG (X : Cx) : List ExceptHandler → List Hd → Prop
  | nil : HdG X [] []
  | pl {x : Str} {c : Value} {m : EX → Option Bool} {f : Sd} {b0 : Stmt} {body : List Stmt} {p q : Pos} {r : List ExceptHandler} {l : List Hd} (hc : Names X x c) (hm : ∀ (e : EX) (cls : Value) (b : Bool), m e = some b → X.mg e.cls = some cls → PySem.W.exmOne X.K cls c = some b)
      (hsu : ∀ (a : Addr) (oe : Obj) (cls : Value) (d : Option Addr) (pn : List (Addr × Obj)), SSs (X.suite a ((a, oe) :: pn)) W0 (b0 :: body) f) (hr : HdG X r l) :
      HdG X (.ExceptHandler (some (.Name x p)) none (b0 :: body) q :: r) (.pl m f :: l)
  | as {x n : Str} {c : Value} {m : EX → Option Bool} {f : EX → Addr → Option Addr → Sd} {b0 : Stmt} {body : List Stmt} {p q : Pos} {r : List ExceptHandler} {l : List Hd} (i : Nat) (hc : Names X x c) (hN : X.N.Nodup) (hi : X.N[i]? = some n) (hln : X.env.kindOf n = some .local)
      (hm : ∀ (e : EX) (cls : Value) (b : Bool), m e = some b → X.mg e.cls = some cls → PySem.W.exmOne X.K cls c = some b)
      (hsu : ∀ (e : EX) (a : Addr) (oe : Obj) (cls : Value) (d : Option Addr) (pn : List (Addr × Obj)), Zc cls d oe → (∃ vs, oe.data = .fields vs) → m e = some true → X.mg e.cls = some cls → (∃ d', d = ddOf e d') → SSs (X.suite a ((a, oe) :: pn)) W0 (b0 :: body) (f e a d)) (hr : HdG X r l) :
      HdG X (.ExceptHandler (some (.Name x p)) (some n) (b0 :: body) q :: r) (.as m i f :: l)
theorem rv_xo {K : Fr0} {mg : Str → Option Value} {φ : List Addr} {H : Hp} {e : EX} {cls : Value} {dd : Option Addr} (a : Addr) (h : Rx K mg φ H e cls dd) : Rv K φ H (xoOf e a dd) (.ref a) := by
  obtain ⟨c, fs⟩ := e
  refine ⟨rfl, ?_⟩
  have h2 := h.2
  cases fs with
  | nil => exact .inl ⟨rfl, rfl⟩
  | cons f r =>
    obtain ⟨d, ws, e1, e2, e3⟩ := h2
    have key : ∀ (l : List (Str × D)) (ws : List (Str × V)), Rfs K φ H l ws → ∃ us, ws = (l.map (·.1)).zip us ∧ us.length = (l.map (·.1)).length ∧ Rvs K φ H (l.map (·.2)) us := by
      intro l
      induction l with
      | nil => intro ws h; exact ⟨[], h, rfl, rfl⟩
      | cons q l ih =>
        intro ws h
        obtain ⟨k, v⟩ := q
        obtain ⟨u, r, rfl, h1, h3⟩ := h
        obtain ⟨us, rfl, hl, hr⟩ := ih r h3
        exact ⟨u :: us, rfl, congrArg Nat.succ hl, u, us, rfl, h1, hr⟩
    obtain ⟨us, rfl, hl, hr⟩ := key _ _ e3
    exact .inr ⟨d, us, us, e1, e2, hl, rfl, hr⟩
section
variable {X : Cx} {W : WX}
theorem vs_unset {K : Fr0} {φ : List Addr} {H : Hp} {ρ : Rho} {σ : L2.St} (i : Nat) (h : Vs K φ H ρ σ) : Vs K φ H (ρ.set i none) (σ.set i none) := h.wipe2 [i]
theorem noEx_ps {K : Fr0} {mg : Str → Option Value} {φ : List Addr} {H : Hp} {r : SR} {E : Ends} (h : Ps K mg W φ H r.noEx E) : Ps K mg W0 φ H r E := by
  cases r with
  | ex => exact h.elim
  | _ => exact h
theorem unset_ps {K : Fr0} {mg : Str → Option Value} {φ : List Addr} {H : Hp} {r : SR} {E : Ends} {i : Nat} (h : Ps K mg W φ H (r.unset i) E) : Ps K mg W0 φ H r (endsAt (some i) E) := by
  cases r with
  | ex => exact h.elim
  | bad => exact h.elim
  | rt d μ => exact h
  | nx ρ μ => exact fun σ H' φ' g v s => h (σ.set i none) H' φ' g (vs_unset i v) s
  | bk ρ μ => exact fun σ H' φ' g v s => h (σ.set i none) H' φ' g (vs_unset i v) s
  | ct ρ μ => exact fun σ H' φ' g v s => h (σ.set i none) H' φ' g (vs_unset i v) s
theorem HdG.mixed {hs : List ExceptHandler} {ks : List Hd} (h : HdG X hs ks) : ∃ l, Mixed X hs l ∧ ∀ (D : Ends) (e : EX) (cls : Value) (dd : Option Addr) (σ : L2.St) (H : Hp) (φ : List Addr) (ρ : Rho) (μ : Mem), Rx X.K X.mg φ H e cls dd → Vs X.K φ H ρ σ → Sm X.K φ H μ →
    Ps X.K X.mg W φ H (catchG ks e ρ μ) D → wMix X.K W D l cls dd σ H := by
  induction h with
  | nil => exact ⟨[], .nil, fun D e cls dd σ H φ ρ μ rx v s p => p σ H φ cls dd (Gr.refl _ _) v s rx⟩
  | @pl x c m f b0 body p q r l hc hm hsu hr ih =>
    obtain ⟨l, M, ih⟩ := ih
    refine ⟨(c, none, fun _ _ _ => tS X.K X.mg W0 f) :: l, .plain hc (fun a oe cls d pn _ _ => hsu a oe cls d pn) M, fun D e cls dd σ H φ ρ μ rx v s p => ?_⟩
    unfold catchG at p
    cases em : m e with
    | none => rw [em] at p; exact p.elim
    | some b =>
      rw [em] at p
      refine ⟨b, hm e cls b em rx.1, fun hb a _ => ?_, fun hb => ?_⟩
      · subst hb
        exact ⟨φ, μ, ρ, v, s, noEx_ps p⟩
      · subst hb
        exact ih D e cls dd σ H φ ρ μ rx v s p
  | @as x n c m f b0 body p q r l i hc hN hi hln hm hsu hr ih =>
    obtain ⟨l, M, ih⟩ := ih
    refine ⟨(c, some i, fun a cls d => fun D σ H => ∃ e, m e = some true ∧ X.mg e.cls = some cls ∧ (∃ d', d = ddOf e d') ∧ tS X.K X.mg W0 (f e a d) D σ H) :: l, .named hc hN hi hln (fun a oe cls d pn hz hf => ⟨fun pins s σ H D I ⟨e, h1, h2, h3, h4⟩ => ?_⟩) M, fun D e cls dd σ H φ ρ μ rx v s p => ?_⟩
    · exact (hsu e a oe cls d pn hz hf h1 h2 h3).run pins s σ H D I h4
    · unfold catchG at p
      cases em : m e with
      | none => rw [em] at p; exact p.elim
      | some b =>
        rw [em] at p
        refine ⟨b, hm e cls b em rx.1, fun hb a _ => ?_, fun hb => ?_⟩
        · subst hb
          have p : Ps X.K X.mg W φ H (ifC (∀ a d, asG i f e ρ μ a (ddOf e d) = asG i f e ρ μ 0 (ddOf e 0)) (asG i f e ρ μ 0 (ddOf e 0)) .bad) D := p
          by_cases hq : ∀ a d, asG i f e ρ μ a (ddOf e d) = asG i f e ρ μ 0 (ddOf e 0)
          · obtain ⟨d', hd⟩ : ∃ d', dd = ddOf e d' := by
              obtain ⟨ec, ef⟩ := e
              have r2 := rx.2
              cases ef with
              | nil => exact ⟨0, r2⟩
              | cons q1 q2 => obtain ⟨d, _, h1, _⟩ := r2; exact ⟨d, h1⟩
            rw [ifC_pos hq, ← hq a d', ← hd] at p
            exact ⟨e, em, rx.1, ⟨d', hd⟩, φ, μ, _, v.set i (rv_xo a rx), s, unset_ps p⟩
          · rw [ifC_neg hq] at p; exact p.elim
        · subst hb
          exact ih D e cls dd σ H φ ρ μ rx v s p
variable {hs : List ExceptHandler} {ks : List Hd} {body : List Stmt} {pos : Pos} {h0 : ExceptHandler} {f : Sd}
theorem ss_try (tk : Takes X W) (hh : HdG X (h0 :: hs) ks) (hb : ∀ (W2 : WX) (pn : List (Addr × Obj)) (xe : Value → Shared → Prop), Takes (X.tr pn xe) W2 → PassesOwn (model X.prog X.w) X.A X.env xe → SSs (X.tr pn xe) W2 body f)
    (hst : X.stack = X.env :: X.outer := by rfl) (hfr : X.env.frame = some X.env.locals := by rfl) : SS X W (.Try body (h0 :: hs) [] [] pos) (sTry f ks) := by
  obtain ⟨l, M, w⟩ := hh.mixed (W := W)
  refine PS.imp (ps_try_mix (tb := fun W => tS X.K X.mg W f) hst hfr tk hb M) fun D σ H ⟨φ, μ, ρ, hv, hs, hp⟩ => ⟨φ, μ, ρ, hv, hs, ?_⟩
  have hp : Ps X.K X.mg W φ H (match f ρ μ with
    | .ex e ρ1 μ1 => catchG ks e ρ1 μ1
    | r => r) D := hp
  cases q : f ρ μ with
  | ex e ρ1 μ1 =>
    rw [q] at hp
    exact fun σ1 H1 φ1 c dd g v s rx => w D e c dd σ1 H1 φ1 ρ1 μ1 rx v s (Ps.grow g hp)
  | _ => rw [q] at hp; exact hp
/-- isinstance(e, c), e the caught exception in slot i, c an own class -/
def eIsE (i : Nat) (a : Addr) (b : Bool) : Ev := fun ρ μ => match ρ[i]? with
  | some (some (.xo a' _ _ _)) => if a' = a then .ok (.bl b) μ else .bad
  | _ => .bad
theorem se_isE {a D0 cD : Addr} {oe : Obj} {pn : List (Addr × Obj)} {n x : Str} {i : Nat} {p p2 p3 pos : Pos} {b : Bool} (C : ExcC X.K D0) (hz : Zc (.ref D0) none oe) (hf : ∃ vs, oe.data = .fields vs) (hm : X.mg "isinstance" = none) (hi : X.N[i]? = some n) (hx : X.mg x = some (.ref cD))
    (hk : PySem.W.kitOne X.K (.ref D0) (.ref cD) = some b) (hl : Vis X.env.scope n := by first | exact Or.inl rfl | exact Or.inr (Or.inl rfl) | exact Or.inr (Or.inr rfl)) (hd1 : (n == ("__debug__" : Str)) = false := by decide) (hd3 : (n == ("__classdict__" : Str)) = false := by decide) (hg : Gl X "isinstance" := by rfl) (hg2 : Gl X x := by rfl) (hd2 : (x == ("__debug__" : Str)) = false := by decide)
    (he : starEach [.Name n p2, .Name x p3] X.env = (false, eval (.Name n p2) X.env) :: starEach [.Name x p3] X.env := by rfl) (hpl : (backTo pos (starEach [.Name x p3] X.env)).any (·.1) = false := by rfl) :
    SE (X.suite a ((a, oe) :: pn)) W (.Call (.Name "isinstance" p) [.Name n p2, .Name x p3] [] pos) (eIsE i a b) := by
  have v1 : SE (X.suite a ((a, oe) :: pn)) W (.Name n p2) (eVar i) := se_var i hi hl hd1 hd3
  refine PE.imp (pe_callB (X := X.suite a ((a, oe) :: pn)) (call_isE C hz hf) hg hm (by decide +kernel) (pa_cons v1 (pa_cons (pe_glob (X := X.suite a ((a, oe) :: pn)) (v := .ref cD) hg2 hx rfl hd2) pa_nil rfl) he) (by decide) (by decide) he hpl) fun σ H Q ⟨φ, μ, ρ, hv, hs, hp⟩ => ?_
  refine ⟨φ, μ, ρ, hv, hs, ?_⟩
  have hp : Pg X.K X.mg W σ (Rv X.K) φ H (match ρ[i]? with
    | some (some (.xo a' _ _ _)) => if a' = a then .ok (.bl b) μ else .bad
    | _ => .bad) Q := hp
  unfold eVar
  split at hp
  · rename_i a' dd ns ds e
    rw [e]
    by_cases ha : a' = a
    · subst ha
      rw [if_pos rfl] at hp
      intro x1 H1 φ1 g1 r1 s1
      obtain ⟨rfl, _⟩ := r1
      exact ⟨.ref cD, .ref cD, b, rfl, fun u r => r, hk, (Pg.grow g1 hp) (.bl b) H1 φ1 (Gr.refl _ _) rfl s1⟩
    · rw [if_neg ha] at hp; exact hp.elim
  · exact hp.elim
end
end G

/-! G12: x[::-1] of a text or a list -/
namespace G
open PySem PySem.Spec PyProof.Rows L2

theorem rev_tx (x : List Nat) (u : Tok) : Txt.sliceBy (tx x) none none (-1, u) = tx x.reverse := by
  have h := step_rev_list (tx x) u
  have e : ((List.range (tx x).length).map fun k => (tx x).cps.getD ((tx x).length - 1 - k) 0) = x.reverse := by
    have hl : (tx x).length = x.length := tx_len x
    rw [hl]
    apply List.ext_getElem
    · simp
    · intro i h1 h2
      simp at h1 h2
      simp [List.getElem_reverse, Array.getD, show x.length - 1 - i < x.length by omega]
  rw [e] at h
  have : (Txt.sliceBy (tx x) none none (-1, u)).cps = (tx x.reverse).cps := by
    apply Array.toList_inj.mp
    rw [h]
  cases q : Txt.sliceBy (tx x) none none (-1, u) with
  | mk c => rw [q] at this; rw [show c = (tx x.reverse).cps from this]
/-- reversed -/
def revD (μ : Mem) (d : D) : Out D := match d with
  | .str x => if x.length ≤ 1000000 then .ok (.str x.reverse) μ else .bad
  | d => match lstOf μ d with
    | some xs => .ok (.ref μ.length) (μ ++ [.lst xs.reverse])
    | none => .bad
@[simp] def eRev (a : Ev) : Ev := fun ρ μ => (a ρ μ).bind fun d μ1 => revD μ1 d
def tRevX (K : Fr0) (te : TE) : TE := fun σ H Q => te σ H fun x H1 => (∃ z, x = .str (tx z) ∧ z.length ≤ 1000000 ∧ Q (.str (tx z.reverse)) H1) ∨
  ∃ a xs, x = .ref a ∧ SqL K H1 a xs ∧ ∀ p, H1 p = none → Q (.ref p) (upd H1 p (.lst xs.reverse))
section
variable {X : Cx}
theorem pe_revX {e : Expr} {te : TE} {k : Nat} {p1 p2 p3 pos : Pos} (he : PE X e te) : PE X (.Subscript e (.Slice none none (some (.UnaryOp .USub (.Constant (.int 1) k p1) p2)) p3) pos) (tRevX X.K te) := by
  refine ⟨fun pins s σ H Q I h => ?_⟩
  refine Subscript_ (thn (he.run pins s σ H _ I h) fun v sA ⟨x, HA, IA, rA, qA⟩ => ?_)
  have hst : PO X (some (.UnaryOp .USub (.Constant (.int 1) k p1) p2)) (tPart (tUn (rU fun i => .int (-i)) (tC (.int 1)))) := po_some (pe_un un_neg pe_int)
  refine wpAny_Slice (thn (po_none.run pins sA σ HA (fun o G => o = none ∧ G = HA) IA ⟨rfl, rfl⟩) fun vl sB ⟨l, HB, IB, pl, el, eB⟩ => ?_)
  subst el eB
  refine thn (po_none.run pins sB σ HB (fun o G => o = none ∧ G = HB) IB ⟨rfl, rfl⟩) fun vu sC ⟨u, HC, IC, pu, eu, eC⟩ => ?_
  subst eu eC
  refine thn (hst.run pins sC σ HC (fun o G => o = some (-1) ∧ G = HC) IC ⟨1, rfl, -1, rfl, rfl, rfl⟩) fun vs sD ⟨o, HD, ID, ps, eo, eD⟩ => ?_
  subst eo eD
  have IE : Inv X pins σ HD { sD with heap := sD.heap.push { cls := .type "slice", data := .fields #[vl, vu, vs] } } := ID.kept (t' := sD.toks) fun b ob q => Heap.get?_push_of_some _ q
  show wpAny (model X.prog X.w) X.A (subscriptTail e (.Slice none none (some (.UnaryOp .USub (.Constant (.int 1) k p1) p2)) p3) v (.ref sD.heap.objs.size)) (EP X pins σ Q) X.xe { sD with heap := sD.heap.push { cls := .type "slice", data := .fields #[vl, vu, vs] } }
  rcases qA with ⟨z, rfl, hz, q⟩ | ⟨a, xs, rfl, hx, q⟩
  · obtain ⟨t, rfl⟩ := rA
    obtain ⟨l, rfl, hl⟩ := IsPart.raw pl
    obtain ⟨u, rfl, hu⟩ := IsPart.raw pu
    obtain ⟨st, rfl, hs⟩ := IsPart.raw ps
    cases l with
    | some l => cases hl
    | none =>
    cases u with
    | some u => cases hu
    | none =>
    cases st with
    | none => cases hs
    | some st =>
    obtain ⟨i, ti⟩ := st
    have hs : some i = some (-1 : Int) := hs
    obtain rfl : i = -1 := Option.some.inj hs
    refine tail_any (ops := [.ref sD.heap.objs.size, .str (tx z) t]) (typeIs_str _ _ _) (F.slot_str_getitem.lookup) ?_ (by with_unfolding_all rfl)
    refine wpAny_getItem_str_slice (l := none) (u := none) (st := some (-1, ti)) ⟨_, Heap.get?_push_size _ rfl, rfl, rfl⟩ rfl ?_
    have q2 := q
    rw [← rev_tx z ti] at q2
    have hlen : (Txt.sliceBy (tx z) none none (-1, ti)).length ≤ sizeLine := by
      rw [rev_tx, tx_len, List.length_reverse]
      exact line_of hz
    unfold Txt.sliceBy at q2 hlen
    unfold sliceMade
    split
    · rename_i c
      rw [if_pos c] at q2
      exact ⟨.str _, _, IE, ⟨t, rfl⟩, q2⟩
    · rename_i c
      rw [if_neg c] at q2 hlen
      exact ⟨hlen, .str _, _, IE.tok _, ⟨_, rfl⟩, q2⟩
  · cases rA
    obtain ⟨its, r, ht, hz⟩ := IE.list hx
    refine tail_any (ops := [.ref a, .ref sD.heap.objs.size]) ht.isList.typeIs (PySem.slot_list_getitem.lookup) ?_ (by with_unfolding_all rfl)
    refine wpAny_getItem_list_slice ht.isList (Heap.IsSliceOf.new _ vl vu vs) pl pu ps (by decide) ?_ (by rw [List.size_toArray]; have := r.length; omega)
    rw [PySem.W.krv_pick]
    refine ⟨.ref _, _, IE.laid (t' := sD.toks) (o := .lst xs.reverse) (fun b ob q => Heap.get?_push_of_some _ q) (Nat.le_refl _) ?_, rfl, q _ (IE.hok.fresh (Nat.le_refl _))⟩
    exact ⟨by rw [List.length_reverse]; exact hz, _, 0, r.reverse, Heap.get?_push_size _ rfl⟩
end
section
variable {X : Cx} {W : WX} {e : Expr} {fe : Ev} {k : Nat} {p1 p2 p3 pos : Pos}
theorem se_rev (ha : SE X W e fe) : SE X W (.Subscript e (.Slice none none (some (.UnaryOp .USub (.Constant (.int 1) k p1) p2)) p3) pos) (eRev fe) :=
  PE.imp (pe_revX ha) fun σ H Q ⟨φ, μ, ρ, hv, hs, hp⟩ => ⟨φ, μ, ρ, hv, hs, Pg.imp (Pg.bind hp) fun x H1 ⟨d, μ1, φ1, g1, r1, s1, p1⟩ => by
    have lists : ∀ o, lstOf μ1 d = o → Pg X.K X.mg W σ (Rv X.K) φ1 H1 (match o with
        | some xs => .ok (.ref μ1.length) (μ1 ++ [.lst xs.reverse])
        | none => .bad) Q → ∃ a xs, x = .ref a ∧ SqL X.K H1 a xs ∧ ∀ p, H1 p = none → Q (.ref p) (upd H1 p (.lst xs.reverse)) := fun o e z => by
      cases o with
      | none => exact z.elim
      | some xs =>
        obtain ⟨a, vs, rfl, hq, r⟩ := lstOf_sq s1 e r1
        exact ⟨a, vs, rfl, hq, fun p hp => Pg.newList z s1 r.reverse hp⟩
    cases d with
    | str z =>
      have p1 : Pg X.K X.mg W σ (Rv X.K) φ1 H1 (if z.length ≤ 1000000 then .ok (.str z.reverse) μ1 else .bad) Q := p1
      by_cases hl : z.length ≤ 1000000
      · rw [if_pos hl] at p1
        exact .inl ⟨z, r1, hl, Pg.here p1 rfl s1⟩
      · rw [if_neg hl] at p1; exact p1.elim
    | _ => exact .inr (lists _ rfl p1)⟩
end
end G

/-! G13: the errors of a program, {} -/
namespace G
open PySem PySem.Spec PyProof.Rows L2

/-- these own errors, none under another one -/
structure ErS (K : Fr0) (mg : Str → Option Value) (known : List Str) : Prop where
  sub : ∀ x ∈ known, ∀ y ∈ known, ∀ Cx Cy : Addr, mg x = some (.ref Cx) → mg y = some (.ref Cy) → PySem.W.subIn K (.ref Cx) (.ref Cy) = some (decide (x = y))
  ref : ∀ x ∈ known, ∃ C, mg x = some (.ref C) ∧ PySem.W.subIn K (.ref C) (.type "BaseException") = some true ∧ PySem.W.hasDictIn K C = true ∧ PySem.W.typeIn K (.ref C) = some (.type "type")
/-- the clause x takes e -/
def isK (known : List Str) (x : Str) (e : EX) : Option Bool := if known.contains e.cls = true then some (decide (e.cls = x)) else none
theorem isK_ok {K : Fr0} {mg : Str → Option Value} {known : List Str} {x : Str} {C : Addr} (S : ErS K mg known) (hx : known.contains x = true) (hC : mg x = some (.ref C)) (e : EX) (cls : Value) (b : Bool) (h : isK known x e = some b) (hc : mg e.cls = some cls) : PySem.W.exmOne K cls (.ref C) = some b := by
  unfold isK at h
  split at h
  · rename_i he
    cases h
    have he := List.contains_iff_mem.mp he
    have hx := List.contains_iff_mem.mp hx
    obtain ⟨D0, d1, d2, d3, d4⟩ := S.ref _ he
    obtain ⟨C0, c1, c2, c3, c4⟩ := S.ref _ hx
    rw [hc] at d1
    cases d1
    rw [hC] at c1
    cases c1
    exact PySem.W.exm_ref c2 c3 c4 (S.sub _ he _ hx _ _ hc hC)
  · cases h
theorem isK_cls {known : List Str} {x : Str} {e : EX} (h : isK known x e = some true) : e.cls = x := by
  unfold isK at h
  split at h
  · exact of_decide_eq_true (Option.some.inj h)
  · cases h
/-- a clause without a name -/
theorem hd_pl {X : Cx} {known : List Str} {x : Str} {C : Addr} {f : Sd} {b0 : Stmt} {body : List Stmt} {p q : Pos} {r : List ExceptHandler} {l : List Hd} (S : ErS X.K X.mg known) (hC : X.mg x = some (.ref C))
    (hsu : ∀ (a : Addr) (oe : Obj) (cls : Value) (d : Option Addr) (pn : List (Addr × Obj)), SSs (X.suite a ((a, oe) :: pn)) W0 (b0 :: body) f) (hr : HdG X r l) (hx : known.contains x = true := by decide +kernel) (hg : Gl X x := by rfl) (hd : (x == ("__debug__" : Str)) = false := by decide) :
    HdG X (.ExceptHandler (some (.Name x p)) none (b0 :: body) q :: r) (.pl (isK known x) f :: l) := .pl ⟨hg, hd, .inl hC⟩ (isK_ok S hx hC) hsu hr
theorem hd_as {X : Cx} {known : List Str} {x n : Str} {C : Addr} {f : EX → Addr → Option Addr → Sd} {b0 : Stmt} {body : List Stmt} {p q : Pos} {r : List ExceptHandler} {l : List Hd} (i : Nat) (S : ErS X.K X.mg known) (hC : X.mg x = some (.ref C)) (hN : X.N.Nodup)
    (hsu : ∀ (e : EX) (a : Addr) (oe : Obj) (d : Option Addr) (pn : List (Addr × Obj)), Zc (.ref C) d oe → (∃ vs, oe.data = .fields vs) → (∃ d', d = ddOf e d') → SSs (X.suite a ((a, oe) :: pn)) W0 (b0 :: body) (f e a d)) (hr : HdG X r l)
    (hi : X.N[i]? = some n := by rfl) (hln : X.env.kindOf n = some .local := by rfl) (hx : known.contains x = true := by decide +kernel) (hg : Gl X x := by rfl) (hd : (x == ("__debug__" : Str)) = false := by decide) :
    HdG X (.ExceptHandler (some (.Name x p)) (some n) (b0 :: body) q :: r) (.as (isK known x) i f :: l) :=
  .as i ⟨hg, hd, .inl hC⟩ hN hi hln (isK_ok S hx hC) (fun e a oe cls d pn hz hf hm hcls hdd => by
    rw [isK_cls hm, hC] at hcls
    cases hcls
    exact hsu e a oe d pn hz hf hdd) hr
/-- isinstance(e, y), e the caught exception (without fields) in slot i -/
def eIsX (e : EX) (i : Nat) (a : Addr) (b : Bool) : Ev := if e.fs.isEmpty = true then eIsE i a b else fun _ _ => .bad
theorem se_isX {X : Cx} {W : WX} {a D0 cD : Addr} {e : EX} {d : Option Addr} {oe : Obj} {pn : List (Addr × Obj)} {n x : Str} {i : Nat} {p p2 p3 pos : Pos} {b : Bool} (C : ExcC X.K D0) (hz : Zc (.ref D0) d oe) (hf : ∃ vs, oe.data = .fields vs) (hdd : ∃ d', d = ddOf e d') (hm : X.mg "isinstance" = none) (hx : X.mg x = some (.ref cD))
    (hk : PySem.W.kitOne X.K (.ref D0) (.ref cD) = some b) (hi : X.N[i]? = some n := by rfl) (hl : Vis X.env.scope n := by first | exact Or.inl rfl | exact Or.inr (Or.inl rfl) | exact Or.inr (Or.inr rfl)) (hd1 : (n == ("__debug__" : Str)) = false := by decide) (hd3 : (n == ("__classdict__" : Str)) = false := by decide) (hg : Gl X "isinstance" := by rfl) (hg2 : Gl X x := by rfl) (hd2 : (x == ("__debug__" : Str)) = false := by decide)
    (he : starEach [.Name n p2, .Name x p3] X.env = (false, eval (.Name n p2) X.env) :: starEach [.Name x p3] X.env := by rfl) (hpl : (backTo pos (starEach [.Name x p3] X.env)).any (·.1) = false := by rfl) :
    SE (X.suite a ((a, oe) :: pn)) W (.Call (.Name "isinstance" p) [.Name n p2, .Name x p3] [] pos) (eIsX e i a b) := by
  unfold eIsX
  by_cases q : e.fs.isEmpty = true
  · rw [if_pos q]
    obtain ⟨d', rfl⟩ := hdd
    unfold ddOf at hz
    rw [if_pos q] at hz
    exact se_isE C hz hf hm hi hx hk hl hd1 hd3 hg hg2 hd2 he hpl
  · rw [if_neg q]
    exact PE.mk fun pins s σ H Q I h => by
      obtain ⟨_, _, _, _, _, h⟩ := h
      exact h.elim
/-! {} -/
@[simp] def eDct0 : Ev := fun _ μ => .ok (.ref μ.length) (μ ++ [.dct []])
theorem se_dct0 {X : Cx} {W : WX} {pos : Pos} : SE X W (.Dict [] [] pos) eDct0 :=
  PE.imp pe_dnewK fun σ H Q ⟨φ, μ, ρ, hv, hs, hp⟩ => fun p hpn => by
    have g : Gr φ H (φ ++ [p]) (upd H p (.dK [])) := Gr.alloc hpn
    refine hp (.ref p) _ (φ ++ [p]) g ⟨p, ?_, rfl⟩ (hs.alloc hpn ⟨[], upd_same, rfl⟩)
    rw [← hs.len, List.getElem?_append_right (Nat.le_refl _)]
    simp
end G

/-! G14: what nothing refers to any more is dropped at a def's end -/
namespace G
open PySem PySem.Spec PyProof.Rows L2

mutual
/-- all places are below n -/
def Clo (n : Nat) : D → Prop
  | .tup ds => CloL n ds
  | .fl ds => CloL n ds
  | .ref l => l < n
  | .xo _ _ _ ds => CloL n ds
  | .non => True
  | .bl _ => True
  | .int _ => True
  | .str _ => True
def CloL (n : Nat) : List D → Prop
  | [] => True
  | d :: r => Clo n d ∧ CloL n r
end
def CloO (n : Nat) : O → Prop
  | .lst ds => CloL n ds
  | .dct kvs => CloL n (kvs.map (·.2))
def CloM (μ : Mem) : Prop := ∀ o ∈ μ, CloO μ.length o
theorem cloL_iff {n : Nat} : ∀ {ds : List D}, CloL n ds ↔ ∀ d ∈ ds, Clo n d
  | [] => by simp [CloL]
  | d :: r => by simp [CloL, cloL_iff (ds := r)]
mutual
theorem Clo.mono {n m : Nat} (h : n ≤ m) : ∀ {d : D}, Clo n d → Clo m d
  | .non, _ => trivial
  | .bl _, _ => trivial
  | .int _, _ => trivial
  | .str _, _ => trivial
  | .tup ds, c => CloL.mono h (ds := ds) c
  | .fl ds, c => CloL.mono h (ds := ds) c
  | .ref l, c => Nat.lt_of_lt_of_le c h
  | .xo _ _ _ ds, c => CloL.mono h (ds := ds) c
theorem CloL.mono {n m : Nat} (h : n ≤ m) : ∀ {ds : List D}, CloL n ds → CloL m ds
  | [], _ => trivial
  | _ :: _, c => ⟨Clo.mono h c.1, CloL.mono h c.2⟩
end
section
variable {K : Fr0} {φ : List Addr} {H : Hp}
mutual
theorem Rv.clo : ∀ {d : D} {v : V}, Rv K φ H d v → Clo φ.length d
  | .non, _, _ => trivial
  | .bl _, _, _ => trivial
  | .int _, _, _ => trivial
  | .str _, _, _ => trivial
  | .tup _, _, h => by obtain ⟨a, vs, _, _, r⟩ := h; exact Rvs.clo r
  | .fl _, _, h => by obtain ⟨a, vs, _, _, r⟩ := h; exact Rvs.clo r
  | .ref l, _, h => by obtain ⟨a, e, _⟩ := h; exact (List.getElem?_eq_some_iff.mp e).1
  | .xo _ _ ns ds, _, h => by
    obtain ⟨_, h⟩ := h
    rcases h with ⟨_, h⟩ | ⟨d, us, ws, _, _, _, _, r⟩
    · rw [h]; exact trivial
    · exact Rvs.clo r
theorem Rvs.clo : ∀ {ds : List D} {vs : List V}, Rvs K φ H ds vs → CloL φ.length ds
  | [], _, _ => trivial
  | _ :: _, _, h => by obtain ⟨v, r, _, h1, h2⟩ := h; exact ⟨Rv.clo h1, Rvs.clo h2⟩
end
theorem rkv_vals : ∀ {ds : List (Key × D)} {vs : List (Key × V)}, Rkv K φ H ds vs → Rvs K φ H (ds.map (·.2)) (vs.map (·.2))
  | [], _, h => by cases (show _ = [] from h); rfl
  | (k, d) :: ds, _, h => by
    obtain ⟨v, r, rfl, h1, h2⟩ := h
    exact ⟨v, _, rfl, h1, rkv_vals h2⟩
theorem Sm.cloM {μ : Mem} (s : Sm K φ H μ) : CloM μ := fun o ho => by
  obtain ⟨l, hl, e⟩ := List.getElem_of_mem ho
  have e2 : μ[l]? = some o := by rw [List.getElem?_eq_getElem hl, e]
  obtain ⟨a, ha, hr⟩ := s.at e2
  rw [← s.len]
  cases o with
  | lst ds => obtain ⟨vs, _, r⟩ := hr; exact r.clo
  | dct kvs => obtain ⟨ws, _, r⟩ := hr; exact (rkv_vals r).clo
mutual
theorem Rv.cut {n : Nat} : ∀ {d : D} {v : V}, Clo n d → Rv K φ H d v → Rv K (φ.take n) H d v
  | .non, _, _, h => h
  | .bl _, _, _, h => h
  | .int _, _, _, h => h
  | .str _, _, _, h => h
  | .tup _, _, c, h => by obtain ⟨a, vs, e, q, r⟩ := h; exact ⟨a, vs, e, q, Rvs.cut c r⟩
  | .fl _, _, c, h => by obtain ⟨a, vs, e, q, r⟩ := h; exact ⟨a, vs, e, q, Rvs.cut c r⟩
  | .ref l, _, c, h => by obtain ⟨a, e, q⟩ := h; exact ⟨a, by rw [List.getElem?_take_of_lt c]; exact e, q⟩
  | .xo _ _ ns ds, _, c, h => by
    obtain ⟨q, h⟩ := h
    exact ⟨q, h.imp id fun ⟨d, us, ws, h1, h2, h3, h4, r⟩ => ⟨d, us, ws, h1, h2, h3, h4, Rvs.cut c r⟩⟩
theorem Rvs.cut {n : Nat} : ∀ {ds : List D} {vs : List V}, CloL n ds → Rvs K φ H ds vs → Rvs K (φ.take n) H ds vs
  | [], _, _, h => h
  | _ :: _, _, c, h => by obtain ⟨v, r, e, h1, h2⟩ := h; exact ⟨v, r, e, Rv.cut c.1 h1, Rvs.cut c.2 h2⟩
end
theorem Rkv.cut {n : Nat} : ∀ {ds : List (Key × D)} {vs : List (Key × V)}, CloL n (ds.map (·.2)) → Rkv K φ H ds vs → Rkv K (φ.take n) H ds vs
  | [], _, _, h => h
  | (_, _) :: _, _, c, h => by obtain ⟨v, r, e, h1, h2⟩ := h; exact ⟨v, r, e, Rv.cut c.1 h1, Rkv.cut c.2 h2⟩
theorem Rfs.cut {n : Nat} : ∀ {ds : List (Str × D)} {vs : List (Str × V)}, (∀ f ∈ ds, Clo n f.2) → Rfs K φ H ds vs → Rfs K (φ.take n) H ds vs
  | [], _, _, h => h
  | (_, _) :: _, _, c, h => by obtain ⟨v, r, e, h1, h2⟩ := h; exact ⟨v, r, e, Rv.cut (c _ List.mem_cons_self) h1, Rfs.cut (fun f hf => c f (List.mem_cons_of_mem _ hf)) h2⟩
theorem Sm.cut {μ1 G : Mem} (s : Sm K φ H (μ1 ++ G)) (c : CloM μ1) : Sm K (φ.take μ1.length) H μ1 := by
  have hl := s.len
  rw [List.length_append] at hl
  refine ⟨by rw [List.length_take]; omega, s.nd.sublist (List.take_sublist _ _), fun l a o e1 e2 => ?_⟩
  have hlt : l < μ1.length := (List.getElem?_eq_some_iff.mp e2).1
  rw [List.getElem?_take_of_lt hlt] at e1
  have hr := s.ob l a o e1 (by rw [List.getElem?_append_left hlt]; exact e2)
  have hc := c o (List.mem_of_getElem? e2)
  cases o with
  | lst ds => obtain ⟨vs, h, r⟩ := hr; exact ⟨vs, h, Rvs.cut hc r⟩
  | dct kvs => obtain ⟨ws, h, r⟩ := hr; exact ⟨ws, h, Rkv.cut hc r⟩
theorem Gr.cut {φ' : List Addr} {H' : Hp} {n : Nat} (g : Gr φ H φ' H') (h : φ.length ≤ n) : Gr φ H (φ'.take n) H' := by
  obtain ⟨t, rfl, ht⟩ := g.pre
  refine ⟨⟨t.take (n - φ.length), ?_, fun a ha => ht a (List.mem_of_mem_take ha)⟩, g.fr, g.tp, g.fz, g.st, g.xd⟩
  rw [List.take_append, List.take_of_length_le h]
end
/-- r is r' with more behind the store -/
def Drops (n : Nat) (r' r : Out D) : Prop := match r' with
  | .ok d μ1 => ∃ G, r = .ok d (μ1 ++ G) ∧ Clo μ1.length d ∧ CloM μ1 ∧ n ≤ μ1.length
  | .ex e μ1 => ∃ G, r = .ex e (μ1 ++ G) ∧ (∀ f ∈ e.fs, Clo μ1.length f.2) ∧ CloM μ1 ∧ n ≤ μ1.length
  | .bad => True
theorem Pg.drops {K : Fr0} {mg : Str → Option Value} {W : WX} {σ : L2.St} {φ : List Addr} {H : Hp} {μ : Mem} {r r' : Out D} {Q : VK} (s : Sm K φ H μ) (d : Drops μ.length r' r) (h : Pg K mg W σ (Rv K) φ H r' Q) : Pg K mg W σ (Rv K) φ H r Q := by
  cases r' with
  | bad => exact h.elim
  | ok d1 μ1 =>
    obtain ⟨G, rfl, c1, c2, c3⟩ := d
    exact fun v H' φ' g rv sm => h v H' (φ'.take μ1.length) (g.cut (by rw [s.len]; exact c3)) (Rv.cut c1 rv) (sm.cut c2)
  | ex e μ1 =>
    obtain ⟨G, rfl, c1, c2, c3⟩ := d
    refine fun H' φ' c dd g sm rx => h H' (φ'.take μ1.length) c dd (g.cut (by rw [s.len]; exact c3)) (sm.cut c2) ⟨rx.1, ?_⟩
    obtain ⟨ec, fs⟩ := e
    have r2 := rx.2
    cases fs with
    | nil => exact r2
    | cons f r => obtain ⟨d, ws, h1, h2, h3⟩ := r2; exact ⟨d, ws, h1, h2, Rfs.cut c1 h3⟩
theorem Cal.drop {P : Program} {w : World} {K : Fr0} {mg : Str → Option Value} {base : Heap} {x : Str} {st : Stmt} {ps : List Str} {k : Nat} {g g' : Fn} (c : Cal P w K mg base k x st ps g)
    (h : ∀ ds μ, ds.length = ps.length → CloL μ.length ds → CloM μ → Drops μ.length (g' ds μ) (g ds μ)) : Cal P w K mg base k x st ps g' :=
  c.imp fun φ H W Q ds μ vs l r s q => Pg.drops s (h ds μ l (by rw [← s.len]; exact r.clo) s.cloM) q
theorem Drops.refl {n : Nat} {r : Out D} (h : match r with
  | .ok d μ1 => Clo μ1.length d ∧ CloM μ1 ∧ n ≤ μ1.length
  | .ex e μ1 => (∀ f ∈ e.fs, Clo μ1.length f.2) ∧ CloM μ1 ∧ n ≤ μ1.length
  | .bad => True) : Drops n r r := by
  cases r with
  | ok d μ => exact ⟨[], by simp, h.1, h.2.1, h.2.2⟩
  | ex e μ => exact ⟨[], by simp, h.1, h.2.1, h.2.2⟩
  | bad => trivial
theorem clo_bl (n : Nat) (b : Bool) : Clo n (.bl b) := by simp [Clo]
theorem clo_int (n : Nat) (b : Int) : Clo n (.int b) := by simp [Clo]
theorem clo_str (n : Nat) (b : List Nat) : Clo n (.str b) := by simp [Clo]
theorem clo_non (n : Nat) : Clo n .non := by simp [Clo]
theorem clo_ref {n l : Nat} (h : l < n) : Clo n (.ref l) := by simpa [Clo] using h
theorem drops_ok {μ : Mem} {d : D} {r : Out D} (G : Mem) (e : r = .ok d (μ ++ G)) (hd : ∀ n, Clo n d) (hm : CloM μ) : Drops μ.length (.ok d μ) r := ⟨G, e, hd _, hm, Nat.le_refl _⟩
theorem drops_ex {μ : Mem} {x : Str} {r : Out D} (G : Mem) (e : r = .ex ⟨x, []⟩ (μ ++ G)) (hm : CloM μ) : Drops μ.length (.ex ⟨x, []⟩ μ) r := ⟨G, e, fun f hf => by simp at hf, hm, Nat.le_refl _⟩
theorem cloM_set {μ : Mem} {l : Nat} {o : O} (h : CloM μ) (ho : CloO μ.length o) : CloM (μ.set l o) := fun q hq => by
  rw [List.length_set]
  rcases List.mem_or_eq_of_mem_set hq with z | z
  · exact h q z
  · rw [z]; exact ho
theorem cloM_append {μ : Mem} {o : O} (h : CloM μ) (ho : CloO (μ.length + 1) o) : CloM (μ ++ [o]) := fun q hq => by
  rw [List.length_append]
  rcases List.mem_append.mp hq with z | z
  · have := h q z
    cases q with
    | lst ds => exact (CloL.mono (Nat.le_succ _) (show CloL μ.length ds from this) : CloL _ ds)
    | dct kvs => exact (CloL.mono (Nat.le_succ _) (show CloL μ.length (kvs.map fun x => x.2) from this) : CloL _ (kvs.map fun x => x.2))
  · simp at z; rw [z]; exact ho
end G

/-! G15: meanings reckoned out -/
namespace G
open PySem PySem.Spec PyProof.Rows L2
@[simp] theorem bind_okE {α β : Type} (a : α) (μ : Mem) (f : α → Mem → Out β) : (Out.ok a μ).bind f = f a μ := rfl
@[simp] theorem bind_exE {α β : Type} (e : EX) (μ : Mem) (f : α → Mem → Out β) : (Out.ex e μ : Out α).bind f = .ex e μ := rfl
@[simp] theorem bind_badE {α β : Type} (f : α → Mem → Out β) : (Out.bad : Out α).bind f = .bad := rfl
@[simp] theorem thn_ok {α : Type} (a : α) (μ : Mem) (ρ : Rho) (f : α → Mem → SR) : (Out.ok a μ).thn ρ f = f a μ := rfl
@[simp] theorem thn_ex {α : Type} (e : EX) (μ : Mem) (ρ : Rho) (f : α → Mem → SR) : (Out.ex e μ : Out α).thn ρ f = .ex e ρ μ := rfl
@[simp] theorem thn_bad {α : Type} (ρ : Rho) (f : α → Mem → SR) : (Out.bad : Out α).thn ρ f = .bad := rfl
/-- signs, each a text -/
abbrev sg (c : Nat) : D := .str [c]
@[simp] theorem kd_str (μ : Mem) (x : List Nat) : kdOf μ (.str x) = some .str := rfl
@[simp] theorem kd_int (μ : Mem) (x : Int) : kdOf μ (.int x) = some .int := rfl
@[simp] theorem kd_bl (μ : Mem) (x : Bool) : kdOf μ (.bl x) = some .bl := rfl
@[simp] theorem kd_non (μ : Mem) : kdOf μ .non = some .non := rfl
@[simp] theorem kd_tup (μ : Mem) (x : List D) : kdOf μ (.tup x) = some .tup := rfl
@[simp] theorem kd_fl (μ : Mem) (x : List D) : kdOf μ (.fl x) = some .lst := rfl
theorem kd_app {μ G : Mem} {d : D} {k : Kd} (h : kdOf μ d = some k) : kdOf (μ ++ G) d = some k := by
  cases d with
  | ref l =>
    have h : (match μ[l]? with
      | some (.lst _) => some Kd.lst
      | some (.dct _) => some Kd.dct
      | none => none) = some k := h
    cases e : μ[l]? with
    | none => rw [e] at h; cases h
    | some o =>
      have hl : l < μ.length := (List.getElem?_eq_some_iff.mp e).1
      show (match (μ ++ G)[l]? with
        | some (.lst _) => some Kd.lst
        | some (.dct _) => some Kd.dct
        | none => none) = some k
      rw [List.getElem?_append_left hl, e]
      rw [e] at h
      exact h
  | _ => exact h
theorem forG_nil (t : Tg) (f : Sd) (ws : List Nat) (ρ : Rho) (μ : Mem) : forG t f ws none [] ρ μ = .nx (wipeR ρ ws) μ := by
  unfold forG
  exact ifC_pos wtOk_none
theorem forG_cons (t : Tg) (f : Sd) (ws : List Nat) (d : D) (r : List D) (ρ : Rho) (μ : Mem) : forG t f ws none (d :: r) ρ μ = (match tgD t d (wipeR ρ ws) with
    | some ρ1 => match f ρ1 μ with
      | .nx ρ2 μ2 => forG t f ws none r ρ2 μ2
      | .ct ρ2 μ2 => forG t f ws none r ρ2 μ2
      | .bk ρ2 μ2 => .nx (wipeR ρ2 ws) μ2
      | .rt d μ2 => .rt d μ2
      | .ex e ρ2 μ2 => .ex e ρ2 μ2
      | .bad => .bad
    | none => .bad) := by
  conv => lhs; unfold forG
  exact ifC_pos wtOk_none
theorem forW_nil (t : Tg) (f : Sd) (ws : List Nat) (ρ : Rho) (μ : Mem) (l : Nat) (xs : List D) (h : μ[l]? = some (.lst xs)) : forG t f ws (some (l, xs)) [] ρ μ = .nx (wipeR ρ ws) μ := by
  unfold forG
  exact ifC_pos (wtOk_some h)
theorem forW_cons (t : Tg) (f : Sd) (ws : List Nat) (d : D) (r : List D) (ρ : Rho) (μ : Mem) (l : Nat) (xs : List D) (h : μ[l]? = some (.lst xs)) : forG t f ws (some (l, xs)) (d :: r) ρ μ = (match tgD t d (wipeR ρ ws) with
    | some ρ1 => match f ρ1 μ with
      | .nx ρ2 μ2 => forG t f ws (some (l, xs)) r ρ2 μ2
      | .ct ρ2 μ2 => forG t f ws (some (l, xs)) r ρ2 μ2
      | .bk ρ2 μ2 => .nx (wipeR ρ2 ws) μ2
      | .rt d μ2 => .rt d μ2
      | .ex e ρ2 μ2 => .ex e ρ2 μ2
      | .bad => .bad
    | none => .bad) := by
  conv => lhs; unfold forG
  exact ifC_pos (wtOk_some h)
/-- a comprehension whose parts change nothing -/
theorem compG_pure {t : Tg} {c : Tv} {el : Ev} {ρ : Rho} {wt : Wt} {μ : Mem} (p : D → Bool) (h : D → D) (hw : wtOk wt μ) : ∀ xs : List D, (∀ d ∈ xs, ∃ ρ1, tgD t d ρ = some ρ1 ∧ c ρ1 μ = .ok (p d) μ ∧ (p d = true → el ρ1 μ = .ok (h d) μ)) → compG t c el wt ρ xs μ = .ok ((xs.filter p).map h) μ
  | [], _ => by unfold compG; exact ifC_pos hw
  | d :: r, q => by
    have ih := compG_pure (t := t) (c := c) (el := el) (ρ := ρ) p h hw r fun e he => q e (List.mem_cons_of_mem _ he)
    obtain ⟨ρ1, h1, h2, h3⟩ := q d List.mem_cons_self
    unfold compG
    rw [ifC_pos hw, h1]
    dsimp only
    rw [h2]
    cases hp : p d with
    | true =>
      dsimp only
      rw [h3 hp]
      dsimp only
      rw [ih]
      simp [hp]
    | false =>
      dsimp only
      rw [ih]
      simp [hp]
/-- the same without a test -/
theorem compG_map {t : Tg} {el : Ev} {ρ : Rho} {wt : Wt} {μ : Mem} (h : D → D) (hw : wtOk wt μ) (xs : List D) (q : ∀ d ∈ xs, ∃ ρ1, tgD t d ρ = some ρ1 ∧ el ρ1 μ = .ok (h d) μ) : compG t cYes el wt ρ xs μ = .ok (xs.map h) μ := by
  rw [compG_pure (fun _ => true) h hw xs fun d hd => by
    obtain ⟨ρ1, h1, h2⟩ := q d hd
    exact ⟨ρ1, h1, rfl, fun _ => h2⟩]
  rw [List.filter_eq_self.mpr (fun _ _ => rfl)]
theorem bls_map {α : Type} (f : α → Bool) : ∀ xs : List α, blsOf (xs.map fun x => D.bl (f x)) = some (xs.map f)
  | [] => rfl
  | x :: r => by simp only [List.map_cons, blsOf, bls_map f r, Option.map_some]
theorem get_end {α : Type} (μ : List α) (o : α) (G : List α) : (μ ++ o :: G)[μ.length]? = some o := by simp
theorem eComp_pure {ws : List Nat} {t : Tg} {src : Sv} {c : Tv} {el : Ev} {ρ : Rho} {μ μ1 : Mem} {xs : List D} {wt : Wt} (hs : src ρ μ = .ok (xs, wt) μ1) (hl : xs.length ≤ 1000000) (hw : wtOk wt μ1) (p : D → Bool) (h : D → D)
    (q : ∀ d ∈ xs, ∃ ρ1, tgD t d (wipeR ρ ws) = some ρ1 ∧ c ρ1 μ1 = .ok (p d) μ1 ∧ (p d = true → el ρ1 μ1 = .ok (h d) μ1)) : eComp ws t src c el ρ μ = .ok (.ref μ1.length) (μ1 ++ [.lst ((xs.filter p).map h)]) := by
  unfold eComp
  rw [hs]
  simp only [bind_okE]
  rw [if_pos hl, compG_pure p h hw xs q]
  rfl
theorem eComp_map {ws : List Nat} {t : Tg} {src : Sv} {el : Ev} {ρ : Rho} {μ μ1 : Mem} {xs : List D} {wt : Wt} (hs : src ρ μ = .ok (xs, wt) μ1) (hl : xs.length ≤ 1000000) (hw : wtOk wt μ1) (h : D → D)
    (q : ∀ d ∈ xs, ∃ ρ1, tgD t d (wipeR ρ ws) = some ρ1 ∧ el ρ1 μ1 = .ok (h d) μ1) : eComp ws t src cYes el ρ μ = .ok (.ref μ1.length) (μ1 ++ [.lst (xs.map h)]) := by
  unfold eComp
  rw [hs]
  simp only [bind_okE]
  rw [if_pos hl, compG_map h hw xs q]
  rfl
@[simp] theorem get_last1 (μ : Mem) (o : O) : (μ ++ [o])[μ.length]? = some o := by simp
theorem allD_at {μ : Mem} {l : Nat} {ds : List D} {bs : List Bool} (h : μ[l]? = some (.lst ds)) (hb : blsOf ds = some bs) : allD [.ref l] μ = .ok (.bl (bs.all id)) μ := by
  simp [allD, lstOf, h, hb]
theorem all_map {α : Type} (f : α → Bool) (xs : List α) : (xs.map f).all id = xs.all f := by simp [List.all_map]
theorem strs_map {α : Type} (f : α → List Nat) : ∀ xs : List α, strsOf (xs.map fun x => D.str (f x)) = some (xs.map f)
  | [] => rfl
  | x :: r => by simp only [List.map_cons, strsOf, strs_map f r, Option.map_some]
theorem strs_sg (xs : List Nat) : strsOf (xs.map sg) = some (xs.map fun c => [c]) := strs_map (fun c => [c]) xs
theorem join_sg : ∀ xs : List Nat, joinL [] (xs.map fun c => [c]) = xs
  | [] => rfl
  | [x] => rfl
  | x :: y :: r => by
    show [x] ++ [] ++ joinL [] ((y :: r).map fun c => [c]) = _
    rw [join_sg (y :: r)]
    rfl
theorem sum_sg : ∀ xs : List Nat, (xs.map fun _ => 1).sum = xs.length
  | [] => rfl
  | x :: r => by simp [sum_sg r]; omega
/-- "".join of signs -/
theorem joinM_sg {μ : Mem} {l : Nat} {xs : List Nat} (h : μ[l]? = some (.lst (xs.map sg))) (hl : xs.length ≤ 1000000) : joinM (.str []) [.ref l] μ = .ok (.str xs) μ := by
  have e : ((xs.map fun c => [c]).map (·.length)).sum = xs.length := by
    rw [List.map_map]
    exact sum_sg xs
  simp only [joinM, seqOf, lstOf, h, Option.bind_some, strs_sg, join_sg]
  rw [if_pos (by rw [e]; simp; exact hl)]
theorem py_str (μ : Mem) (n : Nat) (x : List Nat) : pyOf μ n (.str x) = some (.str (tx x)) := by cases n <;> rfl
theorem tx_beq (x y : List Nat) : (tx x == tx y) = decide (x = y) := by
  by_cases h : x = y
  · subst h; simp
  · simp [h, tx]
theorem datD_ok {C : PyData → PyData → Bool} {g : PyData → PyData → Bool} {μ : Mem} {d e : D} {p q : PyData} (h1 : pyOf μ 12 d = some p) (h2 : pyOf μ 12 e = some q) (h : C p q = true) : datD C g d e μ = .ok (.bl (g p q)) μ := by
  unfold datD
  rw [h1, h2]
  exact if_pos h
theorem cmpOk_alike {p q : PyData} (h : PySem.W.alike p q = true) : cmpOk p q = true := by
  unfold cmpOk
  rw [h]
  rfl
theorem alike_str (x y : Str) : PySem.W.alike (.str x) (.str y) = true := by simp [PySem.W.alike]
theorem eqv_str (x y : List Nat) : PyData.eqv (.str (tx x)) (.str (tx y)) = decide (x = y) := by simp [PyData.eqv, tx_beq]
@[simp] theorem eqG_str (μ : Mem) (x y : List Nat) : eqG (.str x) (.str y) μ = .ok (.bl (decide (x = y))) μ := by
  unfold eqG
  rw [datD_ok (py_str μ 12 x) (py_str μ 12 y) (cmpOk_alike (alike_str _ _)), eqv_str]
@[simp] theorem neG_str (μ : Mem) (x y : List Nat) : neG (.str x) (.str y) μ = .ok (.bl (!decide (x = y))) μ := by
  unfold neG
  rw [datD_ok (py_str μ 12 x) (py_str μ 12 y) (cmpOk_alike (alike_str _ _)), eqv_str]
theorem allS_map {α β : Type} {f : α → Option β} {g : α → β} : ∀ {xs : List α}, (∀ x ∈ xs, f x = some (g x)) → allS (xs.map f) = some (xs.map g)
  | [], _ => rfl
  | x :: r, h => by
    rw [List.map_cons, h x List.mem_cons_self]
    simp only [allS, allS_map (f := f) (g := g) (xs := r) fun y hy => h y (List.mem_cons_of_mem _ hy), Option.map_some, List.map_cons]
/-- a list of plain values -/
theorem py_lst {μ : Mem} {l n : Nat} {ds : List D} {g : D → PyData} (h : μ[l]? = some (.lst ds)) (hg : ∀ d ∈ ds, pyOf μ n d = some (g d)) : pyOf μ (n + 1) (.ref l) = some (.list (ds.map g)) := by
  simp only [pyOf, h, allS_map hg, Option.map_some]
def pyS : D → PyData | .str x => .str (tx x) | .int i => .int i | .bl b => .bool b | _ => .none
theorem py_strs {μ : Mem} {l n : Nat} {xs : List (List Nat)} (h : μ[l]? = some (.lst (xs.map .str))) : pyOf μ (n + 1) (.ref l) = some (.list (xs.map fun x => .str (tx x))) := by
  rw [py_lst (g := pyS) h fun d hd => ?_]
  · rw [List.map_map]; rfl
  · obtain ⟨x, _, rfl⟩ := List.mem_map.mp hd
    exact py_str μ n x
theorem alike_strs : ∀ xs ys : List (List Nat), PySem.W.alikeAll (xs.map fun x => .str (tx x)) (ys.map fun x => .str (tx x)) = true
  | [], ys => by simp [PySem.W.alikeAll]
  | x :: r, [] => by simp [PySem.W.alikeAll]
  | x :: r, y :: s => by simp [PySem.W.alikeAll, PySem.W.alike, alike_strs r s]
theorem eqv_strs : ∀ xs ys : List (List Nat), PyData.eqvAll (xs.map fun x => .str (tx x)) (ys.map fun x => .str (tx x)) = decide (xs = ys)
  | [], [] => by simp [PyData.eqvAll]
  | [], y :: s => by simp [PyData.eqvAll]
  | x :: r, [] => by simp [PyData.eqvAll]
  | x :: r, y :: s => by simp [PyData.eqvAll, PyData.eqv, eqv_strs r s, tx_beq]
theorem alike_lstr (xs ys : List (List Nat)) : PySem.W.alike (.list (xs.map fun x => .str (tx x))) (.list (ys.map fun x => .str (tx x))) = true := by simp [PySem.W.alike, alike_strs]
theorem eqv_lstr (xs ys : List (List Nat)) : PyData.eqv (.list (xs.map fun x => .str (tx x))) (.list (ys.map fun x => .str (tx x))) = decide (xs = ys) := by simp [PyData.eqv, eqv_strs]
theorem eqG_strs {μ : Mem} {l k : Nat} {xs ys : List (List Nat)} (h : μ[l]? = some (.lst (xs.map .str))) (h' : μ[k]? = some (.lst (ys.map .str))) : eqG (.ref l) (.ref k) μ = .ok (.bl (decide (xs = ys))) μ := by
  unfold eqG
  rw [datD_ok (py_strs h) (py_strs h') (cmpOk_alike (alike_lstr _ _)), eqv_lstr]
theorem neG_strs {μ : Mem} {l k : Nat} {xs ys : List (List Nat)} (h : μ[l]? = some (.lst (xs.map .str))) (h' : μ[k]? = some (.lst (ys.map .str))) : neG (.ref l) (.ref k) μ = .ok (.bl (!decide (xs = ys))) μ := by
  unfold neG
  rw [datD_ok (py_strs h) (py_strs h') (cmpOk_alike (alike_lstr _ _)), eqv_lstr]
theorem py_int (μ : Mem) (n : Nat) (x : Int) : pyOf μ n (.int x) = some (.int x) := by cases n <;> rfl
theorem ordOk_int (x y : Int) : ordOk (.int x) (.int y) = true := by simp [ordOk, PySem.W.alike, isNone]
theorem cmpOk_int (x y : Int) : cmpOk (.int x) (.int y) = true := cmpOk_alike (by simp [PySem.W.alike])
theorem lt_int (x y : Int) : PySem.W.dataLt (.int x) (.int y) = decide (x < y) := PySem.W.dataLt_int x y
@[simp] theorem ltG_int (μ : Mem) (x y : Int) : ltG (.int x) (.int y) μ = .ok (.bl (decide (x < y))) μ := by
  unfold ltG
  rw [datD_ok (py_int μ 12 x) (py_int μ 12 y) (ordOk_int x y), lt_int]
@[simp] theorem gtG_int (μ : Mem) (x y : Int) : gtG (.int x) (.int y) μ = .ok (.bl (decide (x > y))) μ := by
  unfold gtG
  rw [datD_ok (py_int μ 12 x) (py_int μ 12 y) (ordOk_int x y), lt_int]
@[simp] theorem leG_int (μ : Mem) (x y : Int) : leG (.int x) (.int y) μ = .ok (.bl (decide (x ≤ y))) μ := by
  unfold leG
  rw [datD_ok (py_int μ 12 x) (py_int μ 12 y) (ordOk_int x y), lt_int]
  have : (!decide (y < x)) = decide (x ≤ y) := by by_cases h : y < x <;> simp [h] <;> omega
  rw [this]
@[simp] theorem geG_int (μ : Mem) (x y : Int) : geG (.int x) (.int y) μ = .ok (.bl (decide (x ≥ y))) μ := by
  unfold geG
  rw [datD_ok (py_int μ 12 x) (py_int μ 12 y) (ordOk_int x y), lt_int]
  have : (!decide (x < y)) = decide (x ≥ y) := by by_cases h : x < y <;> simp [h] <;> omega
  rw [this]
@[simp] theorem eqG_int (μ : Mem) (x y : Int) : eqG (.int x) (.int y) μ = .ok (.bl (decide (x = y))) μ := by
  unfold eqG
  rw [datD_ok (py_int μ 12 x) (py_int μ 12 y) (cmpOk_int x y)]
  have : PyData.eqv (.int x) (.int y) = decide (x = y) := by
    show (x == y) = decide (x = y)
    by_cases h : x = y <;> simp [h]
  rw [this]
@[simp] theorem neG_int (μ : Mem) (x y : Int) : neG (.int x) (.int y) μ = .ok (.bl (!decide (x = y))) μ := by
  unfold neG
  rw [datD_ok (py_int μ 12 x) (py_int μ 12 y) (cmpOk_int x y)]
  have : PyData.eqv (.int x) (.int y) = decide (x = y) := by
    show (x == y) = decide (x = y)
    by_cases h : x = y <;> simp [h]
  rw [this]
end G

/-! G16: a def's meaning, cut back to the store as it was long -/
namespace G
open PySem PySem.Spec PyProof.Rows L2
noncomputable def clean (g : Fn) : Fn := fun ds μ => match g ds μ with
  | .ok d M => ifC (CloM μ → CloL μ.length ds → Clo μ.length d ∧ CloM (M.take μ.length) ∧ μ.length ≤ M.length) (.ok d (M.take μ.length)) .bad
  | .ex e M => ifC (CloM μ → CloL μ.length ds → (∀ f ∈ e.fs, Clo μ.length f.2) ∧ CloM (M.take μ.length) ∧ μ.length ≤ M.length) (.ex e (M.take μ.length)) .bad
  | .bad => .bad
theorem Cal.clean {P : Program} {w : World} {K : Fr0} {mg : Str → Option Value} {base : Heap} {x : Str} {st : Stmt} {ps : List Str} {k : Nat} {g : Fn} (c : Cal P w K mg base k x st ps g) : Cal P w K mg base k x st ps (clean g) :=
  c.drop fun ds μ hl hc hm => by
    unfold G.clean
    split
    · rename_i d M e
      by_cases h : CloM μ → CloL μ.length ds → Clo μ.length d ∧ CloM (M.take μ.length) ∧ μ.length ≤ M.length
      · rw [ifC_pos h]
        obtain ⟨h1, h2, h3⟩ := h hm hc
        have hl : (M.take μ.length).length = μ.length := by rw [List.length_take]; omega
        exact ⟨M.drop μ.length, by rw [e, List.take_append_drop], by rw [hl]; exact h1, h2, by omega⟩
      · rw [ifC_neg h]; trivial
    · rename_i e' M e
      by_cases h : CloM μ → CloL μ.length ds → (∀ f ∈ e'.fs, Clo μ.length f.2) ∧ CloM (M.take μ.length) ∧ μ.length ≤ M.length
      · rw [ifC_pos h]
        obtain ⟨h1, h2, h3⟩ := h hm hc
        have hl : (M.take μ.length).length = μ.length := by rw [List.length_take]; omega
        exact ⟨M.drop μ.length, by rw [e, List.take_append_drop], by rw [hl]; exact h1, h2, by omega⟩
      · rw [ifC_neg h]; trivial
    · trivial
section
variable {g : Fn} {ds : List D} {μ : Mem} {d : D}
theorem clean_ok (G : Mem) (e : g ds μ = .ok d (μ ++ G)) (hd : ∀ n, Clo n d) : clean g ds μ = .ok d μ := by
  unfold clean
  rw [e]
  dsimp only
  rw [ifC_pos]
  · simp
  · intro hm _
    exact ⟨hd _, by simpa using hm, by simp⟩
theorem clean_ex {x : Str} (G : Mem) (e : g ds μ = .ex ⟨x, []⟩ (μ ++ G)) : clean g ds μ = .ex ⟨x, []⟩ μ := by
  unfold clean
  rw [e]
  dsimp only
  rw [ifC_pos]
  · simp
  · intro hm _
    exact ⟨fun f hf => by simp at hf, by simpa using hm, by simp⟩
theorem clean_set {l : Nat} {o : O} (G : Mem) (e : g ds μ = .ok d (μ.set l o ++ G)) (hd : CloM μ → CloL μ.length ds → Clo μ.length d) (ho : CloM μ → CloO μ.length o) : clean g ds μ = .ok d (μ.set l o) := by
  unfold clean
  rw [e]
  have ht : (μ.set l o ++ G).take μ.length = μ.set l o := by
    rw [List.take_append_of_le_length (by simp), List.take_of_length_le (by simp)]
  dsimp only
  rw [ht, ifC_pos]
  intro hm hc
  exact ⟨hd hm hc, cloM_set hm (ho hm), by simp⟩
end
theorem rng_lim (n : Nat) (hn : n ≤ 1000000000) : -(2 ^ 62) ≤ (n : Int) ∧ (n : Int) < 2 ^ 62 := by omega
theorem range1_int {a : Av} {ρ : Rho} {μ μ1 : Mem} {j : Int} (h : a ρ μ = .ok [.int j] μ1) (h1 : -(2 ^ 62) ≤ j ∧ j < 2 ^ 62) : iRange1 a ρ μ = .ok (rngL 0 j.toNat, none) μ1 := by
  unfold iRange1
  rw [h]
  simp only [bind_okE]
  exact if_pos h1
theorem range1_ok {a : Av} {ρ : Rho} {μ μ1 : Mem} {n : Nat} (h : a ρ μ = .ok [.int n] μ1) (hn : n ≤ 1000000000) : iRange1 a ρ μ = .ok (rngL 0 n, none) μ1 := by
  have q := range1_int h (rng_lim n hn)
  rw [Int.toNat_natCast] at q
  exact q
theorem rngL_mem {n : Nat} {d : D} (h : d ∈ rngL 0 n) : ∃ i : Nat, i < n ∧ d = .int i := by
  unfold rngL at h
  obtain ⟨i, hi, rfl⟩ := List.mem_map.mp h
  exact ⟨i, List.mem_range.mp hi, by simp⟩
theorem runD_rt {N : List Str} {f : Sd} {ds : List D} {μ μ1 : Mem} {d : D} (h : f (ds.map some ++ List.replicate (N.length - ds.length) none) μ = .rt d μ1) : runD N f ds μ = .ok d μ1 := by
  unfold runD
  rw [h]
theorem runD_ex {N : List Str} {f : Sd} {ds : List D} {μ μ1 : Mem} {e : EX} {ρ : Rho} (h : f (ds.map some ++ List.replicate (N.length - ds.length) none) μ = .ex e ρ μ1) : runD N f ds μ = .ex e μ1 := by
  unfold runD
  rw [h]
theorem sSeq_nx {f g : Sd} {ρ ρ1 : Rho} {μ μ1 : Mem} (h : f ρ μ = .nx ρ1 μ1) : sSeq f g ρ μ = g ρ1 μ1 := by
  unfold sSeq
  rw [h]
theorem sSeq_rt {f g : Sd} {ρ : Rho} {μ μ1 : Mem} {d : D} (h : f ρ μ = .rt d μ1) : sSeq f g ρ μ = .rt d μ1 := by
  unfold sSeq
  rw [h]
end G

/-! G17: the end of a law -/
namespace G
open PySem PySem.Spec PyProof.Rows L2
theorem df_mk {K : Fr0} {h : Heap} {mg : Str → Option Value} {x : Str} {st : Stmt} {ps : List Str} {f : Addr} {od an : Option Addr} {sl : Array (Option Value)} {oc kV dc pm cd ct : Value} (X : K.In h) (G : h.Ns mainGlobals mg) (a : PySem.W.nsIn K mainGlobals x = some (some (.ref f)))
    (l : K.lookup f = some ⟨oc, od, .func (PySem.W.fnOf x x (defArgs st) (defBody st) (defScope st) .none kV dc pm an cd ct), sl⟩) (c : PySem.W.codeIn K cd x = true) (k : PySem.W.keepIn K (.ref f) = true)
    (hb : ∀ (kV doc pm : Value) (an : Option Addr) (cdv ct : Value) (us : List Value), us.length = ps.length → bindArgs (PySem.W.fnOf x x (defArgs st) (defBody st) (defScope st) .none kV doc pm an cdv ct) ⟨us, []⟩ = pure (ps.zip us)) : Df K mg x st ps := by
  have F := fun_mk (st := st) l c k
  exact ⟨f, _, PySem.W.mg_of X G a, F, F.binds hb⟩
theorem sub_at {K : Fr0} {mg : Str → Option Value} {x y : Str} {A B Cx Cy : Addr} {r : Option Bool} (h1 : mg x = some (.ref A)) (h2 : mg y = some (.ref B)) (k1 : mg x = some (.ref Cx)) (k2 : mg y = some (.ref Cy)) (h : PySem.W.subIn K (.ref A) (.ref B) = r) : PySem.W.subIn K (.ref Cx) (.ref Cy) = r := by
  rw [h1] at k1
  rw [h2] at k2
  cases k1; cases k2
  exact h
theorem kit_ref {K : Fr0} {C B : Addr} (hd : PySem.W.hasDictIn K B = true) (ht : PySem.W.typeIn K (.ref B) = some (.type "type")) (h : PySem.W.subIn K (.ref C) (.ref B) = some true) : PySem.W.kitOne K (.ref C) (.ref B) = some true := by
  unfold PySem.W.kitOne
  split
  · rfl
  · have e2 : ((PySem.W.clsIn K B).isSome && PySem.W.typeIn K (.ref B) == some (.type "type")) = true := by
      rw [ht]
      unfold PySem.W.hasDictIn at hd
      cases q : PySem.W.clsIn K B with
      | none => rw [q] at hd; cases hd
      | some c => rfl
    show (if ((PySem.W.clsIn K B).isSome && PySem.W.typeIn K (.ref B) == some (.type "type")) = true then PySem.W.subIn K (.ref C) (.ref B) else none) = some true
    rw [if_pos e2]
    exact h
/-- a law's promise -/
def spLaw (K : Fr0) : Sp := fun vs H Q _ => ∃ (a : Addr) (ns : List Int), vs = [.ref a] ∧ FzL K H a (ns.map V.int) ∧ ns.length ≤ 63 ∧ ∀ H', Q (.bl true) H'
theorem rvs_ints {K : Fr0} {φ : List Addr} {H : Hp} : ∀ ns : List Int, Rvs K φ H (ns.map .int) (ns.map V.int)
  | [] => rfl
  | n :: r => ⟨.int n, _, rfl, rfl, rvs_ints r⟩
theorem law_fn {P : Program} {w : World} {K : Fr0} {mg : Str → Option Value} {k : Nat} {x : Str} {st : Stmt} {g : Fn} {fa : Addr} {fd : FuncData} (hfa : mg x = some (.ref fa)) (F : Fun K x x st fa fd) (c : ∀ base, Cal P w K mg base k x st ["script"] g) (h : ∀ ns : List Int, ns.length ≤ 1000 → ∃ ν, g [.fl (ns.map .int)] [] = .ok (.bl true) ν)
    (hb : ∀ (kV doc pm : Value) (an : Option Addr) (cdv ct v : Value), bindArgs (PySem.W.fnOf x x (defArgs st) (defBody st) (defScope st) .none kV doc pm an cdv ct) ⟨[v], []⟩ = pure [(("script" : Str), v)]) :
    ∃ fd : FuncData, (∀ (s : Shared) (v : Value), BindsTo s fd ⟨[v], []⟩ [("script", v)]) ∧ ∀ base : Heap, K.In base → base.Ns mainGlobals mg → FnOk P w K mg base (L2.CX P w) k fa fd ["script"] (spLaw K) := by
  refine ⟨fd, fun s v => ?_, fun base _ _ => ?_⟩
  · obtain ⟨oc, od, kV, doc, pm, an, cdv, ct, osl, rfl, lk, hcd⟩ := F.ex
    exact .of_eq (hb kV doc pm an cdv ct v)
  obtain ⟨f, fd2, h1, h2, h4, h5⟩ := (c base).ex
  rw [hfa] at h1
  cases h1
  have e : fd2 = fd := by
    obtain ⟨oc, od, kV, doc, pm, an, cdv, ct, osl, e1, lk, hcd⟩ := F.ex
    obtain ⟨oc2, od2, kV2, doc2, pm2, an2, cdv2, ct2, osl2, e2, lk2, hcd2⟩ := h2.ex
    rw [lk] at lk2
    cases lk2
    rfl
  subst e
  refine h5.imp fun vs H Q E ⟨a, ns, ev, hz, hl, q⟩ => ?_
  subst ev
  obtain ⟨ν, e⟩ := h ns (by omega)
  refine ⟨rfl, [], [], [.fl (ns.map .int)], ⟨.ref a, [], rfl, ⟨a, _, rfl, hz, rvs_ints ns⟩, rfl⟩, ⟨rfl, List.nodup_nil, fun l a o e => by simp at e⟩, ?_⟩
  rw [e]
  intro v H' φ' _ r _
  cases (show v = .bl true from r)
  exact q H'
theorem fz_only {K : Fr0} {H : Hp} {a : Addr} {xs : List V} (o : Only H) (h : SqL K H a xs) : FzL K H a xs := by
  rcases h with (h | h) | h
  · rcases o a with e | ⟨o', ys, e⟩ <;> rw [e] at h <;> cases h
  · exact .inl h
  · exact .inr h
theorem no_cx {P : Program} {w : World} {H : Hp} {s : Shared} {e : Value} {s' : Shared} (h : L2.CX P w [] H s (fun _ _ _ => False) e s') : False := by
  obtain ⟨_, _, _, _, _, _, _, _, _, _, _, _, h⟩ := h
  exact h
end G

/-! W00: words with an inverse of each letter, reduced by a stack: plain lists -/
namespace Wd
/-- the stack's next state -/
def step (i : Nat → Nat) (f : List Nat) (c : Nat) : List Nat := if f.getLast? = some (i c) then f.dropLast else f ++ [c]
def run (i : Nat → Nat) (f w : List Nat) : List Nat := w.foldl (step i) f
def red (i : Nat → Nat) (w : List Nat) : List Nat := run i [] w
/-- nothing inverse side by side -/
def Rd (i : Nat → Nat) (w : List Nat) : Prop := ∀ k a b, w[k]? = some a → w[k + 1]? = some b → b ≠ i a
section
variable {i : Nat → Nat} (hi : ∀ c, i (i c) = c)
theorem run_app (f u v : List Nat) : run i f (u ++ v) = run i (run i f u) v := by simp [run]
theorem rd_nil : Rd i [] := fun k a b h => by simp at h
theorem rd_dropLast {w : List Nat} (h : Rd i w) : Rd i w.dropLast := fun k a b h1 h2 => by
  rw [List.getElem?_dropLast] at h1 h2
  split at h1 <;> split at h2 <;> simp_all
  exact h k a b (by simp [*]) (by simp [*])
theorem rd_snoc {w : List Nat} {c : Nat} (h : Rd i w) (hl : ∀ t, w.getLast? = some t → c ≠ i t) : Rd i (w ++ [c]) := fun k a b h1 h2 => by
  by_cases hk : k + 1 < w.length
  · rw [List.getElem?_append_left (by omega)] at h1
    rw [List.getElem?_append_left hk] at h2
    exact h k a b h1 h2
  · have hk2 : k + 1 < (w ++ [c]).length := (List.getElem?_eq_some_iff.mp h2).1
    have e : k + 1 = w.length := by simp at hk2; omega
    rw [List.getElem?_append_right (by omega)] at h2
    rw [List.getElem?_append_left (by omega)] at h1
    have : b = c := by
      have z : k + 1 - w.length = 0 := by omega
      rw [z] at h2
      simpa using h2.symm
    subst this
    refine hl a ?_
    rw [List.getLast?_eq_getElem?]
    have : w.length - 1 = k := by omega
    rw [this]
    exact h1
include hi
theorem rd_step {f : List Nat} (h : Rd i f) (c : Nat) : Rd i (step i f c) := by
  unfold step
  split
  · exact rd_dropLast h
  · rename_i hn
    exact rd_snoc h fun t ht e => hn (by rw [ht, e, hi])
theorem rd_run {f : List Nat} (h : Rd i f) : ∀ w, Rd i (run i f w)
  | [] => h
  | c :: w => rd_run (rd_step hi h c) w
omit hi in
theorem snoc_of {f : List Nat} {t : Nat} (h : f.getLast? = some t) : f = f.dropLast ++ [t] := by
  have hn : f ≠ [] := by rintro rfl; simp at h
  have := List.dropLast_concat_getLast hn
  rw [List.getLast?_eq_some_getLast hn] at h
  cases h
  exact this.symm
theorem step_back {f : List Nat} (h : Rd i f) (c : Nat) : step i (step i f c) (i c) = f := by
  by_cases hl : f.getLast? = some (i c)
  · have e := snoc_of hl
    have e1 : step i f c = f.dropLast := by unfold step; rw [if_pos hl]
    rw [e1]
    unfold step
    rw [hi]
    have hn : ¬ f.dropLast.getLast? = some c := fun hc => by
      have e2 := snoc_of hc
      have hlen : f.length = f.dropLast.dropLast.length + 2 := by
        have := congrArg List.length e
        have h2 := congrArg List.length e2
        simp at this h2 ⊢
        omega
      have g1 : f[f.dropLast.dropLast.length]? = some c := by
        rw [e, e2]; simp
      have g2 : f[f.dropLast.dropLast.length + 1]? = some (i c) := by
        rw [e, e2]; simp
      exact h _ _ _ g1 g2 rfl
    rw [if_neg hn]
    exact e.symm
  · have e1 : step i f c = f ++ [c] := by unfold step; rw [if_neg hl]
    rw [e1]
    unfold step
    rw [hi]
    simp
/-- alike to any stack -/
def Eqv (i : Nat → Nat) (u v : List Nat) : Prop := ∀ f, Rd i f → run i f u = run i f v
omit hi in
theorem Eqv.rfl' (u : List Nat) : Eqv i u u := fun _ _ => rfl
omit hi in
theorem Eqv.trans {u v w : List Nat} (a : Eqv i u v) (b : Eqv i v w) : Eqv i u w := fun f h => (a f h).trans (b f h)
omit hi in
theorem Eqv.symm {u v : List Nat} (a : Eqv i u v) : Eqv i v u := fun f h => (a f h).symm
theorem Eqv.app {u v : List Nat} (a : Eqv i u v) (x y : List Nat) : Eqv i (x ++ u ++ y) (x ++ v ++ y) := fun f h => by
  rw [run_app, run_app, run_app, run_app, a _ (rd_run hi h x)]
theorem Eqv.both {u v x y : List Nat} (a : Eqv i u v) (b : Eqv i x y) : Eqv i (u ++ x) (v ++ y) := fun f h => by
  rw [run_app, run_app, a f h, b _ (rd_run hi h v)]
theorem eqv_pair (c : Nat) : Eqv i [c, i c] [] := fun f h => by
  show step i (step i f c) (i c) = f
  exact step_back hi h c
theorem eqv_pair' (c : Nat) : Eqv i [i c, c] [] := by
  have := eqv_pair hi (i c)
  rwa [hi] at this
theorem snoc_ind {P : List Nat → Prop} (h0 : P []) (h1 : ∀ w c, P w → P (w ++ [c])) (w : List Nat) : P w := by
  have : ∀ n, ∀ w : List Nat, w.length = n → P w := by
    intro n
    induction n with
    | zero => intro w h; rw [List.length_eq_zero_iff.mp h]; exact h0
    | succ n ih =>
      intro w h
      have hn : w ≠ [] := by rintro rfl; simp at h
      rw [← List.dropLast_concat_getLast hn]
      exact h1 _ _ (ih _ (by rw [List.length_dropLast, h]; rfl))
  exact this _ w rfl
omit hi in
theorem red_snoc (w : List Nat) (c : Nat) : red i (w ++ [c]) = step i (red i w) c := by simp [red, run]
theorem rd_red (w : List Nat) : Rd i (red i w) := rd_run hi rd_nil w
theorem eqv_red (w : List Nat) : Eqv i w (red i w) := by
  refine snoc_ind hi (P := fun w => Eqv i w (red i w)) (Eqv.rfl' []) (fun w c ih => ?_) w
  rw [red_snoc]
  have h1 : Eqv i (w ++ [c]) (red i w ++ [c]) := Eqv.both hi ih (Eqv.rfl' [c])
  refine h1.trans ?_
  unfold step
  split
  · rename_i hl
    have e := snoc_of hl
    have h2 := Eqv.app hi (eqv_pair' hi c) (red i w).dropLast []
    have e2 : (red i w).dropLast ++ [i c, c] ++ [] = red i w ++ [c] := by
      conv => rhs; rw [e]
      simp
    rw [e2] at h2
    simpa using h2
  · exact Eqv.rfl' _
theorem run_rd : ∀ (w f : List Nat), Rd i (f ++ w) → run i f w = f ++ w
  | [], f, _ => by simp [run]
  | c :: w, f, h => by
    have hs : step i f c = f ++ [c] := by
      unfold step
      rw [if_neg]
      intro hl
      have e := snoc_of hl
      have hlen : f.length = f.dropLast.length + 1 := by
        have := congrArg List.length e
        simpa using this
      refine h f.dropLast.length (i c) c ?_ ?_ (hi c).symm
      · rw [List.getElem?_append_left (by omega)]
        conv => lhs; rw [e]
        simp
      · rw [List.getElem?_append_right (by omega)]
        have : f.dropLast.length + 1 - f.length = 0 := by omega
        rw [this]
        rfl
    show run i (step i f c) w = _
    rw [hs, run_rd w (f ++ [c]) (by simpa using h)]
    simp
theorem red_rd {w : List Nat} (h : Rd i w) : red i w = w := by
  have := run_rd hi w [] (by simpa using h)
  simpa [red] using this
theorem red_red (w : List Nat) : red i (red i w) = red i w := red_rd hi (rd_red hi w)
theorem red_of_eqv {u v : List Nat} (h : Eqv i u v) : red i u = red i v := h [] rd_nil
theorem red_left (u v : List Nat) : red i (red i u ++ v) = red i (u ++ v) := red_of_eqv hi (Eqv.both hi (eqv_red hi u).symm (Eqv.rfl' v))
theorem red_right (u v : List Nat) : red i (u ++ red i v) = red i (u ++ v) := red_of_eqv hi (Eqv.both hi (Eqv.rfl' u) (eqv_red hi v).symm)
theorem red_assoc (a b c : List Nat) : red i (red i (a ++ b) ++ c) = red i (a ++ red i (b ++ c)) := by
  rw [red_left hi, red_right hi, List.append_assoc]
/-- the inverse word -/
def inv (i : Nat → Nat) (w : List Nat) : List Nat := w.reverse.map i
omit hi in
theorem inv_app (u v : List Nat) : inv i (u ++ v) = inv i v ++ inv i u := by simp [inv]
theorem inv_inv (w : List Nat) : inv i (inv i w) = w := by
  unfold inv
  rw [← List.map_reverse, List.reverse_reverse, List.map_map]
  have : (i ∘ i) = id := funext hi
  rw [this]
  simp
theorem eqv_inv (w : List Nat) : Eqv i (inv i w) (inv i (red i w)) := by
  refine snoc_ind hi (P := fun w => Eqv i (inv i w) (inv i (red i w))) (Eqv.rfl' _) (fun w c ih => ?_) w
  rw [red_snoc, inv_app]
  have h1 : Eqv i (inv i [c] ++ inv i w) (inv i [c] ++ inv i (red i w)) := Eqv.both hi (Eqv.rfl' _) ih
  refine h1.trans ?_
  unfold step
  split
  · rename_i hl
    have e := snoc_of hl
    have h2 := Eqv.app hi (eqv_pair' hi c) [] (inv i (red i w).dropLast)
    have e2 : [] ++ [i c, c] ++ inv i (red i w).dropLast = inv i [c] ++ inv i (red i w) := by
      conv => rhs; rw [e]
      rw [inv_app]
      simp [inv, hi]
    rw [e2] at h2
    simpa using h2
  · rw [inv_app]
    exact Eqv.rfl' _
theorem rd_inv {w : List Nat} (h : Rd i w) : Rd i (inv i w) := fun k a b h1 h2 => by
  unfold inv at h1 h2
  rw [List.getElem?_map] at h1 h2
  have hk : k + 1 < w.reverse.length := by
    cases q : w.reverse[k + 1]? with
    | none => rw [q] at h2; cases h2
    | some z => exact (List.getElem?_eq_some_iff.mp q).1
  rw [List.length_reverse] at hk
  rw [List.getElem?_reverse (by omega)] at h1
  rw [List.getElem?_reverse hk] at h2
  cases q1 : w[w.length - 1 - k]? with
  | none => rw [q1] at h1; cases h1
  | some x =>
    cases q2 : w[w.length - 1 - (k + 1)]? with
    | none => rw [q2] at h2; cases h2
    | some y =>
      rw [q1] at h1; rw [q2] at h2
      cases h1; cases h2
      intro e
      refine h (w.length - 1 - (k + 1)) y x q2 ?_ ?_
      · have : w.length - 1 - (k + 1) + 1 = w.length - 1 - k := by omega
        rw [this]; exact q1
      · have := congrArg i e
        rw [hi, hi] at this
        rw [← hi x, ← this]
theorem red_inv (w : List Nat) : red i (inv i w) = inv i (red i w) := by
  rw [red_of_eqv hi (eqv_inv hi w), red_rd hi (rd_inv hi (rd_red hi w))]
theorem red_inv_self (w : List Nat) : red i (w ++ inv i w) = [] := by
  have : Eqv i (w ++ inv i w) [] := by
    refine snoc_ind hi (P := fun w => Eqv i (w ++ inv i w) []) (Eqv.rfl' _) (fun w c ih => ?_) w
    rw [inv_app]
    have h2 := Eqv.app hi (eqv_pair hi c) w (inv i w)
    have e : w ++ [c, i c] ++ inv i w = w ++ [c] ++ (inv i [c] ++ inv i w) := by simp [inv]
    rw [e] at h2
    refine h2.trans ?_
    simpa using ih
  have := red_of_eqv hi this
  simpa [red, run] using this
/-- a pair taken out -/
theorem red_cut {w : List Nat} {k : Nat} {a : Nat} (h1 : w[k]? = some a) (h2 : w[k + 1]? = some (i a)) : red i (w.take k ++ w.drop (k + 2)) = red i w := by
  have hk : k + 1 < w.length := (List.getElem?_eq_some_iff.mp h2).1
  have e : w = w.take k ++ [a, i a] ++ w.drop (k + 2) := by
    have ha : w[k] = a := (List.getElem?_eq_some_iff.mp h1).2
    have hb : w[k + 1] = i a := (List.getElem?_eq_some_iff.mp h2).2
    conv => lhs; rw [← List.take_append_drop k w]
    rw [List.drop_eq_getElem_cons (by omega), List.drop_eq_getElem_cons (by omega), ha, hb]
    simp
  have h := red_of_eqv hi (Eqv.app hi (eqv_pair hi a) (w.take k) (w.drop (k + 2)))
  rw [← e] at h
  rw [h]
  simp
/-! powers -/
def rep (w : List Nat) (n : Nat) : List Nat := (List.replicate n w).flatten
omit hi in
theorem rep_succ (w : List Nat) (n : Nat) : rep w (n + 1) = w ++ rep w n := by simp [rep, List.replicate_succ]
omit hi in
theorem rep_succ' (w : List Nat) (n : Nat) : rep w (n + 1) = rep w n ++ w := by simp [rep, List.replicate_succ']
omit hi in
theorem inv_rep (w : List Nat) : ∀ n, inv i (rep w n) = rep (inv i w) n
  | 0 => by simp [rep, inv]
  | n + 1 => by rw [rep_succ, inv_app, inv_rep w n, rep_succ']
/-- the n-th power, unreduced -/
def pw (i : Nat → Nat) (w : List Nat) (n : Int) : List Nat := if n ≥ 0 then rep w n.toNat else rep (inv i w) (-n).toNat
theorem pw_neg (w : List Nat) (n : Int) : red i (pw i w (-n)) = inv i (red i (pw i w n)) := by
  rw [← red_inv hi]
  unfold pw
  by_cases h : n ≥ 0
  · rw [if_pos h]
    by_cases h0 : n = 0
    · subst h0
      simp [rep, inv]
    · rw [if_neg (by omega), inv_rep]
      simp
  · rw [if_neg h, if_pos (by omega), inv_rep, inv_inv hi]
theorem pw_succ (w : List Nat) (n : Int) : red i (red i (pw i w n) ++ w) = red i (pw i w (n + 1)) := by
  rw [red_left hi]
  unfold pw
  by_cases h : n ≥ 0
  · rw [if_pos h, if_pos (by omega)]
    have : (n + 1).toNat = n.toNat + 1 := by omega
    rw [this, rep_succ']
  · rw [if_neg h]
    obtain ⟨m, hm⟩ : ∃ m : Nat, (-n).toNat = m + 1 := ⟨(-n).toNat - 1, by omega⟩
    rw [hm, rep_succ', List.append_assoc]
    have e2 : red i (rep (inv i w) m ++ (inv i w ++ w)) = red i (rep (inv i w) m) := by
      rw [← red_right hi]
      have := red_inv_self hi (inv i w)
      rw [inv_inv hi] at this
      rw [this]
      simp
    rw [e2]
    by_cases h1 : n + 1 ≥ 0
    · have : m = 0 := by omega
      subst this
      have h3 : n + 1 = 0 := by omega
      rw [if_pos h1, h3]
      simp [rep]
    · rw [if_neg h1]
      have : (-(n + 1)).toNat = m := by omega
      rw [this]
theorem pw_one (w : List Nat) : pw i w 1 = w := by simp [pw, rep]
theorem pw_zero (w : List Nat) : pw i w 0 = [] := by simp [pw, rep]
omit hi in
theorem step_len (f : List Nat) (c : Nat) : (step i f c).length ≤ f.length + 1 := by
  unfold step
  split <;> simp
  omega
omit hi in
theorem run_len : ∀ (w f : List Nat), (run i f w).length ≤ f.length + w.length
  | [], f => by simp [run]
  | c :: w, f => by
    have h1 := run_len w (step i f c)
    have h2 := step_len (i := i) f c
    show (run i (step i f c) w).length ≤ _
    simp
    omega
omit hi in
theorem red_len (w : List Nat) : (red i w).length ≤ w.length := by
  have := run_len (i := i) w []
  simpa [red] using this
omit hi in
theorem run_mem : ∀ (w f : List Nat) (c : Nat), c ∈ run i f w → c ∈ f ∨ c ∈ w
  | [], f, c, h => .inl h
  | d :: w, f, c, h => by
    rcases run_mem w (step i f d) c h with q | q
    · unfold step at q
      split at q
      · exact .inl (List.dropLast_subset _ q)
      · rcases List.mem_append.mp q with z | z
        · exact .inl z
        · simp at z; exact .inr (by simp [z])
    · exact .inr (List.mem_cons_of_mem _ q)
omit hi in
theorem red_mem {w : List Nat} {c : Nat} (h : c ∈ red i w) : c ∈ w := by
  rcases run_mem w [] c h with q | q
  · simp at q
  · exact q
end
end Wd

namespace K00
open PySem PySem.Spec PyProof.Rows L2 G
abbrev topS (i : Nat) : Stmt := PySem.Challenge.pw_grownbyone_k00_words.main.body.getD i (.Pass ⟨0, 0, 0, 0⟩)
abbrev T_known : List Str := ["InvalidWord", "InvalidNumber"]
structure Txt (K : Fr0) (mg : Str → Option Value) : Prop where
  n_isinstance : mg "isinstance" = none
  n_int : mg "int" = none
  n_bool : mg "bool" = none
  n_str : mg "str" = none
  n_all : mg "all" = none
  g_LETTERS : ∃ t, mg "LETTERS" = some (.str "aAbBcCdD" t)
  n_len : mg "len" = none
  e_InvalidWord : ∃ C, Er0 K mg "InvalidWord" C
  e_InvalidNumber : ∃ C, Er0 K mg "InvalidNumber" C
  n_max : mg "max" = none
  n_tuple : mg "tuple" = none
  n_list : mg "list" = none
  n_range : mg "range" = none
  S : ErS K mg T_known
  i_InvalidWord_GroupError : ∃ C B, Er0 K mg "InvalidWord" C ∧ ExcC K C ∧ mg "GroupError" = some (.ref B) ∧ PySem.W.kitOne K (.ref C) (.ref B) = some true
section
variable {P : Program} {w : World} {K : Fr0} {mg : Str → Option Value} {base : Heap}

/-! is_integer -/
abbrev st_is_integer : Stmt := topS 6
abbrev N_is_integer : List Str := ["value"]
abbrev ps_is_integer : List Str := ["value"]
theorem sc_is_integer : FnScope N_is_integer ps_is_integer (defScope st_is_integer) := ⟨rfl, rfl, rfl, by decide +kernel, rfl, by decide +kernel, by decide +kernel⟩
noncomputable def m_is_integer : Sd :=
  sRet (eAndG (eIsi .int (eVar 0)) (eNotG (eIsi .bl (eVar 0))))
theorem c_is_integer{k : Nat}(T : Txt K mg) (D_is_integer : Df K mg "is_integer" st_is_integer ps_is_integer) : Cal P w K mg base (k + 1) "is_integer" st_is_integer ps_is_integer (runD N_is_integer m_is_integer) :=
  cal_of D_is_integer sc_is_integer fun a cdv A outer s H E hr => have tk := takes_of (X := cxOf (L2.CX P w) P w K mg base N_is_integer "is_integer" (defScope st_is_integer) a cdv A outer s H E) rfl rfl rfl rfl
  sss_one (ss_ret (se_and (se_isi .int T.n_isinstance T.n_int (se_var 0)) (se_one (se_not (se_isi .bl T.n_isinstance T.n_bool (se_var 0))))))


/-! is_word_in -/
abbrev st_is_word_in : Stmt := topS 7
abbrev N_is_word_in : List Str := ["letters", "value", "letter"]
abbrev ps_is_word_in : List Str := ["letters", "value"]
theorem sc_is_word_in : FnScope N_is_word_in ps_is_word_in (defScope st_is_word_in) := ⟨rfl, rfl, rfl, by decide +kernel, rfl, by decide +kernel, by decide +kernel⟩
noncomputable def m_is_word_in : Sd :=
  sRet (eAndG (eIsi .str (eVar 1)) (eCb allD (aCons (eComp [2] (.name 2) (iSeq (eVar 1)) (cYes) (eBin inD (eVar 2) (eVar 0))) (aNil))))
theorem c_is_word_in{k : Nat}(T : Txt K mg) (D_is_word_in : Df K mg "is_word_in" st_is_word_in ps_is_word_in) : Cal P w K mg base (k + 1) "is_word_in" st_is_word_in ps_is_word_in (runD N_is_word_in m_is_word_in) :=
  cal_of D_is_word_in sc_is_word_in fun a cdv A outer s H E hr => have tk := takes_of (X := cxOf (L2.CX P w) P w K mg base N_is_word_in "is_word_in" (defScope st_is_word_in) a cdv A outer s H E) rfl rfl rfl rfl
  sss_one (ss_ret (se_and (se_isi .str T.n_isinstance T.n_str (se_var 1)) (se_one (se_all T.n_all (sa_cons (se_comp [("letter", 2)] (.name 2) sc_is_word_in.nd (si_seq (se_var 1)) (blkOk_by rfl) (fun _ _ _ _ _ => sg_name 2 sc_is_word_in.nd) (fun _ _ _ _ _ => sts_nil) (fun _ _ _ _ _ => se_in (se_var 2) (se_var 0))) (sa_nil))))))


/-! rank -/
abbrev st_rank : Stmt := topS 8
abbrev N_rank : List Str := ["letter"]
abbrev ps_rank : List Str := ["letter"]
theorem sc_rank : FnScope N_rank ps_rank (defScope st_rank) := ⟨rfl, rfl, rfl, by decide +kernel, rfl, by decide +kernel, by decide +kernel⟩
noncomputable def m_rank : Sd :=
  sRet (eIfG (tB1 (eBin neG (eVar 0) (eC (.str [])))) (eMs indexM (eC (.str [97, 65, 98, 66, 99, 67, 100, 68])) (aCons (eVar 0) (aNil))) (eCb lenD (aCons (eC (.str [97, 65, 98, 66, 99, 67, 100, 68])) (aNil))))
theorem c_rank{k : Nat}(T : Txt K mg) (D_rank : Df K mg "rank" st_rank ps_rank) : Cal P w K mg base (k + 1) "rank" st_rank ps_rank (runD N_rank m_rank) :=
  cal_of D_rank sc_rank fun a cdv A outer s H E hr => have tk := takes_of (X := cxOf (L2.CX P w) P w K mg base N_rank "rank" (defScope st_rank) a cdv A outer s H E) rfl rfl rfl rfl
  sss_one (ss_ret (se_ifExp (st_ne hr.units (se_var 0) (se_str [])) (se_index ((T.g_LETTERS.elim fun _ h => se_gstr [97, 65, 98, 66, 99, 67, 100, 68] h (by decide +kernel))) (sa_cons (se_var 0) (sa_nil))) (se_len T.n_len (sa_cons ((T.g_LETTERS.elim fun _ h => se_gstr [97, 65, 98, 66, 99, 67, 100, 68] h (by decide +kernel))) (sa_nil)))))


/-! word_key -/
abbrev st_word_key : Stmt := topS 9
abbrev N_word_key : List Str := ["word", "letter"]
abbrev ps_word_key : List Str := ["word"]
theorem sc_word_key : FnScope N_word_key ps_word_key (defScope st_word_key) := ⟨rfl, rfl, rfl, by decide +kernel, rfl, by decide +kernel, by decide +kernel⟩
noncomputable def m_word_key (g_rank : Fn) : Sd :=
  sRet (eTup (aCons (eCb lenD (aCons (eVar 0) (aNil))) (aCons (eComp [1] (.name 1) (iSeq (eVar 0)) (cYes) (eCall g_rank (aCons (eVar 1) (aNil)))) (aNil))))
theorem c_word_key{k : Nat}{g_rank : Fn} (T : Txt K mg) (D_word_key : Df K mg "word_key" st_word_key ps_word_key) (C_rank : Cal P w K mg base k "rank" st_rank ps_rank g_rank) : Cal P w K mg base (k + 1) "word_key" st_word_key ps_word_key (runD N_word_key (m_word_key g_rank)) :=
  cal_of D_word_key sc_word_key fun a cdv A outer s H E hr => have tk := takes_of (X := cxOf (L2.CX P w) P w K mg base N_word_key "word_key" (defScope st_word_key) a cdv A outer s H E) rfl rfl rfl rfl
  sss_one (ss_ret (se_tup (sa_cons (se_len T.n_len (sa_cons (se_var 0) (sa_nil))) (sa_cons (se_comp [("letter", 1)] (.name 1) sc_word_key.nd (si_seq (se_var 0)) (blkOk_by rfl) (fun _ _ _ _ _ => sg_name 1 sc_word_key.nd) (fun _ _ _ _ _ => sts_nil) (fun _ _ _ _ _ => se_call C_rank hr takes0 (sa_cons (se_var 1) (sa_nil)) (alen_cons alen_nil))) (sa_nil)))))


/-! is_below -/
abbrev st_is_below : Stmt := topS 10
abbrev N_is_below : List Str := ["word", "other"]
abbrev ps_is_below : List Str := ["word", "other"]
theorem sc_is_below : FnScope N_is_below ps_is_below (defScope st_is_below) := ⟨rfl, rfl, rfl, by decide +kernel, rfl, by decide +kernel, by decide +kernel⟩
noncomputable def m_is_below (g_word_key : Fn) : Sd :=
  sRet (eBin ltG (eCall g_word_key (aCons (eVar 0) (aNil))) (eCall g_word_key (aCons (eVar 1) (aNil))))
theorem c_is_below{k : Nat}{g_word_key : Fn} (T : Txt K mg) (D_is_below : Df K mg "is_below" st_is_below ps_is_below) (C_word_key : Cal P w K mg base k "word_key" st_word_key ps_word_key g_word_key) : Cal P w K mg base (k + 1) "is_below" st_is_below ps_is_below (runD N_is_below (m_is_below g_word_key)) :=
  cal_of D_is_below sc_is_below fun a cdv A outer s H E hr => have tk := takes_of (X := cxOf (L2.CX P w) P w K mg base N_is_below "is_below" (defScope st_is_below) a cdv A outer s H E) rfl rfl rfl rfl
  sss_one (ss_ret (se_lt hr.units (se_call C_word_key hr tk (sa_cons (se_var 0) (sa_nil)) (alen_cons alen_nil)) (se_call C_word_key hr tk (sa_cons (se_var 1) (sa_nil)) (alen_cons alen_nil))))


/-! inverted -/
abbrev st_inverted : Stmt := topS 11
abbrev N_inverted : List Str := ["word"]
abbrev ps_inverted : List Str := ["word"]
theorem sc_inverted : FnScope N_inverted ps_inverted (defScope st_inverted) := ⟨rfl, rfl, rfl, by decide +kernel, rfl, by decide +kernel, by decide +kernel⟩
noncomputable def m_inverted : Sd :=
  sRet (eMs swapM (eRev (eVar 0)) aNil)
theorem c_inverted{k : Nat}(T : Txt K mg) (D_inverted : Df K mg "inverted" st_inverted ps_inverted) : Cal P w K mg base (k + 1) "inverted" st_inverted ps_inverted (runD N_inverted m_inverted) :=
  cal_of D_inverted sc_inverted fun a cdv A outer s H E hr => have tk := takes_of (X := cxOf (L2.CX P w) P w K mg base N_inverted "inverted" (defScope st_inverted) a cdv A outer s H E) rfl rfl rfl rfl
  sss_one (ss_ret (se_swapcase (se_rev (se_var 0))))


/-! reduced_word -/
abbrev st_reduced_word : Stmt := topS 12
abbrev N_reduced_word : List Str := ["word", "found", "letter"]
abbrev ps_reduced_word : List Str := ["word"]
theorem sc_reduced_word : FnScope N_reduced_word ps_reduced_word (defScope st_reduced_word) := ⟨rfl, rfl, rfl, by decide +kernel, rfl, by decide +kernel, by decide +kernel⟩
noncomputable def m_reduced_word (g_inverted : Fn) : Sd :=
  sSeq (sSet 1 (eLst (aNil))) (
  sSeq (sFor [2] (.name 2) (iSeq (eVar 0)) (sIf (tAndG (tB1 (eBin neG (eVar 1) (eLst (aNil)))) (tB1 (eBin eqG (eBin ixD (eVar 1) (eNeg (eC (.int 1)))) (eCall g_inverted (aCons (eVar 2) (aNil)))))) (sExpr (eMl popM (eVar 1) aNil)) (sExpr (eMl appendM (eVar 1) (aCons (eVar 2) (aNil)))))) (
  sRet (eMs joinM (eC (.str [])) (aCons (eVar 1) (aNil)))))
theorem c_reduced_word{k : Nat}{g_inverted : Fn} (T : Txt K mg) (D_reduced_word : Df K mg "reduced_word" st_reduced_word ps_reduced_word) (C_inverted : Cal P w K mg base k "inverted" st_inverted ps_inverted g_inverted) : Cal P w K mg base (k + 1) "reduced_word" st_reduced_word ps_reduced_word (runD N_reduced_word (m_reduced_word g_inverted)) :=
  cal_of D_reduced_word sc_reduced_word fun a cdv A outer s H E hr => have tk := takes_of (X := cxOf (L2.CX P w) P w K mg base N_reduced_word "reduced_word" (defScope st_reduced_word) a cdv A outer s H E) rfl rfl rfl rfl
  sss_cons (ss_set 1 sc_reduced_word.nd (se_lst (sa_nil))) (
  sss_cons (ss_for [2] (passes_of rfl) (si_seq (se_var 0)) (sg_name 2 sc_reduced_word.nd) (sss_one (ss_if (st_w (sw_and (st_ne hr.units (se_var 1) (se_lst (sa_nil))) (sw_and1 (st_eq hr.units (se_ix (se_var 1) (se_neg (se_int))) (se_call C_inverted hr tk (sa_cons (se_var 2) (sa_nil)) (alen_cons alen_nil)))))) (sss_one (ss_expr (se_pop (se_var 1)))) (sss_one (ss_expr (se_append (se_var 1) (sa_cons (se_var 2) (sa_nil)))))))) (
  sss_one (ss_ret (se_join (se_str []) (sa_cons (se_var 1) (sa_nil))))))


/-! power_of -/
abbrev st_power_of : Stmt := topS 13
abbrev N_power_of : List Str := ["word", "n"]
abbrev ps_power_of : List Str := ["word", "n"]
theorem sc_power_of : FnScope N_power_of ps_power_of (defScope st_power_of) := ⟨rfl, rfl, rfl, by decide +kernel, rfl, by decide +kernel, by decide +kernel⟩
noncomputable def m_power_of (g_reduced_word g_inverted : Fn) : Sd :=
  sRet (eCall g_reduced_word (aCons (eIfG (tB1 (eBin geG (eVar 1) (eC (.int 0)))) (eBin mulD (eVar 0) (eVar 1)) (eBin mulD (eCall g_inverted (aCons (eVar 0) (aNil))) (eNeg (eVar 1)))) (aNil)))
theorem c_power_of{k : Nat}{g_reduced_word g_inverted : Fn} (T : Txt K mg) (D_power_of : Df K mg "power_of" st_power_of ps_power_of) (C_reduced_word : Cal P w K mg base k "reduced_word" st_reduced_word ps_reduced_word g_reduced_word) (C_inverted : Cal P w K mg base k "inverted" st_inverted ps_inverted g_inverted) : Cal P w K mg base (k + 1) "power_of" st_power_of ps_power_of (runD N_power_of (m_power_of g_reduced_word g_inverted)) :=
  cal_of D_power_of sc_power_of fun a cdv A outer s H E hr => have tk := takes_of (X := cxOf (L2.CX P w) P w K mg base N_power_of "power_of" (defScope st_power_of) a cdv A outer s H E) rfl rfl rfl rfl
  sss_one (ss_ret (se_call C_reduced_word hr tk (sa_cons (se_ifExp (st_ge hr.units (se_var 1) (se_int)) (se_mul (se_var 0) (se_var 1)) (se_mul (se_call C_inverted hr tk (sa_cons (se_var 0) (sa_nil)) (alen_cons alen_nil)) (se_neg (se_var 1)))) (sa_nil)) (alen_cons alen_nil)))


/-! check_word -/
abbrev st_check_word : Stmt := topS 15
abbrev N_check_word : List Str := ["word"]
abbrev ps_check_word : List Str := ["word"]
theorem sc_check_word : FnScope N_check_word ps_check_word (defScope st_check_word) := ⟨rfl, rfl, rfl, by decide +kernel, rfl, by decide +kernel, by decide +kernel⟩
noncomputable def m_check_word (g_is_word_in : Fn) : Sd :=
  sIf (tNotG (tB1 (eCall g_is_word_in (aCons (eC (.str [97, 65, 98, 66, 99, 67, 100, 68])) (aCons (eVar 0) (aNil)))))) (fun ρ μ => .ex ⟨"InvalidWord", []⟩ ρ μ) (sSkip)
theorem c_check_word{k : Nat}{g_is_word_in : Fn} (T : Txt K mg) (D_check_word : Df K mg "check_word" st_check_word ps_check_word) (C_is_word_in : Cal P w K mg base k "is_word_in" st_is_word_in ps_is_word_in g_is_word_in) : Cal P w K mg base (k + 1) "check_word" st_check_word ps_check_word (runD N_check_word (m_check_word g_is_word_in)) :=
  cal_of D_check_word sc_check_word fun a cdv A outer s H E hr => have tk := takes_of (X := cxOf (L2.CX P w) P w K mg base N_check_word "check_word" (defScope st_check_word) a cdv A outer s H E) rfl rfl rfl rfl
  sss_one (ss_if (st_not (st_val (se_call C_is_word_in hr tk (sa_cons ((T.g_LETTERS.elim fun _ h => se_gstr [97, 65, 98, 66, 99, 67, 100, 68] h (by decide +kernel))) (sa_cons (se_var 0) (sa_nil))) (alen_cons (alen_cons alen_nil))))) (sss_one ((T.e_InvalidWord).elim fun _ E => ss_raise0 rfl tk E)) (sss_nil))


/-! check_two_words -/
abbrev st_check_two_words : Stmt := topS 16
abbrev N_check_two_words : List Str := ["word", "other_word"]
abbrev ps_check_two_words : List Str := ["word", "other_word"]
theorem sc_check_two_words : FnScope N_check_two_words ps_check_two_words (defScope st_check_two_words) := ⟨rfl, rfl, rfl, by decide +kernel, rfl, by decide +kernel, by decide +kernel⟩
noncomputable def m_check_two_words (g_check_word : Fn) : Sd :=
  sSeq (sExpr (eCall g_check_word (aCons (eVar 0) (aNil)))) (
  sExpr (eCall g_check_word (aCons (eVar 1) (aNil))))
theorem c_check_two_words{k : Nat}{g_check_word : Fn} (T : Txt K mg) (D_check_two_words : Df K mg "check_two_words" st_check_two_words ps_check_two_words) (C_check_word : Cal P w K mg base k "check_word" st_check_word ps_check_word g_check_word) : Cal P w K mg base (k + 1) "check_two_words" st_check_two_words ps_check_two_words (runD N_check_two_words (m_check_two_words g_check_word)) :=
  cal_of D_check_two_words sc_check_two_words fun a cdv A outer s H E hr => have tk := takes_of (X := cxOf (L2.CX P w) P w K mg base N_check_two_words "check_two_words" (defScope st_check_two_words) a cdv A outer s H E) rfl rfl rfl rfl
  sss_cons (ss_expr (se_call C_check_word hr tk (sa_cons (se_var 0) (sa_nil)) (alen_cons alen_nil))) (
  sss_one (ss_expr (se_call C_check_word hr tk (sa_cons (se_var 1) (sa_nil)) (alen_cons alen_nil))))


/-! check_number -/
abbrev st_check_number : Stmt := topS 17
abbrev N_check_number : List Str := ["n"]
abbrev ps_check_number : List Str := ["n"]
theorem sc_check_number : FnScope N_check_number ps_check_number (defScope st_check_number) := ⟨rfl, rfl, rfl, by decide +kernel, rfl, by decide +kernel, by decide +kernel⟩
noncomputable def m_check_number (g_is_integer : Fn) : Sd :=
  sIf (tNotG (tB1 (eCall g_is_integer (aCons (eVar 0) (aNil))))) (fun ρ μ => .ex ⟨"InvalidNumber", []⟩ ρ μ) (sSkip)
theorem c_check_number{k : Nat}{g_is_integer : Fn} (T : Txt K mg) (D_check_number : Df K mg "check_number" st_check_number ps_check_number) (C_is_integer : Cal P w K mg base k "is_integer" st_is_integer ps_is_integer g_is_integer) : Cal P w K mg base (k + 1) "check_number" st_check_number ps_check_number (runD N_check_number (m_check_number g_is_integer)) :=
  cal_of D_check_number sc_check_number fun a cdv A outer s H E hr => have tk := takes_of (X := cxOf (L2.CX P w) P w K mg base N_check_number "check_number" (defScope st_check_number) a cdv A outer s H E) rfl rfl rfl rfl
  sss_one (ss_if (st_not (st_val (se_call C_is_integer hr tk (sa_cons (se_var 0) (sa_nil)) (alen_cons alen_nil)))) (sss_one ((T.e_InvalidNumber).elim fun _ E => ss_raise0 rfl tk E)) (sss_nil))


/-! is_word -/
abbrev st_is_word : Stmt := topS 19
abbrev N_is_word : List Str := ["value"]
abbrev ps_is_word : List Str := ["value"]
theorem sc_is_word : FnScope N_is_word ps_is_word (defScope st_is_word) := ⟨rfl, rfl, rfl, by decide +kernel, rfl, by decide +kernel, by decide +kernel⟩
noncomputable def m_is_word (g_is_word_in : Fn) : Sd :=
  sRet (eCall g_is_word_in (aCons (eC (.str [97, 65, 98, 66, 99, 67, 100, 68])) (aCons (eVar 0) (aNil))))
theorem c_is_word{k : Nat}{g_is_word_in : Fn} (T : Txt K mg) (D_is_word : Df K mg "is_word" st_is_word ps_is_word) (C_is_word_in : Cal P w K mg base k "is_word_in" st_is_word_in ps_is_word_in g_is_word_in) : Cal P w K mg base (k + 1) "is_word" st_is_word ps_is_word (runD N_is_word (m_is_word g_is_word_in)) :=
  cal_of D_is_word sc_is_word fun a cdv A outer s H E hr => have tk := takes_of (X := cxOf (L2.CX P w) P w K mg base N_is_word "is_word" (defScope st_is_word) a cdv A outer s H E) rfl rfl rfl rfl
  sss_one (ss_ret (se_call C_is_word_in hr tk (sa_cons ((T.g_LETTERS.elim fun _ h => se_gstr [97, 65, 98, 66, 99, 67, 100, 68] h (by decide +kernel))) (sa_cons (se_var 0) (sa_nil))) (alen_cons (alen_cons alen_nil))))


/-! inverse -/
abbrev st_inverse : Stmt := topS 20
abbrev N_inverse : List Str := ["word"]
abbrev ps_inverse : List Str := ["word"]
theorem sc_inverse : FnScope N_inverse ps_inverse (defScope st_inverse) := ⟨rfl, rfl, rfl, by decide +kernel, rfl, by decide +kernel, by decide +kernel⟩
noncomputable def m_inverse (g_check_word g_inverted : Fn) : Sd :=
  sSeq (sExpr (eCall g_check_word (aCons (eVar 0) (aNil)))) (
  sRet (eCall g_inverted (aCons (eVar 0) (aNil))))
theorem c_inverse{k : Nat}{g_check_word g_inverted : Fn} (T : Txt K mg) (D_inverse : Df K mg "inverse" st_inverse ps_inverse) (C_check_word : Cal P w K mg base k "check_word" st_check_word ps_check_word g_check_word) (C_inverted : Cal P w K mg base k "inverted" st_inverted ps_inverted g_inverted) : Cal P w K mg base (k + 1) "inverse" st_inverse ps_inverse (runD N_inverse (m_inverse g_check_word g_inverted)) :=
  cal_of D_inverse sc_inverse fun a cdv A outer s H E hr => have tk := takes_of (X := cxOf (L2.CX P w) P w K mg base N_inverse "inverse" (defScope st_inverse) a cdv A outer s H E) rfl rfl rfl rfl
  sss_cons (ss_expr (se_call C_check_word hr tk (sa_cons (se_var 0) (sa_nil)) (alen_cons alen_nil))) (
  sss_one (ss_ret (se_call C_inverted hr tk (sa_cons (se_var 0) (sa_nil)) (alen_cons alen_nil))))


/-! reduced -/
abbrev st_reduced : Stmt := topS 21
abbrev N_reduced : List Str := ["word"]
abbrev ps_reduced : List Str := ["word"]
theorem sc_reduced : FnScope N_reduced ps_reduced (defScope st_reduced) := ⟨rfl, rfl, rfl, by decide +kernel, rfl, by decide +kernel, by decide +kernel⟩
noncomputable def m_reduced (g_check_word g_reduced_word : Fn) : Sd :=
  sSeq (sExpr (eCall g_check_word (aCons (eVar 0) (aNil)))) (
  sRet (eCall g_reduced_word (aCons (eVar 0) (aNil))))
theorem c_reduced{k : Nat}{g_check_word g_reduced_word : Fn} (T : Txt K mg) (D_reduced : Df K mg "reduced" st_reduced ps_reduced) (C_check_word : Cal P w K mg base k "check_word" st_check_word ps_check_word g_check_word) (C_reduced_word : Cal P w K mg base k "reduced_word" st_reduced_word ps_reduced_word g_reduced_word) : Cal P w K mg base (k + 1) "reduced" st_reduced ps_reduced (runD N_reduced (m_reduced g_check_word g_reduced_word)) :=
  cal_of D_reduced sc_reduced fun a cdv A outer s H E hr => have tk := takes_of (X := cxOf (L2.CX P w) P w K mg base N_reduced "reduced" (defScope st_reduced) a cdv A outer s H E) rfl rfl rfl rfl
  sss_cons (ss_expr (se_call C_check_word hr tk (sa_cons (se_var 0) (sa_nil)) (alen_cons alen_nil))) (
  sss_one (ss_ret (se_call C_reduced_word hr tk (sa_cons (se_var 0) (sa_nil)) (alen_cons alen_nil))))


/-! product -/
abbrev st_product : Stmt := topS 22
abbrev N_product : List Str := ["word", "other_word"]
abbrev ps_product : List Str := ["word", "other_word"]
theorem sc_product : FnScope N_product ps_product (defScope st_product) := ⟨rfl, rfl, rfl, by decide +kernel, rfl, by decide +kernel, by decide +kernel⟩
noncomputable def m_product (g_check_two_words g_reduced_word : Fn) : Sd :=
  sSeq (sExpr (eCall g_check_two_words (aCons (eVar 0) (aCons (eVar 1) (aNil))))) (
  sRet (eCall g_reduced_word (aCons (eBin addD (eVar 0) (eVar 1)) (aNil))))
theorem c_product{k : Nat}{g_check_two_words g_reduced_word : Fn} (T : Txt K mg) (D_product : Df K mg "product" st_product ps_product) (C_check_two_words : Cal P w K mg base k "check_two_words" st_check_two_words ps_check_two_words g_check_two_words) (C_reduced_word : Cal P w K mg base k "reduced_word" st_reduced_word ps_reduced_word g_reduced_word) : Cal P w K mg base (k + 1) "product" st_product ps_product (runD N_product (m_product g_check_two_words g_reduced_word)) :=
  cal_of D_product sc_product fun a cdv A outer s H E hr => have tk := takes_of (X := cxOf (L2.CX P w) P w K mg base N_product "product" (defScope st_product) a cdv A outer s H E) rfl rfl rfl rfl
  sss_cons (ss_expr (se_call C_check_two_words hr tk (sa_cons (se_var 0) (sa_cons (se_var 1) (sa_nil))) (alen_cons (alen_cons alen_nil)))) (
  sss_one (ss_ret (se_call C_reduced_word hr tk (sa_cons (se_add (se_var 0) (se_var 1)) (sa_nil)) (alen_cons alen_nil))))


/-! power -/
abbrev st_power : Stmt := topS 23
abbrev N_power : List Str := ["word", "n"]
abbrev ps_power : List Str := ["word", "n"]
theorem sc_power : FnScope N_power ps_power (defScope st_power) := ⟨rfl, rfl, rfl, by decide +kernel, rfl, by decide +kernel, by decide +kernel⟩
noncomputable def m_power (g_check_word g_check_number g_power_of : Fn) : Sd :=
  sSeq (sExpr (eCall g_check_word (aCons (eVar 0) (aNil)))) (
  sSeq (sExpr (eCall g_check_number (aCons (eVar 1) (aNil)))) (
  sRet (eCall g_power_of (aCons (eVar 0) (aCons (eVar 1) (aNil))))))
theorem c_power{k : Nat}{g_check_word g_check_number g_power_of : Fn} (T : Txt K mg) (D_power : Df K mg "power" st_power ps_power) (C_check_word : Cal P w K mg base k "check_word" st_check_word ps_check_word g_check_word) (C_check_number : Cal P w K mg base k "check_number" st_check_number ps_check_number g_check_number) (C_power_of : Cal P w K mg base k "power_of" st_power_of ps_power_of g_power_of) : Cal P w K mg base (k + 1) "power" st_power ps_power (runD N_power (m_power g_check_word g_check_number g_power_of)) :=
  cal_of D_power sc_power fun a cdv A outer s H E hr => have tk := takes_of (X := cxOf (L2.CX P w) P w K mg base N_power "power" (defScope st_power) a cdv A outer s H E) rfl rfl rfl rfl
  sss_cons (ss_expr (se_call C_check_word hr tk (sa_cons (se_var 0) (sa_nil)) (alen_cons alen_nil))) (
  sss_cons (ss_expr (se_call C_check_number hr tk (sa_cons (se_var 1) (sa_nil)) (alen_cons alen_nil))) (
  sss_one (ss_ret (se_call C_power_of hr tk (sa_cons (se_var 0) (sa_cons (se_var 1) (sa_nil))) (alen_cons (alen_cons alen_nil))))))


/-! is_less -/
abbrev st_is_less : Stmt := topS 24
abbrev N_is_less : List Str := ["word", "other_word"]
abbrev ps_is_less : List Str := ["word", "other_word"]
theorem sc_is_less : FnScope N_is_less ps_is_less (defScope st_is_less) := ⟨rfl, rfl, rfl, by decide +kernel, rfl, by decide +kernel, by decide +kernel⟩
noncomputable def m_is_less (g_check_two_words g_is_below : Fn) : Sd :=
  sSeq (sExpr (eCall g_check_two_words (aCons (eVar 0) (aCons (eVar 1) (aNil))))) (
  sRet (eCall g_is_below (aCons (eVar 0) (aCons (eVar 1) (aNil)))))
theorem c_is_less{k : Nat}{g_check_two_words g_is_below : Fn} (T : Txt K mg) (D_is_less : Df K mg "is_less" st_is_less ps_is_less) (C_check_two_words : Cal P w K mg base k "check_two_words" st_check_two_words ps_check_two_words g_check_two_words) (C_is_below : Cal P w K mg base k "is_below" st_is_below ps_is_below g_is_below) : Cal P w K mg base (k + 1) "is_less" st_is_less ps_is_less (runD N_is_less (m_is_less g_check_two_words g_is_below)) :=
  cal_of D_is_less sc_is_less fun a cdv A outer s H E hr => have tk := takes_of (X := cxOf (L2.CX P w) P w K mg base N_is_less "is_less" (defScope st_is_less) a cdv A outer s H E) rfl rfl rfl rfl
  sss_cons (ss_expr (se_call C_check_two_words hr tk (sa_cons (se_var 0) (sa_cons (se_var 1) (sa_nil))) (alen_cons (alen_cons alen_nil)))) (
  sss_one (ss_ret (se_call C_is_below hr tk (sa_cons (se_var 0) (sa_cons (se_var 1) (sa_nil))) (alen_cons (alen_cons alen_nil)))))


/-! _law_pool -/
abbrev st__law_pool : Stmt := topS 26
abbrev N__law_pool : List Str := ["cell"]
abbrev ps__law_pool : List Str := ["cell"]
theorem sc__law_pool : FnScope N__law_pool ps__law_pool (defScope st__law_pool) := ⟨rfl, rfl, rfl, by decide +kernel, rfl, by decide +kernel, by decide +kernel⟩
noncomputable def m__law_pool : Sd :=
  sSeq (sSet 0 (eCb toInt (aCons (eVar 0) (aNil)))) (
  sRet (eLst (aCons (eCb max2D (aCons (eC (.int 0)) (aCons (eBin subD (eVar 0) (eBin powD (eC (.int 10)) (eC (.int 24)))) (aNil)))) (aCons (eBin modD (eCb toInt (aCons (eBin addD (eBin mulD (eVar 0) (eC (.int 6364136223))) (eC (.int 1442695))) (aNil))) (eC (.int 2305843009213693951))) (aCons (eC (.int 1)) (aNil))))))
theorem c__law_pool{k : Nat}(T : Txt K mg) (D__law_pool : Df K mg "_law_pool" st__law_pool ps__law_pool) : Cal P w K mg base (k + 1) "_law_pool" st__law_pool ps__law_pool (runD N__law_pool m__law_pool) :=
  cal_of D__law_pool sc__law_pool fun a cdv A outer s H E hr => have tk := takes_of (X := cxOf (L2.CX P w) P w K mg base N__law_pool "_law_pool" (defScope st__law_pool) a cdv A outer s H E) rfl rfl rfl rfl
  sss_cons (ss_set 0 sc__law_pool.nd (se_int' T.n_int (sa_cons (se_var 0) (sa_nil)))) (
  sss_one (ss_ret (se_lst (sa_cons (se_max2 T.n_max (sa_cons (se_int) (sa_cons (se_sub (se_var 0) (se_pow (se_int) (se_int))) (sa_nil)))) (sa_cons (se_mod (se_int' T.n_int (sa_cons (se_add (se_mul (se_var 0) (se_int)) (se_int)) (sa_nil))) (se_int)) (sa_cons (se_int) (sa_nil)))))))


/-! _law_next -/
abbrev st__law_next : Stmt := topS 27
abbrev N__law_next : List Str := ["pool", "many", "found"]
abbrev ps__law_next : List Str := ["pool", "many"]
theorem sc__law_next : FnScope N__law_next ps__law_next (defScope st__law_next) := ⟨rfl, rfl, rfl, by decide +kernel, rfl, by decide +kernel, by decide +kernel⟩
noncomputable def m__law_next : Sd :=
  sSeq (sSetIx (eVar 0) (eC (.int 2)) (eBin addD (eBin ixD (eVar 0) (eC (.int 2))) (eC (.int 1)))) (
  sSeq (sIf (tB1 (eBin gtG (eBin ixD (eVar 0) (eC (.int 0))) (eC (.int 0)))) (sSeq (sSet 2 (eBin modD (eCb toInt (aCons (eBin ixD (eVar 0) (eC (.int 0))) (aNil))) (eVar 1))) (
   sSeq (sSetIx (eVar 0) (eC (.int 0)) (eBin fdivD (eCb toInt (aCons (eBin ixD (eVar 0) (eC (.int 0))) (aNil))) (eVar 1))) (
   sRet (eVar 2)))) (sSkip)) (
  sSeq (sSetIx (eVar 0) (eC (.int 1)) (eBin modD (eCb toInt (aCons (eBin addD (eBin addD (eBin mulD (eBin ixD (eVar 0) (eC (.int 1))) (eC (.int 48271131))) (eBin mulD (eBin mulD (eBin ixD (eVar 0) (eC (.int 2))) (eBin ixD (eVar 0) (eC (.int 2)))) (eC (.int 65537)))) (eC (.int 9176))) (aNil))) (eC (.int 2305843009213693951)))) (
  sRet (eBin modD (eBin fdivD (eCb toInt (aCons (eBin ixD (eVar 0) (eC (.int 1))) (aNil))) (eC (.int 524288))) (eVar 1)))))
theorem c__law_next{k : Nat}(T : Txt K mg) (D__law_next : Df K mg "_law_next" st__law_next ps__law_next) : Cal P w K mg base (k + 1) "_law_next" st__law_next ps__law_next (runD N__law_next m__law_next) :=
  cal_of D__law_next sc__law_next fun a cdv A outer s H E hr => have tk := takes_of (X := cxOf (L2.CX P w) P w K mg base N__law_next "_law_next" (defScope st__law_next) a cdv A outer s H E) rfl rfl rfl rfl
  sss_cons (ss_setIx (se_add (se_ix (se_var 0) (se_int)) (se_int)) (se_var 0) (se_int) (fun _ => rfl)) (
  sss_cons (ss_if (st_gt hr.units (se_ix (se_var 0) (se_int)) (se_int)) (sss_cons (ss_set 2 sc__law_next.nd (se_mod (se_int' T.n_int (sa_cons (se_ix (se_var 0) (se_int)) (sa_nil))) (se_var 1))) (
   sss_cons (ss_setIx (se_fdiv (se_int' T.n_int (sa_cons (se_ix (se_var 0) (se_int)) (sa_nil))) (se_var 1)) (se_var 0) (se_int) (fun _ => rfl)) (
   sss_one (ss_ret (se_var 2))))) (sss_nil)) (
  sss_cons (ss_setIx (se_mod (se_int' T.n_int (sa_cons (se_add (se_add (se_mul (se_ix (se_var 0) (se_int)) (se_int)) (se_mul (se_mul (se_ix (se_var 0) (se_int)) (se_ix (se_var 0) (se_int))) (se_int))) (se_int)) (sa_nil))) (se_int)) (se_var 0) (se_int) (fun _ => rfl)) (
  sss_one (ss_ret (se_mod (se_fdiv (se_int' T.n_int (sa_cons (se_ix (se_var 0) (se_int)) (sa_nil))) (se_int)) (se_var 1))))))


/-! _law_one_of -/
abbrev st__law_one_of : Stmt := topS 28
abbrev N__law_one_of : List Str := ["pool", "row"]
abbrev ps__law_one_of : List Str := ["pool", "row"]
theorem sc__law_one_of : FnScope N__law_one_of ps__law_one_of (defScope st__law_one_of) := ⟨rfl, rfl, rfl, by decide +kernel, rfl, by decide +kernel, by decide +kernel⟩
noncomputable def m__law_one_of (g__law_next : Fn) : Sd :=
  sRet (eBin ixD (eVar 1) (eCall g__law_next (aCons (eVar 0) (aCons (eCb lenD (aCons (eVar 1) (aNil))) (aNil)))))
theorem c__law_one_of{k : Nat}{g__law_next : Fn} (T : Txt K mg) (D__law_one_of : Df K mg "_law_one_of" st__law_one_of ps__law_one_of) (C__law_next : Cal P w K mg base k "_law_next" st__law_next ps__law_next g__law_next) : Cal P w K mg base (k + 1) "_law_one_of" st__law_one_of ps__law_one_of (runD N__law_one_of (m__law_one_of g__law_next)) :=
  cal_of D__law_one_of sc__law_one_of fun a cdv A outer s H E hr => have tk := takes_of (X := cxOf (L2.CX P w) P w K mg base N__law_one_of "_law_one_of" (defScope st__law_one_of) a cdv A outer s H E) rfl rfl rfl rfl
  sss_one (ss_ret (se_ix (se_var 1) (se_call C__law_next hr tk (sa_cons (se_var 0) (sa_cons (se_len T.n_len (sa_cons (se_var 1) (sa_nil))) (sa_nil))) (alen_cons (alen_cons alen_nil)))))


/-! _law_same -/
abbrev st__law_same : Stmt := topS 29
abbrev N__law_same : List Str := ["found", "due", "k"]
abbrev ps__law_same : List Str := ["found", "due"]
theorem sc__law_same : FnScope N__law_same ps__law_same (defScope st__law_same) := ⟨rfl, rfl, rfl, by decide +kernel, rfl, by decide +kernel, by decide +kernel⟩
noncomputable def m__law_same (g__law_same : Fn) : Sd :=
  sSeq (sIf (tOrG (tB1 (eIsi .tup (eVar 1))) (tB1 (eIsi .lst (eVar 1)))) (sSeq (sIf (tOrG (tB1 (eBin neG (eIsi .tup (eVar 0)) (eIsi .tup (eVar 1)))) (tB1 (eBin neG (eIsi .lst (eVar 0)) (eIsi .lst (eVar 1))))) (sRet (eC (.bl false))) (sSkip)) (
   sRet (eAndG (eBin eqG (eCb lenD (aCons (eVar 0) (aNil))) (eCb lenD (aCons (eVar 1) (aNil)))) (eCb allD (aCons (eComp [2] (.name 2) (iRange1 (aCons (eCb lenD (aCons (eVar 1) (aNil))) (aNil))) (cYes) (eCall g__law_same (aCons (eBin ixD (eVar 0) (eVar 2)) (aCons (eBin ixD (eVar 1) (eVar 2)) (aNil))))) (aNil)))))) (sSkip)) (
  sSeq (sIf (tB1 (eBin isD (eVar 1) (eC .non))) (sRet (eBin isD (eVar 0) (eC .non))) (sSkip)) (
  sSeq (sIf (tB1 (eIsi .bl (eVar 1))) (sRet (eAndG (eIsi .bl (eVar 0)) (eBin eqG (eVar 0) (eVar 1)))) (sSkip)) (
  sSeq (sIf (tB1 (eIsi .int (eVar 1))) (sRet (eAndG (eIsi .int (eVar 0)) (eAndG (eNotG (eIsi .bl (eVar 0))) (eBin eqG (eVar 0) (eVar 1))))) (sSkip)) (
  sRet (eAndG (eIsi .str (eVar 0)) (eBin eqG (eVar 0) (eVar 1)))))))
theorem c__law_same{k : Nat}{g__law_same : Fn} (T : Txt K mg) (D__law_same : Df K mg "_law_same" st__law_same ps__law_same) (C__law_same : Cal P w K mg base k "_law_same" st__law_same ps__law_same g__law_same) : Cal P w K mg base (k + 1) "_law_same" st__law_same ps__law_same (runD N__law_same (m__law_same g__law_same)) :=
  cal_of D__law_same sc__law_same fun a cdv A outer s H E hr => have tk := takes_of (X := cxOf (L2.CX P w) P w K mg base N__law_same "_law_same" (defScope st__law_same) a cdv A outer s H E) rfl rfl rfl rfl
  sss_cons (ss_if (st_w (sw_or (st_val (se_isi .tup T.n_isinstance T.n_tuple (se_var 1))) (sw_or1 (st_val (se_isi .lst T.n_isinstance T.n_list (se_var 1)))))) (sss_cons (ss_if (st_w (sw_or (st_ne hr.units (se_isi .tup T.n_isinstance T.n_tuple (se_var 0)) (se_isi .tup T.n_isinstance T.n_tuple (se_var 1))) (sw_or1 (st_ne hr.units (se_isi .lst T.n_isinstance T.n_list (se_var 0)) (se_isi .lst T.n_isinstance T.n_list (se_var 1)))))) (sss_one (ss_ret (se_bl))) (sss_nil)) (
   sss_one (ss_ret (se_and (se_eq hr.units (se_len T.n_len (sa_cons (se_var 0) (sa_nil))) (se_len T.n_len (sa_cons (se_var 1) (sa_nil)))) (se_one (se_all T.n_all (sa_cons (se_comp [("k", 2)] (.name 2) sc__law_same.nd (si_range1 T.n_range (sa_cons (se_len T.n_len (sa_cons (se_var 1) (sa_nil))) (sa_nil))) (blkOk_by rfl) (fun _ _ _ _ _ => sg_name 2 sc__law_same.nd) (fun _ _ _ _ _ => sts_nil) (fun _ _ _ _ _ => se_call C__law_same hr takes0 (sa_cons (se_ix (se_var 0) (se_var 2)) (sa_cons (se_ix (se_var 1) (se_var 2)) (sa_nil))) (alen_cons (alen_cons alen_nil)))) (sa_nil)))))))) (sss_nil)) (
  sss_cons (ss_if (st_is (se_var 1) (se_non)) (sss_one (ss_ret (se_is (se_var 0) (se_non)))) (sss_nil)) (
  sss_cons (ss_if (st_val (se_isi .bl T.n_isinstance T.n_bool (se_var 1))) (sss_one (ss_ret (se_and (se_isi .bl T.n_isinstance T.n_bool (se_var 0)) (se_one (se_eq hr.units (se_var 0) (se_var 1)))))) (sss_nil)) (
  sss_cons (ss_if (st_val (se_isi .int T.n_isinstance T.n_int (se_var 1))) (sss_one (ss_ret (se_and (se_isi .int T.n_isinstance T.n_int (se_var 0)) (se_and (se_not (se_isi .bl T.n_isinstance T.n_bool (se_var 0))) (se_one (se_eq hr.units (se_var 0) (se_var 1))))))) (sss_nil)) (
  sss_one (ss_ret (se_and (se_isi .str T.n_isinstance T.n_str (se_var 0)) (se_one (se_eq hr.units (se_var 0) (se_var 1)))))))))


/-! _law_odd -/
abbrev st__law_odd : Stmt := topS 30
abbrev N__law_odd : List Str := []
abbrev ps__law_odd : List Str := []
theorem sc__law_odd : FnScope N__law_odd ps__law_odd (defScope st__law_odd) := ⟨rfl, rfl, rfl, by decide +kernel, rfl, by decide +kernel, by decide +kernel⟩
noncomputable def m__law_odd : Sd :=
  sRet (eLst (aCons (eC .non) (aCons (eC (.bl true)) (aCons (eC (.bl false)) (aCons (eC (.int 0)) (aCons (eC (.int 1)) (aCons (eNeg (eC (.int 1))) (aCons (eC (.int 2)) (aCons (eC (.str [])) (aCons (eC (.str [97])) (aCons (eC (.str [65])) (aCons (eC (.str [97, 98])) (aCons (eC (.str [101])) (aCons (eC (.str [111, 110])) (aCons (eC (.str [98, 97, 99, 107])) (aCons (eC (.str [99, 117, 116])) (aCons (eTup (aNil)) (aCons (eLst (aNil)) (aCons (eDct0) (aCons (eTup (aCons (eTup (aNil)) (aNil))) (aCons (eTup (aCons (eC (.int 0)) (aNil))) (aCons (eTup (aCons (eC (.str [])) (aNil))) (aCons (eTup (aCons (eC (.str [97])) (aNil))) (aCons (eTup (aCons (eC (.str [])) (aCons (eC (.str [])) (aNil)))) (aCons (eTup (aCons (eC (.int 0)) (aCons (eC (.int 0)) (aNil)))) (aCons (eTup (aCons (eC (.str [99, 117, 116])) (aCons (eC (.int 0)) (aNil)))) (aCons (eTup (aCons (eC (.str [112, 117, 116])) (aCons (eC (.int 0)) (aCons (eC (.str [97])) (aNil))))) (aCons (eTup (aCons (eTup (aCons (eC (.str [97])) (aCons (eC (.int 0)) (aNil)))) (aNil))) (aCons (eC (.int 77)) (aNil))))))))))))))))))))))))))))))
theorem c__law_odd{k : Nat}(T : Txt K mg) (D__law_odd : Df K mg "_law_odd" st__law_odd ps__law_odd) : Cal P w K mg base (k + 1) "_law_odd" st__law_odd ps__law_odd (runD N__law_odd m__law_odd) :=
  cal_of D__law_odd sc__law_odd fun a cdv A outer s H E hr => have tk := takes_of (X := cxOf (L2.CX P w) P w K mg base N__law_odd "_law_odd" (defScope st__law_odd) a cdv A outer s H E) rfl rfl rfl rfl
  sss_one (ss_ret (se_lst (sa_cons (se_non) (sa_cons (se_bl) (sa_cons (se_bl) (sa_cons (se_int) (sa_cons (se_int) (sa_cons (se_neg (se_int)) (sa_cons (se_int) (sa_cons (se_str []) (sa_cons (se_str [97]) (sa_cons (se_str [65]) (sa_cons (se_str [97, 98]) (sa_cons (se_str [101]) (sa_cons (se_str [111, 110]) (sa_cons (se_str [98, 97, 99, 107]) (sa_cons (se_str [99, 117, 116]) (sa_cons (se_tup (sa_nil)) (sa_cons (se_lst (sa_nil)) (sa_cons (se_dct0) (sa_cons (se_tup (sa_cons (se_tup (sa_nil)) (sa_nil))) (sa_cons (se_tup (sa_cons (se_int) (sa_nil))) (sa_cons (se_tup (sa_cons (se_str []) (sa_nil))) (sa_cons (se_tup (sa_cons (se_str [97]) (sa_nil))) (sa_cons (se_tup (sa_cons (se_str []) (sa_cons (se_str []) (sa_nil)))) (sa_cons (se_tup (sa_cons (se_int) (sa_cons (se_int) (sa_nil)))) (sa_cons (se_tup (sa_cons (se_str [99, 117, 116]) (sa_cons (se_int) (sa_nil)))) (sa_cons (se_tup (sa_cons (se_str [112, 117, 116]) (sa_cons (se_int) (sa_cons (se_str [97]) (sa_nil))))) (sa_cons (se_tup (sa_cons (se_tup (sa_cons (se_str [97]) (sa_cons (se_int) (sa_nil)))) (sa_nil))) (sa_cons (se_int) (sa_nil)))))))))))))))))))))))))))))))


/-! _law_inverse -/
abbrev st__law_inverse : Stmt := topS 31
abbrev N__law_inverse : List Str := ["word", "letter"]
abbrev ps__law_inverse : List Str := ["word"]
theorem sc__law_inverse : FnScope N__law_inverse ps__law_inverse (defScope st__law_inverse) := ⟨rfl, rfl, rfl, by decide +kernel, rfl, by decide +kernel, by decide +kernel⟩
noncomputable def m__law_inverse : Sd :=
  sRet (eMs joinM (eC (.str [])) (aCons (eComp [1] (.name 1) (iSeq (eRev (eVar 0))) (cYes) (eBin ixD (eC (.str [97, 65, 98, 66, 99, 67, 100, 68])) (eMs indexM (eC (.str [65, 97, 66, 98, 67, 99, 68, 100])) (aCons (eVar 1) (aNil))))) (aNil)))
theorem c__law_inverse{k : Nat}(T : Txt K mg) (D__law_inverse : Df K mg "_law_inverse" st__law_inverse ps__law_inverse) : Cal P w K mg base (k + 1) "_law_inverse" st__law_inverse ps__law_inverse (runD N__law_inverse m__law_inverse) :=
  cal_of D__law_inverse sc__law_inverse fun a cdv A outer s H E hr => have tk := takes_of (X := cxOf (L2.CX P w) P w K mg base N__law_inverse "_law_inverse" (defScope st__law_inverse) a cdv A outer s H E) rfl rfl rfl rfl
  sss_one (ss_ret (se_join (se_str []) (sa_cons (se_comp [("letter", 1)] (.name 1) sc__law_inverse.nd (si_seq (se_rev (se_var 0))) (blkOk_by rfl) (fun _ _ _ _ _ => sg_name 1 sc__law_inverse.nd) (fun _ _ _ _ _ => sts_nil) (fun _ _ _ _ _ => se_ix (se_str [97, 65, 98, 66, 99, 67, 100, 68]) (se_index (se_str [65, 97, 66, 98, 67, 99, 68, 100]) (sa_cons (se_var 1) (sa_nil))))) (sa_nil))))


/-! _law_reduced -/
abbrev st__law_reduced : Stmt := topS 32
abbrev N__law_reduced : List Str := ["word", "found", "letter"]
abbrev ps__law_reduced : List Str := ["word"]
theorem sc__law_reduced : FnScope N__law_reduced ps__law_reduced (defScope st__law_reduced) := ⟨rfl, rfl, rfl, by decide +kernel, rfl, by decide +kernel, by decide +kernel⟩
noncomputable def m__law_reduced (g__law_inverse : Fn) : Sd :=
  sSeq (sSet 1 (eLst (aNil))) (
  sSeq (sFor [2] (.name 2) (iSeq (eVar 0)) (sIf (tAndG (tB1 (eBin neG (eVar 1) (eLst (aNil)))) (tB1 (eBin eqG (eBin ixD (eVar 1) (eNeg (eC (.int 1)))) (eCall g__law_inverse (aCons (eVar 2) (aNil)))))) (sExpr (eMl popM (eVar 1) aNil)) (sExpr (eMl appendM (eVar 1) (aCons (eVar 2) (aNil)))))) (
  sRet (eMs joinM (eC (.str [])) (aCons (eVar 1) (aNil)))))
theorem c__law_reduced{k : Nat}{g__law_inverse : Fn} (T : Txt K mg) (D__law_reduced : Df K mg "_law_reduced" st__law_reduced ps__law_reduced) (C__law_inverse : Cal P w K mg base k "_law_inverse" st__law_inverse ps__law_inverse g__law_inverse) : Cal P w K mg base (k + 1) "_law_reduced" st__law_reduced ps__law_reduced (runD N__law_reduced (m__law_reduced g__law_inverse)) :=
  cal_of D__law_reduced sc__law_reduced fun a cdv A outer s H E hr => have tk := takes_of (X := cxOf (L2.CX P w) P w K mg base N__law_reduced "_law_reduced" (defScope st__law_reduced) a cdv A outer s H E) rfl rfl rfl rfl
  sss_cons (ss_set 1 sc__law_reduced.nd (se_lst (sa_nil))) (
  sss_cons (ss_for [2] (passes_of rfl) (si_seq (se_var 0)) (sg_name 2 sc__law_reduced.nd) (sss_one (ss_if (st_w (sw_and (st_ne hr.units (se_var 1) (se_lst (sa_nil))) (sw_and1 (st_eq hr.units (se_ix (se_var 1) (se_neg (se_int))) (se_call C__law_inverse hr tk (sa_cons (se_var 2) (sa_nil)) (alen_cons alen_nil)))))) (sss_one (ss_expr (se_pop (se_var 1)))) (sss_one (ss_expr (se_append (se_var 1) (sa_cons (se_var 2) (sa_nil)))))))) (
  sss_one (ss_ret (se_join (se_str []) (sa_cons (se_var 1) (sa_nil))))))


/-! _law_key -/
abbrev st__law_key : Stmt := topS 33
abbrev N__law_key : List Str := ["word", "letter"]
abbrev ps__law_key : List Str := ["word"]
theorem sc__law_key : FnScope N__law_key ps__law_key (defScope st__law_key) := ⟨rfl, rfl, rfl, by decide +kernel, rfl, by decide +kernel, by decide +kernel⟩
noncomputable def m__law_key : Sd :=
  sRet (eTup (aCons (eCb lenD (aCons (eVar 0) (aNil))) (aCons (eComp [1] (.name 1) (iSeq (eVar 0)) (cYes) (eMs indexM (eC (.str [97, 65, 98, 66, 99, 67, 100, 68])) (aCons (eVar 1) (aNil)))) (aNil))))
theorem c__law_key{k : Nat}(T : Txt K mg) (D__law_key : Df K mg "_law_key" st__law_key ps__law_key) : Cal P w K mg base (k + 1) "_law_key" st__law_key ps__law_key (runD N__law_key m__law_key) :=
  cal_of D__law_key sc__law_key fun a cdv A outer s H E hr => have tk := takes_of (X := cxOf (L2.CX P w) P w K mg base N__law_key "_law_key" (defScope st__law_key) a cdv A outer s H E) rfl rfl rfl rfl
  sss_one (ss_ret (se_tup (sa_cons (se_len T.n_len (sa_cons (se_var 0) (sa_nil))) (sa_cons (se_comp [("letter", 1)] (.name 1) sc__law_key.nd (si_seq (se_var 0)) (blkOk_by rfl) (fun _ _ _ _ _ => sg_name 1 sc__law_key.nd) (fun _ _ _ _ _ => sts_nil) (fun _ _ _ _ _ => se_index (se_str [97, 65, 98, 66, 99, 67, 100, 68]) (sa_cons (se_var 1) (sa_nil)))) (sa_nil)))))


/-! _law_less -/
abbrev st__law_less : Stmt := topS 34
abbrev N__law_less : List Str := ["word", "other"]
abbrev ps__law_less : List Str := ["word", "other"]
theorem sc__law_less : FnScope N__law_less ps__law_less (defScope st__law_less) := ⟨rfl, rfl, rfl, by decide +kernel, rfl, by decide +kernel, by decide +kernel⟩
noncomputable def m__law_less (g__law_key : Fn) : Sd :=
  sRet (eBin ltG (eCall g__law_key (aCons (eVar 0) (aNil))) (eCall g__law_key (aCons (eVar 1) (aNil))))
theorem c__law_less{k : Nat}{g__law_key : Fn} (T : Txt K mg) (D__law_less : Df K mg "_law_less" st__law_less ps__law_less) (C__law_key : Cal P w K mg base k "_law_key" st__law_key ps__law_key g__law_key) : Cal P w K mg base (k + 1) "_law_less" st__law_less ps__law_less (runD N__law_less (m__law_less g__law_key)) :=
  cal_of D__law_less sc__law_less fun a cdv A outer s H E hr => have tk := takes_of (X := cxOf (L2.CX P w) P w K mg base N__law_less "_law_less" (defScope st__law_less) a cdv A outer s H E) rfl rfl rfl rfl
  sss_one (ss_ret (se_lt hr.units (se_call C__law_key hr tk (sa_cons (se_var 0) (sa_nil)) (alen_cons alen_nil)) (se_call C__law_key hr tk (sa_cons (se_var 1) (sa_nil)) (alen_cons alen_nil))))


/-! _law_word -/
abbrev st__law_word : Stmt := topS 35
abbrev N__law_word : List Str := ["pool", "every", "most", "k"]
abbrev ps__law_word : List Str := ["pool", "every", "most"]
theorem sc__law_word : FnScope N__law_word ps__law_word (defScope st__law_word) := ⟨rfl, rfl, rfl, by decide +kernel, rfl, by decide +kernel, by decide +kernel⟩
noncomputable def m__law_word (g__law_next g__law_one_of : Fn) : Sd :=
  sRet (eMs joinM (eC (.str [])) (aCons (eComp [3] (.name 3) (iRange1 (aCons (eCall g__law_next (aCons (eVar 0) (aCons (eBin addD (eVar 2) (eC (.int 1))) (aNil)))) (aNil))) (cYes) (eCall g__law_one_of (aCons (eVar 0) (aCons (eVar 1) (aNil))))) (aNil)))
theorem c__law_word{k : Nat}{g__law_next g__law_one_of : Fn} (T : Txt K mg) (D__law_word : Df K mg "_law_word" st__law_word ps__law_word) (C__law_next : Cal P w K mg base k "_law_next" st__law_next ps__law_next g__law_next) (C__law_one_of : Cal P w K mg base k "_law_one_of" st__law_one_of ps__law_one_of g__law_one_of) : Cal P w K mg base (k + 1) "_law_word" st__law_word ps__law_word (runD N__law_word (m__law_word g__law_next g__law_one_of)) :=
  cal_of D__law_word sc__law_word fun a cdv A outer s H E hr => have tk := takes_of (X := cxOf (L2.CX P w) P w K mg base N__law_word "_law_word" (defScope st__law_word) a cdv A outer s H E) rfl rfl rfl rfl
  sss_one (ss_ret (se_join (se_str []) (sa_cons (se_comp [("k", 3)] (.name 3) sc__law_word.nd (si_range1 T.n_range (sa_cons (se_call C__law_next hr tk (sa_cons (se_var 0) (sa_cons (se_add (se_var 2) (se_int)) (sa_nil))) (alen_cons (alen_cons alen_nil))) (sa_nil))) (blkOk_by rfl) (fun _ _ _ _ _ => sg_name 3 sc__law_word.nd) (fun _ _ _ _ _ => sts_nil) (fun _ _ _ _ _ => se_call C__law_one_of hr takes0 (sa_cons (se_var 0) (sa_cons (se_var 1) (sa_nil))) (alen_cons (alen_cons alen_nil)))) (sa_nil))))


/-! _law_is_word -/
abbrev st__law_is_word : Stmt := topS 36
abbrev N__law_is_word : List Str := ["value", "every", "letter"]
abbrev ps__law_is_word : List Str := ["value", "every"]
theorem sc__law_is_word : FnScope N__law_is_word ps__law_is_word (defScope st__law_is_word) := ⟨rfl, rfl, rfl, by decide +kernel, rfl, by decide +kernel, by decide +kernel⟩
noncomputable def m__law_is_word : Sd :=
  sRet (eAndG (eIsi .str (eVar 0)) (eCb allD (aCons (eComp [2] (.name 2) (iSeq (eVar 0)) (cYes) (eBin inD (eVar 2) (eVar 1))) (aNil))))
theorem c__law_is_word{k : Nat}(T : Txt K mg) (D__law_is_word : Df K mg "_law_is_word" st__law_is_word ps__law_is_word) : Cal P w K mg base (k + 1) "_law_is_word" st__law_is_word ps__law_is_word (runD N__law_is_word m__law_is_word) :=
  cal_of D__law_is_word sc__law_is_word fun a cdv A outer s H E hr => have tk := takes_of (X := cxOf (L2.CX P w) P w K mg base N__law_is_word "_law_is_word" (defScope st__law_is_word) a cdv A outer s H E) rfl rfl rfl rfl
  sss_one (ss_ret (se_and (se_isi .str T.n_isinstance T.n_str (se_var 0)) (se_one (se_all T.n_all (sa_cons (se_comp [("letter", 2)] (.name 2) sc__law_is_word.nd (si_seq (se_var 0)) (blkOk_by rfl) (fun _ _ _ _ _ => sg_name 2 sc__law_is_word.nd) (fun _ _ _ _ _ => sts_nil) (fun _ _ _ _ _ => se_in (se_var 2) (se_var 1))) (sa_nil))))))


/-! _law_power -/
abbrev st__law_power : Stmt := topS 37
abbrev N__law_power : List Str := ["word", "n"]
abbrev ps__law_power : List Str := ["word", "n"]
theorem sc__law_power : FnScope N__law_power ps__law_power (defScope st__law_power) := ⟨rfl, rfl, rfl, by decide +kernel, rfl, by decide +kernel, by decide +kernel⟩
noncomputable def m__law_power (g__law_reduced g__law_inverse : Fn) : Sd :=
  sRet (eCall g__law_reduced (aCons (eIfG (tB1 (eBin geG (eVar 1) (eC (.int 0)))) (eBin mulD (eVar 0) (eVar 1)) (eBin mulD (eCall g__law_inverse (aCons (eVar 0) (aNil))) (eNeg (eVar 1)))) (aNil)))
theorem c__law_power{k : Nat}{g__law_reduced g__law_inverse : Fn} (T : Txt K mg) (D__law_power : Df K mg "_law_power" st__law_power ps__law_power) (C__law_reduced : Cal P w K mg base k "_law_reduced" st__law_reduced ps__law_reduced g__law_reduced) (C__law_inverse : Cal P w K mg base k "_law_inverse" st__law_inverse ps__law_inverse g__law_inverse) : Cal P w K mg base (k + 1) "_law_power" st__law_power ps__law_power (runD N__law_power (m__law_power g__law_reduced g__law_inverse)) :=
  cal_of D__law_power sc__law_power fun a cdv A outer s H E hr => have tk := takes_of (X := cxOf (L2.CX P w) P w K mg base N__law_power "_law_power" (defScope st__law_power) a cdv A outer s H E) rfl rfl rfl rfl
  sss_one (ss_ret (se_call C__law_reduced hr tk (sa_cons (se_ifExp (st_ge hr.units (se_var 1) (se_int)) (se_mul (se_var 0) (se_var 1)) (se_mul (se_call C__law_inverse hr tk (sa_cons (se_var 0) (sa_nil)) (alen_cons alen_nil)) (se_neg (se_var 1)))) (sa_nil)) (alen_cons alen_nil)))


/-! _law_left -/
abbrev st__law_left : Stmt := topS 38
abbrev N__law_left : List Str := ["pool", "word", "turn", "some", "k"]
abbrev ps__law_left : List Str := ["pool", "word"]
theorem sc__law_left : FnScope N__law_left ps__law_left (defScope st__law_left) := ⟨rfl, rfl, rfl, by decide +kernel, rfl, by decide +kernel, by decide +kernel⟩
noncomputable def m__law_left (g__law_inverse g__law_one_of : Fn) : Sd :=
  sSeq (sFor [2, 3, 4] (.name 2) (iRange1 (aCons (eCb lenD (aCons (eVar 1) (aNil))) (aNil))) (sSeq (sSet 3 (eComp [4] (.name 4) (iRange1 (aCons (eBin subD (eCb lenD (aCons (eVar 1) (aNil))) (eC (.int 1))) (aNil))) (tB1 (eBin eqG (eBin ixD (eVar 1) (eBin addD (eVar 4) (eC (.int 1)))) (eCall g__law_inverse (aCons (eBin ixD (eVar 1) (eVar 4)) (aNil))))) (eVar 4))) (
   sSeq (sIf (tB1 (eBin eqG (eVar 3) (eLst (aNil)))) (sBreak) (sSkip)) (
   sSeq (sSet 4 (eCall g__law_one_of (aCons (eVar 0) (aCons (eVar 3) (aNil))))) (
   sSet 1 (eBin addD (eSl (eVar 1) (oNone) (oSome (eVar 4))) (eSl (eVar 1) (oSome (eBin addD (eVar 4) (eC (.int 2)))) (oNone)))))))) (
  sRet (eVar 1))
theorem c__law_left{k : Nat}{g__law_inverse g__law_one_of : Fn} (T : Txt K mg) (D__law_left : Df K mg "_law_left" st__law_left ps__law_left) (C__law_inverse : Cal P w K mg base k "_law_inverse" st__law_inverse ps__law_inverse g__law_inverse) (C__law_one_of : Cal P w K mg base k "_law_one_of" st__law_one_of ps__law_one_of g__law_one_of) : Cal P w K mg base (k + 1) "_law_left" st__law_left ps__law_left (runD N__law_left (m__law_left g__law_inverse g__law_one_of)) :=
  cal_of D__law_left sc__law_left fun a cdv A outer s H E hr => have tk := takes_of (X := cxOf (L2.CX P w) P w K mg base N__law_left "_law_left" (defScope st__law_left) a cdv A outer s H E) rfl rfl rfl rfl
  sss_cons (ss_for [2, 3, 4] (passes_of rfl) (si_range1 T.n_range (sa_cons (se_len T.n_len (sa_cons (se_var 1) (sa_nil))) (sa_nil))) (sg_name 2 sc__law_left.nd) (sss_cons (ss_setComp 3 [("k", 4)] (.name 4) sc__law_left.nd (si_range1 T.n_range (sa_cons (se_sub (se_len T.n_len (sa_cons (se_var 1) (sa_nil))) (se_int)) (sa_nil))) (blkOk_by rfl) (fun _ _ _ _ _ => sg_name 4 sc__law_left.nd) (fun _ _ _ _ _ => sts_one (st_eq hr.units (se_ix (se_var 1) (se_add (se_var 4) (se_int))) (se_call C__law_inverse hr takes0 (sa_cons (se_ix (se_var 1) (se_var 4)) (sa_nil)) (alen_cons alen_nil)))) (fun _ _ _ _ _ => se_var 4) (sw_true rfl rfl rfl rfl)) (
   sss_cons (ss_if (st_eq hr.units (se_var 3) (se_lst (sa_nil))) (sss_one (ss_break)) (sss_nil)) (
   sss_cons (ss_set 4 sc__law_left.nd (se_call C__law_one_of hr tk (sa_cons (se_var 0) (sa_cons (se_var 3) (sa_nil))) (alen_cons (alen_cons alen_nil)))) (
   sss_one (ss_set 1 sc__law_left.nd (se_add (se_sl (se_var 1) (so_none) (so_some (se_var 4))) (se_sl (se_var 1) (so_some (se_add (se_var 4) (se_int))) (so_none))))))))) (
  sss_one (ss_ret (se_var 1)))


/-! _law_laid_right -/
abbrev st__law_laid_right : Stmt := topS 39
abbrev N__law_laid_right : List Str := ["pool", "words", "word", "one", "left", "other"]
abbrev ps__law_laid_right : List Str := ["pool", "words"]
theorem sc__law_laid_right : FnScope N__law_laid_right ps__law_laid_right (defScope st__law_laid_right) := ⟨rfl, rfl, rfl, by decide +kernel, rfl, by decide +kernel, by decide +kernel⟩
noncomputable def m__law_laid_right (g__law_left g__law_same g__law_inverse g_inverse g_reduced g__law_reduced g__law_less g_is_less g_product : Fn) : Sd :=
  sSeq (sFor [2, 4] (.name 2) (iSeq (eVar 1)) (sSeq (sSet 4 (eCall g__law_left (aCons (eVar 0) (aCons (eVar 2) (aNil))))) (
   sSeq (sIf (tNotG (tB1 (eCall g__law_same (aCons (eLst (aCons (eCall g_inverse (aCons (eVar 2) (aNil))) (aCons (eCall g_reduced (aCons (eVar 2) (aNil))) (aCons (eCallK g_reduced 0 1 aNil (aCons (eVar 4) (aNil))) (aCons (eCall g_inverse (aCons (eCall g_inverse (aCons (eVar 2) (aNil))) (aNil))) (aNil)))))) (aCons (eLst (aCons (eCall g__law_inverse (aCons (eVar 2) (aNil))) (aCons (eVar 4) (aCons (eVar 4) (aCons (eVar 2) (aNil)))))) (aNil)))))) (sRet (eC (.bl false))) (sSkip)) (
   sIf (tOrG (tB1 (eBin neG (eVar 4) (eCall g__law_reduced (aCons (eVar 2) (aNil))))) (tB1 (eBin neG (eCall g_reduced (aCons (eCall g_inverse (aCons (eVar 2) (aNil))) (aNil))) (eCall g_inverse (aCons (eCall g_reduced (aCons (eVar 2) (aNil))) (aNil)))))) (sRet (eC (.bl false))) (sSkip))))) (
  sSeq (sFor [3, 5] (.name 3) (iSeq (eVar 1)) (sFor [5] (.name 5) (iSeq (eVar 1)) (sSeq (sIf (tNotG (tB1 (eCall g__law_same (aCons (eLst (aCons (eCallK g_product 1 1 (aCons (eVar 3) (aNil)) (aCons (eVar 5) (aNil))) (aCons (eCall g_is_less (aCons (eVar 3) (aCons (eVar 5) (aNil)))) (aNil)))) (aCons (eLst (aCons (eCall g__law_reduced (aCons (eBin addD (eVar 3) (eVar 5)) (aNil))) (aCons (eCall g__law_less (aCons (eVar 3) (aCons (eVar 5) (aNil)))) (aNil)))) (aNil)))))) (sRet (eC (.bl false))) (sSkip)) (
    sIf (tOrG (tAndG (tB1 (eCall g_is_less (aCons (eVar 3) (aCons (eVar 5) (aNil))))) (tB1 (eCall g_is_less (aCons (eVar 5) (aCons (eVar 3) (aNil)))))) (tB1 (eBin eqG (eBin eqG (eVar 3) (eVar 5)) (eOrG (eCall g_is_less (aCons (eVar 3) (aCons (eVar 5) (aNil)))) (eCall g_is_less (aCons (eVar 5) (aCons (eVar 3) (aNil)))))))) (sRet (eC (.bl false))) (sSkip))))) (
  sRet (eC (.bl true))))
theorem c__law_laid_right{k : Nat}{g__law_left g__law_same g__law_inverse g_inverse g_reduced g__law_reduced g__law_less g_is_less g_product : Fn} (T : Txt K mg) (D__law_laid_right : Df K mg "_law_laid_right" st__law_laid_right ps__law_laid_right) (C__law_left : Cal P w K mg base k "_law_left" st__law_left ps__law_left g__law_left) (C__law_same : Cal P w K mg base k "_law_same" st__law_same ps__law_same g__law_same) (C__law_inverse : Cal P w K mg base k "_law_inverse" st__law_inverse ps__law_inverse g__law_inverse) (C_inverse : Cal P w K mg base k "inverse" st_inverse ps_inverse g_inverse) (C_reduced : Cal P w K mg base k "reduced" st_reduced ps_reduced g_reduced) (C__law_reduced : Cal P w K mg base k "_law_reduced" st__law_reduced ps__law_reduced g__law_reduced) (C__law_less : Cal P w K mg base k "_law_less" st__law_less ps__law_less g__law_less) (C_is_less : Cal P w K mg base k "is_less" st_is_less ps_is_less g_is_less) (C_product : Cal P w K mg base k "product" st_product ps_product g_product) : Cal P w K mg base (k + 1) "_law_laid_right" st__law_laid_right ps__law_laid_right (runD N__law_laid_right (m__law_laid_right g__law_left g__law_same g__law_inverse g_inverse g_reduced g__law_reduced g__law_less g_is_less g_product)) :=
  cal_of D__law_laid_right sc__law_laid_right fun a cdv A outer s H E hr => have tk := takes_of (X := cxOf (L2.CX P w) P w K mg base N__law_laid_right "_law_laid_right" (defScope st__law_laid_right) a cdv A outer s H E) rfl rfl rfl rfl
  sss_cons (ss_for [2, 4] (passes_of rfl) (si_seq (se_var 1)) (sg_name 2 sc__law_laid_right.nd) (sss_cons (ss_set 4 sc__law_laid_right.nd (se_call C__law_left hr tk (sa_cons (se_var 0) (sa_cons (se_var 2) (sa_nil))) (alen_cons (alen_cons alen_nil)))) (
   sss_cons (ss_if (st_not (st_val (se_call C__law_same hr tk (sa_cons (se_lst (sa_cons (se_call C_inverse hr tk (sa_cons (se_var 2) (sa_nil)) (alen_cons alen_nil)) (sa_cons (se_call C_reduced hr tk (sa_cons (se_var 2) (sa_nil)) (alen_cons alen_nil)) (sa_cons (se_callK0 C_reduced hr tk ["word"] (fun _ _ _ _ _ _ us ws h1 h2 => match us, ws, h1, h2 with | [], [_], _, _ => rfl) (sk_cons (se_var 4) (sk_nil))) (sa_cons (se_call C_inverse hr tk (sa_cons (se_call C_inverse hr tk (sa_cons (se_var 2) (sa_nil)) (alen_cons alen_nil)) (sa_nil)) (alen_cons alen_nil)) (sa_nil)))))) (sa_cons (se_lst (sa_cons (se_call C__law_inverse hr tk (sa_cons (se_var 2) (sa_nil)) (alen_cons alen_nil)) (sa_cons (se_var 4) (sa_cons (se_var 4) (sa_cons (se_var 2) (sa_nil)))))) (sa_nil))) (alen_cons (alen_cons alen_nil))))) (sss_one (ss_ret (se_bl))) (sss_nil)) (
   sss_one (ss_if (st_w (sw_or (st_ne hr.units (se_var 4) (se_call C__law_reduced hr tk (sa_cons (se_var 2) (sa_nil)) (alen_cons alen_nil))) (sw_or1 (st_ne hr.units (se_call C_reduced hr tk (sa_cons (se_call C_inverse hr tk (sa_cons (se_var 2) (sa_nil)) (alen_cons alen_nil)) (sa_nil)) (alen_cons alen_nil)) (se_call C_inverse hr tk (sa_cons (se_call C_reduced hr tk (sa_cons (se_var 2) (sa_nil)) (alen_cons alen_nil)) (sa_nil)) (alen_cons alen_nil)))))) (sss_one (ss_ret (se_bl))) (sss_nil)))))) (
  sss_cons (ss_for [3, 5] (passes_of rfl) (si_seq (se_var 1)) (sg_name 3 sc__law_laid_right.nd) (sss_one (ss_for [5] (passes_of rfl) (si_seq (se_var 1)) (sg_name 5 sc__law_laid_right.nd) (sss_cons (ss_if (st_not (st_val (se_call C__law_same hr tk (sa_cons (se_lst (sa_cons (se_callK C_product hr tk 1 ["other_word"] (fun _ _ _ _ _ _ us ws h1 h2 => match us, ws, h1, h2 with | [_], [_], _, _ => rfl) (sa_cons (se_var 3) (sa_nil)) (sk_cons (se_var 5) (sk_nil))) (sa_cons (se_call C_is_less hr tk (sa_cons (se_var 3) (sa_cons (se_var 5) (sa_nil))) (alen_cons (alen_cons alen_nil))) (sa_nil)))) (sa_cons (se_lst (sa_cons (se_call C__law_reduced hr tk (sa_cons (se_add (se_var 3) (se_var 5)) (sa_nil)) (alen_cons alen_nil)) (sa_cons (se_call C__law_less hr tk (sa_cons (se_var 3) (sa_cons (se_var 5) (sa_nil))) (alen_cons (alen_cons alen_nil))) (sa_nil)))) (sa_nil))) (alen_cons (alen_cons alen_nil))))) (sss_one (ss_ret (se_bl))) (sss_nil)) (
    sss_one (ss_if (st_w (sw_or (st_w (sw_and (st_val (se_call C_is_less hr tk (sa_cons (se_var 3) (sa_cons (se_var 5) (sa_nil))) (alen_cons (alen_cons alen_nil)))) (sw_and1 (st_val (se_call C_is_less hr tk (sa_cons (se_var 5) (sa_cons (se_var 3) (sa_nil))) (alen_cons (alen_cons alen_nil))))))) (sw_or1 (st_eq hr.units (se_eq hr.units (se_var 3) (se_var 5)) (se_or (se_call C_is_less hr tk (sa_cons (se_var 3) (sa_cons (se_var 5) (sa_nil))) (alen_cons (alen_cons alen_nil))) (se_one (se_call C_is_less hr tk (sa_cons (se_var 5) (sa_cons (se_var 3) (sa_nil))) (alen_cons (alen_cons alen_nil))))))))) (sss_one (ss_ret (se_bl))) (sss_nil))))))) (
  sss_one (ss_ret (se_bl))))


/-! _law_refused -/
abbrev st__law_refused : Stmt := topS 40
abbrev N__law_refused : List Str := ["which", "one", "two", "word", "e", "told"]
abbrev ps__law_refused : List Str := ["which", "one", "two"]
theorem sc__law_refused : FnScope N__law_refused ps__law_refused (defScope st__law_refused) := ⟨rfl, rfl, rfl, by decide +kernel, rfl, by decide +kernel, by decide +kernel⟩
noncomputable def m__law_refused (g_inverse g_reduced g_product g_power g_is_less : Fn) : Sd :=
  sSeq (sSet 3 (eC (.str []))) (
  sSeq (sTry (sIf (tB1 (eBin ltG (eVar 0) (eC (.int 3)))) (sSet 5 (eIfG (tB1 (eBin eqG (eVar 0) (eC (.int 0)))) (eCall g_inverse (aCons (eVar 1) (aNil))) (eIfG (tB1 (eBin eqG (eVar 0) (eC (.int 1)))) (eCall g_reduced (aCons (eVar 1) (aNil))) (eCall g_product (aCons (eVar 2) (aCons (eVar 1) (aNil))))))) (sIf (tB1 (eBin ltG (eVar 0) (eC (.int 5)))) (sSet 5 (eIfG (tB1 (eBin eqG (eVar 0) (eC (.int 3)))) (eCall g_power (aCons (eVar 1) (aCons (eVar 2) (aNil)))) (eCall g_product (aCons (eVar 1) (aCons (eVar 2) (aNil)))))) (sSet 5 (eIfG (tB1 (eBin eqG (eVar 0) (eC (.int 5)))) (eCall g_is_less (aCons (eVar 1) (aCons (eVar 2) (aNil)))) (eCall g_is_less (aCons (eVar 2) (aCons (eVar 1) (aNil)))))))) [.as (isK T_known "InvalidWord") 4 (fun e a d => sSet 3 (eIfG (tB1 (eIsX e 4 a true)) (eC (.str [119, 111, 114, 100])) (eC (.str [111, 116, 104, 101, 114])))), .pl (isK T_known "InvalidNumber") (sSet 3 (eC (.str [110, 117, 109, 98, 101, 114])))]) (
  sRet (eVar 3)))
theorem c__law_refused{k : Nat}{g_inverse g_reduced g_product g_power g_is_less : Fn} (T : Txt K mg) (D__law_refused : Df K mg "_law_refused" st__law_refused ps__law_refused) (C_inverse : Cal P w K mg base k "inverse" st_inverse ps_inverse g_inverse) (C_reduced : Cal P w K mg base k "reduced" st_reduced ps_reduced g_reduced) (C_product : Cal P w K mg base k "product" st_product ps_product g_product) (C_power : Cal P w K mg base k "power" st_power ps_power g_power) (C_is_less : Cal P w K mg base k "is_less" st_is_less ps_is_less g_is_less) : Cal P w K mg base (k + 1) "_law_refused" st__law_refused ps__law_refused (runD N__law_refused (m__law_refused g_inverse g_reduced g_product g_power g_is_less)) :=
  cal_of D__law_refused sc__law_refused fun a cdv A outer s H E hr => have tk := takes_of (X := cxOf (L2.CX P w) P w K mg base N__law_refused "_law_refused" (defScope st__law_refused) a cdv A outer s H E) rfl rfl rfl rfl
  sss_cons (ss_set 3 sc__law_refused.nd (se_str [])) (
  sss_cons (ss_try tk ((T.i_InvalidWord_GroupError).elim fun C hh => hh.elim fun B hh => have E := hh.1; have EC := hh.2.1; have hB := hh.2.2.1; have hk := hh.2.2.2; hd_as 4 T.S E.gC sc__law_refused.nd (fun e a oe d pn hz hf hdd => sss_one (ss_set 3 sc__law_refused.nd (se_ifExp (st_val (se_isX (i := 4) EC hz hf hdd T.n_isinstance hB hk)) (se_str [119, 111, 114, 100]) (se_str [111, 116, 104, 101, 114])))) ((T.e_InvalidNumber).elim fun C E => hd_pl T.S E.gC (fun a oe cls d pn => sss_one (ss_set 3 sc__law_refused.nd (se_str [110, 117, 109, 98, 101, 114]))) (HdG.nil))) (fun W pn xe tk hp => sss_one (ss_if (st_lt hr.units (se_var 0) (se_int)) (sss_one (ss_set 5 sc__law_refused.nd (se_ifExp (st_eq hr.units (se_var 0) (se_int)) (se_call C_inverse hr tk (sa_cons (se_var 1) (sa_nil)) (alen_cons alen_nil)) (se_ifExp (st_eq hr.units (se_var 0) (se_int)) (se_call C_reduced hr tk (sa_cons (se_var 1) (sa_nil)) (alen_cons alen_nil)) (se_call C_product hr tk (sa_cons (se_var 2) (sa_cons (se_var 1) (sa_nil))) (alen_cons (alen_cons alen_nil))))))) (sss_one (ss_if (st_lt hr.units (se_var 0) (se_int)) (sss_one (ss_set 5 sc__law_refused.nd (se_ifExp (st_eq hr.units (se_var 0) (se_int)) (se_call C_power hr tk (sa_cons (se_var 1) (sa_cons (se_var 2) (sa_nil))) (alen_cons (alen_cons alen_nil))) (se_call C_product hr tk (sa_cons (se_var 1) (sa_cons (se_var 2) (sa_nil))) (alen_cons (alen_cons alen_nil)))))) (sss_one (ss_set 5 sc__law_refused.nd (se_ifExp (st_eq hr.units (se_var 0) (se_int)) (se_call C_is_less hr tk (sa_cons (se_var 1) (sa_cons (se_var 2) (sa_nil))) (alen_cons (alen_cons alen_nil))) (se_call C_is_less hr tk (sa_cons (se_var 2) (sa_cons (se_var 1) (sa_nil))) (alen_cons (alen_cons alen_nil))))))))))) (
  sss_one (ss_ret (se_var 3))))


/-! law -/
abbrev st_law : Stmt := topS 41
abbrev N_law : List Str := ["script", "odd", "cell", "pool", "every", "words", "n", "value", "wrong", "one", "other", "fine", "k", "which"]
abbrev ps_law : List Str := ["script"]
theorem sc_law : FnScope N_law ps_law (defScope st_law) := ⟨rfl, rfl, rfl, by decide +kernel, rfl, by decide +kernel, by decide +kernel⟩
noncomputable def m_law (g__law_odd g__law_pool g__law_one_of g__law_word g__law_inverse g__law_laid_right g__law_next g__law_same g__law_reduced g__law_power g_power g_inverse g_product g__law_is_word g_is_word g__law_refused : Fn) : Sd :=
  sSeq (sSet 1 (eBin addD (fun _ μ => g__law_odd [] μ) (eLst (aCons (eC (.str [97, 98, 120])) (aCons (eC (.str [101])) (aCons (eC (.str [97, 32, 98])) (aCons (eC (.str [69])) (aCons (eLst (aCons (eC (.str [97])) (aNil))) (aCons (eTup (aCons (eC (.str [97])) (aCons (eC (.str [98])) (aNil)))) (aNil)))))))))) (
  sSeq (sFor [2, 3, 4, 5, 6, 7, 8, 9, 10, 11] (.name 2) (iSeq (eSl (eBin addD (eLst (aCons (eC (.int 501)) (aNil))) (eVar 0)) (oNone) (oSome (eC (.int 6))))) (sSeq (sSet 3 (eCall g__law_pool (aCons (eVar 2) (aNil)))) (
   sSeq (sSet 4 (eCall g__law_one_of (aCons (eVar 3) (aCons (eLst (aCons (eC (.str [97, 65])) (aCons (eC (.str [97, 65, 98, 66])) (aCons (eC (.str [97, 65, 98, 66])) (aCons (eC (.str [97, 65, 98, 66, 99, 67, 100, 68])) (aNil)))))) (aNil))))) (
   sSeq (sSet 5 (eComp [12] (.name 12) (iRange1 (aCons (eC (.int 4)) (aNil))) (cYes) (eCall g__law_word (aCons (eVar 3) (aCons (eVar 4) (aCons (eCall g__law_one_of (aCons (eVar 3) (aCons (eLst (aCons (eC (.int 3)) (aCons (eC (.int 10)) (aCons (eC (.int 60)) (aNil))))) (aNil)))) (aNil))))))) (
   sSeq (sSet 5 (eBin addD (eVar 5) (eLst (aCons (eBin addD (eSl (eBin ixD (eVar 5) (eC (.int 0))) (oNone) (oSome (eC (.int 40)))) (eCall g__law_inverse (aCons (eSl (eSl (eBin ixD (eVar 5) (eC (.int 0))) (oNone) (oSome (eC (.int 40)))) (oSome (eNeg (eC (.int 9)))) (oNone)) (aNil)))) (aCons (eC (.str [])) (aCons (eBin ixD (eVar 5) (eC (.int 1))) (aNil))))))) (
   sSeq (sIf (tNotG (tB1 (eCall g__law_laid_right (aCons (eVar 3) (aCons (eVar 5) (aNil)))))) (sRet (eC (.bl false))) (sSkip)) (
   sSeq (sSet 6 (eBin subD (eCall g__law_next (aCons (eVar 3) (aCons (eC (.int 25)) (aNil)))) (eC (.int 12)))) (
   sSeq (sTup (.tup [9, 10]) (eTup (aCons (eBin ixD (eVar 5) (eC (.int 0))) (aCons (eBin ixD (eVar 5) (eC (.int 1))) (aNil))))) (
   sSeq (sIf (tNotG (tB1 (eCall g__law_same (aCons (eLst (aCons (eCall g_power (aCons (eVar 9) (aCons (eVar 6) (aNil)))) (aCons (eCallK g_power 0 2 aNil (aCons (eVar 9) (aCons (eC (.int 1)) (aNil)))) (aCons (eCall g_power (aCons (eVar 9) (aCons (eC (.int 0)) (aNil)))) (aNil))))) (aCons (eLst (aCons (eCall g__law_power (aCons (eVar 9) (aCons (eVar 6) (aNil)))) (aCons (eCall g__law_reduced (aCons (eVar 9) (aNil))) (aCons (eC (.str [])) (aNil))))) (aNil)))))) (sRet (eC (.bl false))) (sSkip)) (
   sSeq (sIf (tOrG (tB1 (eBin neG (eCall g_power (aCons (eVar 9) (aCons (eNeg (eVar 6)) (aNil)))) (eCall g_inverse (aCons (eCall g_power (aCons (eVar 9) (aCons (eVar 6) (aNil)))) (aNil))))) (tB1 (eBin neG (eCall g_product (aCons (eCall g_power (aCons (eVar 9) (aCons (eVar 6) (aNil)))) (aCons (eVar 9) (aNil)))) (eCall g_power (aCons (eVar 9) (aCons (eBin addD (eVar 6) (eC (.int 1))) (aNil))))))) (sRet (eC (.bl false))) (sSkip)) (
   sSeq (sIf (tOrG (tB1 (eBin neG (eCall g_product (aCons (eCall g_product (aCons (eVar 9) (aCons (eVar 10) (aNil)))) (aCons (eBin ixD (eVar 5) (eC (.int 2))) (aNil)))) (eCall g_product (aCons (eVar 9) (aCons (eCall g_product (aCons (eVar 10) (aCons (eBin ixD (eVar 5) (eC (.int 2))) (aNil)))) (aNil)))))) (tB1 (eBin neG (eCall g_product (aCons (eVar 9) (aCons (eCall g_inverse (aCons (eVar 9) (aNil))) (aNil)))) (eC (.str []))))) (sRet (eC (.bl false))) (sSkip)) (
   sSeq (sFor [7, 11] (.name 7) (iSeq (eBin addD (eBin addD (eVar 5) (eComp [12] (.name 12) (iRange1 (aCons (eC (.int 4)) (aNil))) (cYes) (eCall g__law_one_of (aCons (eVar 3) (aCons (eVar 1) (aNil)))))) (eLst (aCons (eBin addD (eCall g__law_one_of (aCons (eVar 3) (aCons (eVar 5) (aNil)))) (eCall g__law_one_of (aCons (eVar 3) (aCons (eLst (aCons (eC (.str [120])) (aCons (eC (.str [32])) (aCons (eC (.str [69])) (aCons (eC (.str [49])) (aCons (eC (.str [45])) (aNil))))))) (aNil))))) (aNil))))) (sSeq (sSet 11 (eCall g__law_is_word (aCons (eVar 7) (aCons (eC (.str [97, 65, 98, 66, 99, 67, 100, 68])) (aNil))))) (
    sSeq (sIf (tNotG (tB1 (eCall g__law_same (aCons (eCall g_is_word (aCons (eVar 7) (aNil))) (aCons (eVar 11) (aNil)))))) (sRet (eC (.bl false))) (sSkip)) (
    sIf (tAndG (tNotG (tB1 (eVar 11))) (tB1 (eBin neG (eComp [13] (.name 13) (iRange1 (aCons (eC (.int 7)) (aNil))) (cYes) (eCall g__law_refused (aCons (eVar 13) (aCons (eVar 7) (aCons (eVar 9) (aNil)))))) (eBin mulD (eLst (aCons (eC (.str [119, 111, 114, 100])) (aNil))) (eC (.int 7)))))) (sRet (eC (.bl false))) (sSkip))))) (
   sSeq (sSet 8 (eCall g__law_one_of (aCons (eVar 3) (aCons (eLst (aCons (eC .non) (aCons (eC (.str [49])) (aCons (eC (.bl true)) (aCons (eTup (aNil)) (aCons (eLst (aCons (eC (.int 2)) (aNil))) (aNil))))))) (aNil))))) (
   sIf (tOrG (tB1 (eBin neG (eCall g__law_refused (aCons (eC (.int 3)) (aCons (eVar 9) (aCons (eVar 8) (aNil))))) (eC (.str [110, 117, 109, 98, 101, 114])))) (tOrG (tB1 (eBin neG (eCall g__law_refused (aCons (eC (.int 3)) (aCons (eC .non) (aCons (eVar 8) (aNil))))) (eC (.str [119, 111, 114, 100])))) (tB1 (eBin neG (eCall g__law_refused (aCons (eC (.int 0)) (aCons (eVar 9) (aCons (eVar 9) (aNil))))) (eC (.str [])))))) (sRet (eC (.bl false))) (sSkip))))))))))))))) (
  sRet (eC (.bl true))))
theorem c_law{k : Nat}{g__law_odd g__law_pool g__law_one_of g__law_word g__law_inverse g__law_laid_right g__law_next g__law_same g__law_reduced g__law_power g_power g_inverse g_product g__law_is_word g_is_word g__law_refused : Fn} (T : Txt K mg) (D_law : Df K mg "law" st_law ps_law) (C__law_odd : Cal P w K mg base k "_law_odd" st__law_odd ps__law_odd g__law_odd) (C__law_pool : Cal P w K mg base k "_law_pool" st__law_pool ps__law_pool g__law_pool) (C__law_one_of : Cal P w K mg base k "_law_one_of" st__law_one_of ps__law_one_of g__law_one_of) (C__law_word : Cal P w K mg base k "_law_word" st__law_word ps__law_word g__law_word) (C__law_inverse : Cal P w K mg base k "_law_inverse" st__law_inverse ps__law_inverse g__law_inverse) (C__law_laid_right : Cal P w K mg base k "_law_laid_right" st__law_laid_right ps__law_laid_right g__law_laid_right) (C__law_next : Cal P w K mg base k "_law_next" st__law_next ps__law_next g__law_next) (C__law_same : Cal P w K mg base k "_law_same" st__law_same ps__law_same g__law_same) (C__law_reduced : Cal P w K mg base k "_law_reduced" st__law_reduced ps__law_reduced g__law_reduced) (C__law_power : Cal P w K mg base k "_law_power" st__law_power ps__law_power g__law_power) (C_power : Cal P w K mg base k "power" st_power ps_power g_power) (C_inverse : Cal P w K mg base k "inverse" st_inverse ps_inverse g_inverse) (C_product : Cal P w K mg base k "product" st_product ps_product g_product) (C__law_is_word : Cal P w K mg base k "_law_is_word" st__law_is_word ps__law_is_word g__law_is_word) (C_is_word : Cal P w K mg base k "is_word" st_is_word ps_is_word g_is_word) (C__law_refused : Cal P w K mg base k "_law_refused" st__law_refused ps__law_refused g__law_refused) : Cal P w K mg base (k + 1) "law" st_law ps_law (runD N_law (m_law g__law_odd g__law_pool g__law_one_of g__law_word g__law_inverse g__law_laid_right g__law_next g__law_same g__law_reduced g__law_power g_power g_inverse g_product g__law_is_word g_is_word g__law_refused)) :=
  cal_of D_law sc_law fun a cdv A outer s H E hr => have tk := takes_of (X := cxOf (L2.CX P w) P w K mg base N_law "law" (defScope st_law) a cdv A outer s H E) rfl rfl rfl rfl
  sss_cons (ss_set 1 sc_law.nd (se_add (se_call0 C__law_odd hr tk) (se_lst (sa_cons (se_str [97, 98, 120]) (sa_cons (se_str [101]) (sa_cons (se_str [97, 32, 98]) (sa_cons (se_str [69]) (sa_cons (se_lst (sa_cons (se_str [97]) (sa_nil))) (sa_cons (se_tup (sa_cons (se_str [97]) (sa_cons (se_str [98]) (sa_nil)))) (sa_nil)))))))))) (
  sss_cons (ss_for [2, 3, 4, 5, 6, 7, 8, 9, 10, 11] (passes_of rfl) (si_seq (se_sl (se_add (se_lst (sa_cons (se_int) (sa_nil))) (se_var 0)) (so_none) (so_some (se_int)))) (sg_name 2 sc_law.nd) (sss_cons (ss_set 3 sc_law.nd (se_call C__law_pool hr tk (sa_cons (se_var 2) (sa_nil)) (alen_cons alen_nil))) (
   sss_cons (ss_set 4 sc_law.nd (se_call C__law_one_of hr tk (sa_cons (se_var 3) (sa_cons (se_lst (sa_cons (se_str [97, 65]) (sa_cons (se_str [97, 65, 98, 66]) (sa_cons (se_str [97, 65, 98, 66]) (sa_cons (se_str [97, 65, 98, 66, 99, 67, 100, 68]) (sa_nil)))))) (sa_nil))) (alen_cons (alen_cons alen_nil)))) (
   sss_cons (ss_setComp 5 [("k", 12)] (.name 12) sc_law.nd (si_range1 T.n_range (sa_cons (se_int) (sa_nil))) (blkOk_by rfl) (fun _ _ _ _ _ => sg_name 12 sc_law.nd) (fun _ _ _ _ _ => sts_nil) (fun _ _ _ _ _ => se_call C__law_word hr takes0 (sa_cons (se_var 3) (sa_cons (se_var 4) (sa_cons (se_call C__law_one_of hr takes0 (sa_cons (se_var 3) (sa_cons (se_lst (sa_cons (se_int) (sa_cons (se_int) (sa_cons (se_int) (sa_nil))))) (sa_nil))) (alen_cons (alen_cons alen_nil))) (sa_nil)))) (alen_cons (alen_cons (alen_cons alen_nil)))) (sw_true rfl rfl rfl rfl)) (
   sss_cons (ss_set 5 sc_law.nd (se_add (se_var 5) (se_lst (sa_cons (se_add (se_sl (se_ix (se_var 5) (se_int)) (so_none) (so_some (se_int))) (se_call C__law_inverse hr tk (sa_cons (se_sl (se_sl (se_ix (se_var 5) (se_int)) (so_none) (so_some (se_int))) (so_some (se_neg (se_int))) (so_none)) (sa_nil)) (alen_cons alen_nil))) (sa_cons (se_str []) (sa_cons (se_ix (se_var 5) (se_int)) (sa_nil))))))) (
   sss_cons (ss_if (st_not (st_val (se_call C__law_laid_right hr tk (sa_cons (se_var 3) (sa_cons (se_var 5) (sa_nil))) (alen_cons (alen_cons alen_nil))))) (sss_one (ss_ret (se_bl))) (sss_nil)) (
   sss_cons (ss_set 6 sc_law.nd (se_sub (se_call C__law_next hr tk (sa_cons (se_var 3) (sa_cons (se_int) (sa_nil))) (alen_cons (alen_cons alen_nil))) (se_int))) (
   sss_cons (ss_tup (se_tup (sa_cons (se_ix (se_var 5) (se_int)) (sa_cons (se_ix (se_var 5) (se_int)) (sa_nil)))) (sg_tup (sgs_cons (sg_name 9 sc_law.nd) (sgs_cons (sg_name 10 sc_law.nd) (sgs_nil))))) (
   sss_cons (ss_if (st_not (st_val (se_call C__law_same hr tk (sa_cons (se_lst (sa_cons (se_call C_power hr tk (sa_cons (se_var 9) (sa_cons (se_var 6) (sa_nil))) (alen_cons (alen_cons alen_nil))) (sa_cons (se_callK0 C_power hr tk ["word", "n"] (fun _ _ _ _ _ _ us ws h1 h2 => match us, ws, h1, h2 with | [], [_, _], _, _ => rfl) (sk_cons (se_var 9) (sk_cons (se_int) (sk_nil)))) (sa_cons (se_call C_power hr tk (sa_cons (se_var 9) (sa_cons (se_int) (sa_nil))) (alen_cons (alen_cons alen_nil))) (sa_nil))))) (sa_cons (se_lst (sa_cons (se_call C__law_power hr tk (sa_cons (se_var 9) (sa_cons (se_var 6) (sa_nil))) (alen_cons (alen_cons alen_nil))) (sa_cons (se_call C__law_reduced hr tk (sa_cons (se_var 9) (sa_nil)) (alen_cons alen_nil)) (sa_cons (se_str []) (sa_nil))))) (sa_nil))) (alen_cons (alen_cons alen_nil))))) (sss_one (ss_ret (se_bl))) (sss_nil)) (
   sss_cons (ss_if (st_w (sw_or (st_ne hr.units (se_call C_power hr tk (sa_cons (se_var 9) (sa_cons (se_neg (se_var 6)) (sa_nil))) (alen_cons (alen_cons alen_nil))) (se_call C_inverse hr tk (sa_cons (se_call C_power hr tk (sa_cons (se_var 9) (sa_cons (se_var 6) (sa_nil))) (alen_cons (alen_cons alen_nil))) (sa_nil)) (alen_cons alen_nil))) (sw_or1 (st_ne hr.units (se_call C_product hr tk (sa_cons (se_call C_power hr tk (sa_cons (se_var 9) (sa_cons (se_var 6) (sa_nil))) (alen_cons (alen_cons alen_nil))) (sa_cons (se_var 9) (sa_nil))) (alen_cons (alen_cons alen_nil))) (se_call C_power hr tk (sa_cons (se_var 9) (sa_cons (se_add (se_var 6) (se_int)) (sa_nil))) (alen_cons (alen_cons alen_nil))))))) (sss_one (ss_ret (se_bl))) (sss_nil)) (
   sss_cons (ss_if (st_w (sw_or (st_ne hr.units (se_call C_product hr tk (sa_cons (se_call C_product hr tk (sa_cons (se_var 9) (sa_cons (se_var 10) (sa_nil))) (alen_cons (alen_cons alen_nil))) (sa_cons (se_ix (se_var 5) (se_int)) (sa_nil))) (alen_cons (alen_cons alen_nil))) (se_call C_product hr tk (sa_cons (se_var 9) (sa_cons (se_call C_product hr tk (sa_cons (se_var 10) (sa_cons (se_ix (se_var 5) (se_int)) (sa_nil))) (alen_cons (alen_cons alen_nil))) (sa_nil))) (alen_cons (alen_cons alen_nil)))) (sw_or1 (st_ne hr.units (se_call C_product hr tk (sa_cons (se_var 9) (sa_cons (se_call C_inverse hr tk (sa_cons (se_var 9) (sa_nil)) (alen_cons alen_nil)) (sa_nil))) (alen_cons (alen_cons alen_nil))) (se_str []))))) (sss_one (ss_ret (se_bl))) (sss_nil)) (
   sss_cons (ss_for [7, 11] (passes_of rfl) (si_seq (se_add (se_add (se_var 5) (se_comp [("k", 12)] (.name 12) sc_law.nd (si_range1 T.n_range (sa_cons (se_int) (sa_nil))) (blkOk_by rfl) (fun _ _ _ _ _ => sg_name 12 sc_law.nd) (fun _ _ _ _ _ => sts_nil) (fun _ _ _ _ _ => se_call C__law_one_of hr takes0 (sa_cons (se_var 3) (sa_cons (se_var 1) (sa_nil))) (alen_cons (alen_cons alen_nil))))) (se_lst (sa_cons (se_add (se_call C__law_one_of hr tk (sa_cons (se_var 3) (sa_cons (se_var 5) (sa_nil))) (alen_cons (alen_cons alen_nil))) (se_call C__law_one_of hr tk (sa_cons (se_var 3) (sa_cons (se_lst (sa_cons (se_str [120]) (sa_cons (se_str [32]) (sa_cons (se_str [69]) (sa_cons (se_str [49]) (sa_cons (se_str [45]) (sa_nil))))))) (sa_nil))) (alen_cons (alen_cons alen_nil)))) (sa_nil))))) (sg_name 7 sc_law.nd) (sss_cons (ss_set 11 sc_law.nd (se_call C__law_is_word hr tk (sa_cons (se_var 7) (sa_cons (se_str [97, 65, 98, 66, 99, 67, 100, 68]) (sa_nil))) (alen_cons (alen_cons alen_nil)))) (
    sss_cons (ss_if (st_not (st_val (se_call C__law_same hr tk (sa_cons (se_call C_is_word hr tk (sa_cons (se_var 7) (sa_nil)) (alen_cons alen_nil)) (sa_cons (se_var 11) (sa_nil))) (alen_cons (alen_cons alen_nil))))) (sss_one (ss_ret (se_bl))) (sss_nil)) (
    sss_one (ss_if (st_w (sw_and (st_not (st_val (se_var 11))) (sw_and1 (st_ne hr.units (se_comp [("which", 13)] (.name 13) sc_law.nd (si_range1 T.n_range (sa_cons (se_int) (sa_nil))) (blkOk_by rfl) (fun _ _ _ _ _ => sg_name 13 sc_law.nd) (fun _ _ _ _ _ => sts_nil) (fun _ _ _ _ _ => se_call C__law_refused hr takes0 (sa_cons (se_var 13) (sa_cons (se_var 7) (sa_cons (se_var 9) (sa_nil)))) (alen_cons (alen_cons (alen_cons alen_nil))))) (se_mul (se_lst (sa_cons (se_str [119, 111, 114, 100]) (sa_nil))) (se_int)))))) (sss_one (ss_ret (se_bl))) (sss_nil)))))) (
   sss_cons (ss_set 8 sc_law.nd (se_call C__law_one_of hr tk (sa_cons (se_var 3) (sa_cons (se_lst (sa_cons (se_non) (sa_cons (se_str [49]) (sa_cons (se_bl) (sa_cons (se_tup (sa_nil)) (sa_cons (se_lst (sa_cons (se_int) (sa_nil))) (sa_nil))))))) (sa_nil))) (alen_cons (alen_cons alen_nil)))) (
   sss_one (ss_if (st_w (sw_or (st_ne hr.units (se_call C__law_refused hr tk (sa_cons (se_int) (sa_cons (se_var 9) (sa_cons (se_var 8) (sa_nil)))) (alen_cons (alen_cons (alen_cons alen_nil)))) (se_str [110, 117, 109, 98, 101, 114])) (sw_or (st_ne hr.units (se_call C__law_refused hr tk (sa_cons (se_int) (sa_cons (se_non) (sa_cons (se_var 8) (sa_nil)))) (alen_cons (alen_cons (alen_cons alen_nil)))) (se_str [119, 111, 114, 100])) (sw_or1 (st_ne hr.units (se_call C__law_refused hr tk (sa_cons (se_int) (sa_cons (se_var 9) (sa_cons (se_var 9) (sa_nil)))) (alen_cons (alen_cons (alen_cons alen_nil)))) (se_str [])))))) (sss_one (ss_ret (se_bl))) (sss_nil)))))))))))))))) (
  sss_one (ss_ret (se_bl))))

end
end K00

namespace K00
open PySem PySem.Spec PyProof.Rows L2 G
abbrev Lc : List Nat := [97, 65, 98, 66, 99, 67, 100, 68]
def eW : EX := ⟨"InvalidWord", []⟩
def eN : EX := ⟨"InvalidNumber", []⟩
section
variable {P : Program} {w : World} {K : Fr0} {mg : Str → Option Value} {base : Heap}
/-! is_integer -/
def isInt : D → Bool | .int _ => true | _ => false
def gIsInteger : Fn := fun ds μ => match ds with
  | [d] => match kdOf μ d with
    | some _ => .ok (.bl (isInt d)) μ
    | none => .bad
  | _ => .bad
theorem kd_int_iff {μ : Mem} {d : D} {k : Kd} (h : kdOf μ d = some k) : (k.isB .int && !k.isB .bl) = isInt d := by
  cases d with
  | ref l =>
    have h : (match μ[l]? with
      | some (.lst _) => some Kd.lst
      | some (.dct _) => some Kd.dct
      | none => none) = some k := h
    split at h <;> cases h <;> rfl
  | xo => cases h
  | _ => cases h; rfl
theorem ok_is_integer {k : Nat} (T : Txt K mg) (Df_ : Df K mg "is_integer" st_is_integer ps_is_integer) : Cal P w K mg base (k + 1) "is_integer" st_is_integer ps_is_integer gIsInteger :=
  (c_is_integer T Df_).drop fun ds μ hl hc hm => by
    unfold gIsInteger
    split
    · split
      · rename_i d _ kk e
        refine drops_ok [] ?_ (fun n => clo_bl n _) hm
        rw [← kd_int_iff e]
        simp [m_is_integer, e]
        cases hb : kk.isB .int <;> simp [hb]
      · trivial
    · trivial
/-! is_word_in -/
def isWd (L : List Nat) : D → Bool | .str x => x.all (fun c => decide (c ∈ L)) | _ => false
def szD : D → Bool | .str x => decide (x.length ≤ 100000) | _ => true
def gIsWordIn : Fn := fun ds μ => match ds with
  | [.str L, d] => match kdOf μ d with
    | some _ => if szD d = true then .ok (.bl (isWd L d)) μ else .bad
    | none => .bad
  | _ => .bad
theorem kd_str_iff {μ : Mem} {d : D} {k : Kd} (h : kdOf μ d = some k) : k.isB .str = true → ∃ x, d = .str x := by
  intro hb
  cases d with
  | str x => exact ⟨x, rfl⟩
  | ref l =>
    have h : (match μ[l]? with
      | some (.lst _) => some Kd.lst
      | some (.dct _) => some Kd.dct
      | none => none) = some k := h
    split at h <;> cases h <;> cases hb
  | xo => cases h
  | _ => cases h; cases hb
theorem ok_is_word_in {k : Nat} (T : Txt K mg) (Df_ : Df K mg "is_word_in" st_is_word_in ps_is_word_in) : Cal P w K mg base (k + 1) "is_word_in" st_is_word_in ps_is_word_in gIsWordIn :=
  (c_is_word_in T Df_).drop fun ds μ hl hc hm => by
    unfold gIsWordIn
    split
    · split
      · rename_i L d _ kk e
        split
        · rename_i hz
          cases hb : kk.isB .str with
          | true =>
            obtain ⟨x, rfl⟩ := kd_str_iff e hb
            cases e
            have hz : x.length ≤ 100000 := of_decide_eq_true hz
            refine drops_ok [.lst (x.map fun c => .bl (decide (c ∈ L)))] ?_ (fun n => clo_bl n _) hm
            have hc := eComp_map (ws := [2]) (t := .name 2) (src := iSeq (eVar 1)) (el := eBin inD (eVar 2) (eVar 0)) (ρ := [some (.str L), some (.str x), none]) (μ := μ) (μ1 := μ) (xs := x.map sg) (wt := none) (by simp) (by simp; omega) wtOk_none
              (fun d => match d with | .str [c] => .bl (decide (c ∈ L)) | _ => .non) (by
              intro d hd
              obtain ⟨c, _, rfl⟩ := List.mem_map.mp hd
              exact ⟨_, rfl, rfl⟩)
            rw [List.map_map] at hc
            have ha := allD_at (get_last1 μ (.lst (x.map fun c => .bl (decide (c ∈ L))))) (bls_map (fun c => decide (c ∈ L)) x)
            rw [all_map] at ha
            have hc2 : eComp [2] (.name 2) (iSeq (eVar 1)) cYes (eBin inD (eVar 2) (eVar 0)) [some (.str L), some (.str x), none] μ = .ok (.ref μ.length) (μ ++ [.lst (x.map fun c => .bl (decide (c ∈ L)))]) := hc
            simp [m_is_word_in, hb, hc2, ha, isWd]
          | false =>
            refine drops_ok [] ?_ (fun n => clo_bl n _) hm
            have : isWd L d = false := by
              cases d with
              | str x => cases e; cases hb
              | _ => rfl
            simp [m_is_word_in, e, hb, this]
        · trivial
      · trivial
    · trivial
/-! a word of the eight letters -/
def okW (x : List Nat) : Bool := x.all (fun c => decide (c ∈ Lc))
theorem okW_iff {x : List Nat} : okW x = true ↔ ∀ c ∈ x, c ∈ Lc := by simp [okW]
abbrev gd (x : List Nat) : Prop := okW x = true ∧ x.length ≤ 400000
theorem swc_swc (c : Nat) : swc (swc c) = c := by
  unfold swc
  split <;> rename_i h1
  · rw [if_neg (by omega), if_pos (by omega)]
    omega
  · split <;> rename_i h2
    · rw [if_pos (by omega)]
      omega
    · rfl
theorem Lc_swc : ∀ c ∈ Lc, swc c ∈ Lc := by decide
theorem Lc_128 : ∀ c ∈ Lc, c < 128 := by decide
theorem okW_rev {x : List Nat} (h : okW x = true) : okW x.reverse = true := by simpa [okW] using h
theorem okW_inv {x : List Nat} (h : okW x = true) : okW (Wd.inv swc x) = true := okW_iff.mpr fun c hc => by
  obtain ⟨d, hd, rfl⟩ := List.mem_map.mp hc
  exact Lc_swc d (okW_iff.mp h d (List.mem_reverse.mp hd))
theorem okW_red {x : List Nat} (h : okW x = true) : okW (Wd.red swc x) = true := okW_iff.mpr fun c hc => okW_iff.mp h c (Wd.red_mem hc)
theorem okW_app {x y : List Nat} (h : okW x = true) (h' : okW y = true) : okW (x ++ y) = true := by
  simp only [okW, List.all_append, Bool.and_eq_true]
  exact ⟨h, h'⟩
/-! inverted -/
def gInv : Fn := fun ds μ => match ds with
  | [.str x] => if gd x then .ok (.str (Wd.inv swc x)) μ else .bad
  | _ => .bad
theorem ok_inverted {k : Nat} (T : Txt K mg) (Df_ : Df K mg "inverted" st_inverted ps_inverted) : Cal P w K mg base (k + 1) "inverted" st_inverted ps_inverted gInv :=
  (c_inverted T Df_).drop fun ds μ hl hc hm => by
    unfold gInv
    split
    · rename_i x
      split
      · rename_i h
        refine drops_ok [] ?_ (fun n => clo_str n _) hm
        have h1 : ∀ c ∈ x, c < 128 := fun c hc => Lc_128 c (okW_iff.mp h.1 c hc)
        have hr : revD μ (.str x) = .ok (.str x.reverse) μ := if_pos (by omega)
        have hs : swapM (.str x.reverse) [] μ = .ok (.str (x.reverse.map swc)) μ := if_pos ⟨by simp; omega, by simpa using h1⟩
        simp [m_inverted, hr, hs, Wd.inv]
      · trivial
    · trivial
/-! _law_inverse -/
theorem tbl : ∀ c ∈ Lc, ∃ i, ixOf [65, 97, 66, 98, 67, 99, 68, 100] c = some i ∧ Lc[i]? = some (swc c) ∧ i < 8 := by
  intro c hc
  simp only [Lc, List.mem_cons, List.not_mem_nil, or_false] at hc
  rcases hc with rfl | rfl | rfl | rfl | rfl | rfl | rfl | rfl <;> exact ⟨_, rfl, rfl, by decide⟩
theorem ok__law_inverse {k : Nat} (T : Txt K mg) (Df_ : Df K mg "_law_inverse" st__law_inverse ps__law_inverse) : Cal P w K mg base (k + 1) "_law_inverse" st__law_inverse ps__law_inverse gInv :=
  (c__law_inverse T Df_).drop fun ds μ hl hc hm => by
    unfold gInv
    split
    · rename_i x
      split
      · rename_i h
        have hr : revD μ (.str x) = .ok (.str x.reverse) μ := if_pos (by omega)
        refine drops_ok [.lst ((Wd.inv swc x).map sg)] ?_ (fun n => clo_str n _) hm
        have hc := eComp_map (ws := [1]) (t := .name 1) (src := iSeq (eRev (eVar 0))) (el := eBin ixD (eC (.str [97, 65, 98, 66, 99, 67, 100, 68])) (eMs indexM (eC (.str [65, 97, 66, 98, 67, 99, 68, 100])) (aCons (eVar 1) aNil))) (ρ := [some (.str x), none]) (μ := μ) (μ1 := μ) (xs := x.reverse.map sg) (wt := none)
          (by simp [hr]) (by simp; omega) wtOk_none (fun d => match d with | .str [c] => sg (swc c) | _ => .non) (by
            intro d hd
            obtain ⟨c, hc, rfl⟩ := List.mem_map.mp hd
            obtain ⟨i, h1, h2, h3⟩ := tbl c (okW_iff.mp h.1 c (List.mem_reverse.mp hc))
            refine ⟨_, rfl, ?_⟩
            have h4 : indexM (.str [65, 97, 66, 98, 67, 99, 68, 100]) [.str [c]] μ = .ok (.int i) μ := by simp [indexM, h1]
            have h5 : ixD (.str [97, 65, 98, 66, 99, 67, 100, 68]) (.int i) μ = .ok (sg (swc c)) μ := by
              have : atI Lc (i : Int) = some (swc c) := by
                unfold atI
                have : ixN Lc.length (i : Int) = some i := by
                  unfold ixN
                  rw [if_pos (by omega), if_pos (by simp; omega)]
                  simp
                rw [this]
                exact h2
              simp [ixD, show atI [97, 65, 98, 66, 99, 67, 100, 68] (i : Int) = some (swc c) from this]
            simp [h4, h5])
        rw [List.map_map] at hc
        have hc2 : eComp [1] (.name 1) (iSeq (eRev (eVar 0))) cYes (eBin ixD (eC (.str [97, 65, 98, 66, 99, 67, 100, 68])) (eMs indexM (eC (.str [65, 97, 66, 98, 67, 99, 68, 100])) (aCons (eVar 1) aNil))) [some (.str x), none] μ = .ok (.ref μ.length) (μ ++ [.lst ((Wd.inv swc x).map sg)]) := by
          rw [hc]
          simp [Wd.inv, Function.comp_def]
        have hj := joinM_sg (μ := μ ++ [.lst ((Wd.inv swc x).map sg)]) (l := μ.length) (xs := Wd.inv swc x) (by simp) (by simp [Wd.inv]; omega)
        simp [m__law_inverse, hc2, hj]
      · trivial
    · trivial
/-! the stack -/
theorem sg_eq_nil (f : List Nat) : (f.map fun c => [c]) = [] ↔ f = [] := by simp
theorem last_at (f : List Nat) : atI (f.map sg) (-1) = f.getLast?.map sg := by
  unfold atI ixN
  by_cases h : f = []
  · subst h; simp
  · have : 0 < f.length := List.length_pos_iff.mpr h
    rw [if_neg (by omega), if_pos (by simp; omega)]
    simp only [Option.bind_some, List.length_map]
    have e : ((-1 : Int) + (f.length : Int)).toNat = f.length - 1 := by omega
    rw [e, List.getElem?_map, List.getLast?_eq_getElem?]
def redBody (gI : Fn) : Sd := sIf (tAndG (tB1 (eBin neG (eVar 1) (eLst (aNil)))) (tB1 (eBin eqG (eBin ixD (eVar 1) (eNeg (eC (.int 1)))) (eCall gI (aCons (eVar 2) (aNil)))))) (sExpr (eMl popM (eVar 1) aNil)) (sExpr (eMl appendM (eVar 1) (aCons (eVar 2) (aNil))))
theorem set_end {α : Type} (μ : List α) (o o' : α) (G : List α) : (μ ++ o :: G).set μ.length o' = μ ++ o' :: G := by
  rw [List.set_append_right _ _ (Nat.le_refl _)]
  simp
theorem redBody_step {gI : Fn} {μ0 G : Mem} {f : List Nat} {c : Nat} {w : D} (hI : ∀ μ, gI [.str [c]] μ = .ok (.str [swc c]) μ) (hf : f.length < 500000) :
    redBody gI [some w, some (.ref μ0.length), some (sg c)] (μ0 ++ .lst (f.map sg) :: G) = .nx [some w, some (.ref μ0.length), some (sg c)] (μ0 ++ .lst ((Wd.step swc f c).map sg) :: (G ++ [.lst []])) := by
  have h1 : (μ0 ++ .lst (f.map sg) :: G ++ [.lst []])[μ0.length]? = some (.lst (f.map sg)) := by simp
  have h2 : (μ0 ++ .lst (f.map sg) :: G ++ [.lst []])[(μ0 ++ .lst (f.map sg) :: G).length]? = some (.lst (([] : List (List Nat)).map .str)) := get_last1 _ _
  have hn := neG_strs (μ := μ0 ++ .lst (f.map sg) :: G ++ [.lst []]) (l := μ0.length) (k := (μ0 ++ .lst (f.map sg) :: G).length) (xs := f.map fun c => [c]) (ys := []) (by rw [h1, List.map_map]; rfl) h2
  have hx : ∀ t, f.getLast? = some t → ixD (.ref μ0.length) (.int (-1)) (μ0 ++ .lst (f.map sg) :: G ++ [.lst []]) = .ok (sg t) (μ0 ++ .lst (f.map sg) :: G ++ [.lst []]) := fun t ht => by
    simp only [ixD, seqOf, lstOf, h1, last_at, ht, Option.map_some]
  have e0 : μ0 ++ .lst (f.map sg) :: G ++ [.lst []] = μ0 ++ .lst (f.map sg) :: (G ++ [.lst []]) := by simp
  have hp : popM (.ref μ0.length) [] (μ0 ++ .lst (f.map sg) :: G ++ [.lst []]) = match f.getLast? with
      | some t => .ok (sg t) (μ0 ++ .lst (f.dropLast.map sg) :: (G ++ [.lst []]))
      | none => .bad := by
    simp only [popM, h1, List.getLast?_map]
    cases f.getLast? with
    | none => rfl
    | some t =>
      simp only [Option.map_some]
      rw [e0, set_end, ← List.map_dropLast]
  have ha : appendM (.ref μ0.length) [sg c] (μ0 ++ .lst (f.map sg) :: G ++ [.lst []]) = .ok .non (μ0 ++ .lst ((f ++ [c]).map sg) :: (G ++ [.lst []])) := by
    simp only [appendM, h1]
    rw [if_pos (by simp; omega), e0, set_end]
    simp
  have hI2 := hI (μ0 ++ .lst (f.map sg) :: G ++ [.lst []])
  rw [e0] at hn hx hp ha hI2
  cases hl : f.getLast? with
  | none =>
    have hf0 : f = [] := List.getLast?_eq_none_iff.mp hl
    subst hf0
    simp only [List.map_nil, List.length_append, List.length_cons, decide_true, Bool.not_true] at hn ha
    simp [redBody, Wd.step, hn, ha]
  | some t =>
    have hf0 : (f.map fun c => [c]) ≠ [] := by
      intro e
      have := (sg_eq_nil f).mp e
      subst this
      simp at hl
    rw [hl] at hp
    have hx1 := hx t hl
    simp only [List.length_append, List.length_cons] at hn
    by_cases ht : t = swc c
    · subst ht
      simp [redBody, Wd.step, hn, hl, hf0, hx1, hI2, hp]
    · simp [redBody, Wd.step, hn, hl, hf0, hx1, hI2, ha, ht]
theorem red_loop {gI : Fn} {w : D} (hw : ∀ c ∈ Lc, ∀ μ, gI [.str [c]] μ = .ok (.str [swc c]) μ) : ∀ (x f : List Nat) (μ0 G : Mem) (d : Option D), (∀ c ∈ x, c ∈ Lc) → f.length + x.length < 500000 →
    ∃ G', forG (.name 2) (redBody gI) [2] none (x.map sg) [some w, some (.ref μ0.length), d] (μ0 ++ .lst (f.map sg) :: G) = .nx [some w, some (.ref μ0.length), none] (μ0 ++ .lst ((Wd.run swc f x).map sg) :: G')
  | [], f, μ0, G, d, _, _ => ⟨G, by rw [List.map_nil, forG_nil]; rfl⟩
  | c :: x, f, μ0, G, d, hx, hl => by
    have hc := hw c (hx c List.mem_cons_self)
    have hs := redBody_step (G := G) (μ0 := μ0) (f := f) (w := w) hc (by simp at hl; omega)
    have h1 := Wd.step_len (i := swc) f c
    obtain ⟨G', e⟩ := red_loop hw x (Wd.step swc f c) μ0 (G ++ [.lst []]) (some (sg c)) (fun d hd => hx d (List.mem_cons_of_mem _ hd)) (by simp at hl; omega)
    refine ⟨G', ?_⟩
    rw [List.map_cons, forG_cons]
    have hs2 : redBody gI ([some w, some (.ref μ0.length), none].set 2 (some (sg c))) (μ0 ++ .lst (f.map sg) :: G) = _ := hs
    simp only [wipeR, tgD, List.set_cons_succ, List.set_cons_zero] at hs2 ⊢
    rw [hs2]
    exact e
def gRed : Fn := fun ds μ => match ds with
  | [.str x] => if gd x then .ok (.str (Wd.red swc x)) μ else .bad
  | _ => .bad
theorem gInv_sg : ∀ c ∈ Lc, ∀ μ, gInv [.str [c]] μ = .ok (.str [swc c]) μ := fun c hc μ => by
  have : gd [c] := ⟨okW_iff.mpr (by simpa using hc), by simp⟩
  show (if gd [c] then _ else _) = _
  rw [if_pos this]
  rfl
theorem red_drops {μ : Mem} {x : List Nat} (hm : CloM μ) (h : gd x) : Drops μ.length (.ok (.str (Wd.red swc x)) μ) (runD N_reduced_word (m_reduced_word gInv) [.str x] μ) := by
  obtain ⟨G', e⟩ := red_loop (gI := gInv) (w := .str x) gInv_sg x [] μ [] none (okW_iff.mp h.1) (by have := h.2; simp; omega)
  refine drops_ok (.lst ((Wd.red swc x).map sg) :: G') ?_ (fun n => clo_str n _) hm
  have hj := joinM_sg (μ := μ ++ .lst ((Wd.red swc x).map sg) :: G') (l := μ.length) (xs := Wd.red swc x) (by simp) (by have := Wd.red_len (i := swc) x; have := h.2; omega)
  have e2 : sFor [2] (.name 2) (iSeq (eVar 0)) (redBody gInv) [some (.str x), some (.ref μ.length), none] (μ ++ [.lst []]) = .nx [some (.str x), some (.ref μ.length), none] (μ ++ .lst ((Wd.red swc x).map sg) :: G') := by
    unfold sFor
    simp only [iSeq, eVar, List.getElem?_cons_zero, bind_okE, thn_ok]
    exact e
  unfold redBody at e2
  simp [m_reduced_word, e2, hj]
theorem ok_reduced_word {k : Nat} (T : Txt K mg) (Df_ : Df K mg "reduced_word" st_reduced_word ps_reduced_word) (C : Cal P w K mg base k "inverted" st_inverted ps_inverted gInv) : Cal P w K mg base (k + 1) "reduced_word" st_reduced_word ps_reduced_word gRed :=
  (c_reduced_word T Df_ C).drop fun ds μ hl hc hm => by
    unfold gRed
    split
    · split
      · rename_i h; exact red_drops hm h
      · trivial
    · trivial
theorem ok__law_reduced {k : Nat} (T : Txt K mg) (Df_ : Df K mg "_law_reduced" st__law_reduced ps__law_reduced) (C : Cal P w K mg base k "_law_inverse" st__law_inverse ps__law_inverse gInv) : Cal P w K mg base (k + 1) "_law_reduced" st__law_reduced ps__law_reduced gRed :=
  (c__law_reduced T Df_ C).drop fun ds μ hl hc hm => by
    unfold gRed
    split
    · split
      · rename_i h; exact red_drops hm h
      · trivial
    · trivial
/-! power_of, _law_power -/
def gPow : Fn := fun ds μ => match ds with
  | [.str x, .int n] => if okW x = true ∧ x.length * n.natAbs ≤ 400000 ∧ x.length ≤ 400000 ∧ n.natAbs ≤ 400000 then .ok (.str (Wd.red swc (Wd.pw swc x n))) μ else .bad
  | _ => .bad
theorem okW_rep {x : List Nat} (h : okW x = true) (n : Nat) : okW (Wd.rep x n) = true := okW_iff.mpr fun c hc => by
  obtain ⟨l, hl, hc⟩ := List.mem_flatten.mp hc
  rw [List.eq_of_mem_replicate hl] at hc
  exact okW_iff.mp h c hc
theorem rep_len (x : List Nat) (n : Nat) : (Wd.rep x n).length = n * x.length := by simp [Wd.rep]
theorem pow_run {μ : Mem} {x : List Nat} {n : Int} {f : Sd} (hx : okW x = true) (h1 : x.length * n.natAbs ≤ 400000) (h2 : x.length ≤ 400000) (h3 : n.natAbs ≤ 400000)
    (hf : f = sRet (eCall gRed (aCons (eIfG (tB1 (eBin geG (eVar 1) (eC (.int 0)))) (eBin mulD (eVar 0) (eVar 1)) (eBin mulD (eCall gInv (aCons (eVar 0) (aNil))) (eNeg (eVar 1)))) (aNil)))) :
    runD ["word", "n"] f [.str x, .int n] μ = .ok (.str (Wd.red swc (Wd.pw swc x n))) μ := by
  subst hf
  have hg : geG (.int n) (.int 0) μ = .ok (.bl (decide (n ≥ 0))) μ := geG_int μ n 0
  by_cases hn : n ≥ 0
  · have hm : mulD (.str x) (.int n) μ = .ok (.str (timesS x n.toNat)) μ := by
      simp only [mulD]
      rw [if_pos ⟨by rw [show n.toNat = n.natAbs by omega]; omega, by omega, by omega⟩]
    have hr : gRed [.str (timesS x n.toNat)] μ = .ok (.str (Wd.red swc (Wd.rep x n.toNat))) μ := by
      show (if gd (Wd.rep x n.toNat) then _ else _) = _
      rw [if_pos ⟨okW_rep hx _, by rw [rep_len, Nat.mul_comm, show n.toNat = n.natAbs by omega]; omega⟩]
      rfl
    simp [hg, hn, hm, hr, Wd.pw]
  · have hi : gInv [.str x] μ = .ok (.str (Wd.inv swc x)) μ := by
      show (if gd x then _ else _) = _
      rw [if_pos ⟨hx, h2⟩]
    have hil : (Wd.inv swc x).length = x.length := by simp [Wd.inv]
    have hm : mulD (.str (Wd.inv swc x)) (.int (-n)) μ = .ok (.str (timesS (Wd.inv swc x) (-n).toNat)) μ := by
      simp only [mulD]
      rw [if_pos ⟨by rw [hil, show (-n).toNat = n.natAbs by omega]; omega, by omega, by omega⟩]
    have hr : gRed [.str (timesS (Wd.inv swc x) (-n).toNat)] μ = .ok (.str (Wd.red swc (Wd.rep (Wd.inv swc x) (-n).toNat))) μ := by
      show (if gd (Wd.rep (Wd.inv swc x) (-n).toNat) then _ else _) = _
      rw [if_pos ⟨okW_rep (okW_inv hx) _, by rw [rep_len, hil, Nat.mul_comm, show (-n).toNat = n.natAbs by omega]; omega⟩]
      rfl
    simp [hg, hn, hi, hm, hr, Wd.pw]
theorem ok_power_of {k : Nat} (T : Txt K mg) (Df_ : Df K mg "power_of" st_power_of ps_power_of) (C : Cal P w K mg base k "reduced_word" st_reduced_word ps_reduced_word gRed) (C2 : Cal P w K mg base k "inverted" st_inverted ps_inverted gInv) : Cal P w K mg base (k + 1) "power_of" st_power_of ps_power_of gPow :=
  (c_power_of T Df_ C C2).drop fun ds μ hl hc hm => by
    unfold gPow
    split
    · split
      · rename_i h; exact drops_ok [] (by rw [List.append_nil]; exact pow_run h.1 h.2.1 h.2.2.1 h.2.2.2 rfl) (fun n => clo_str n _) hm
      · trivial
    · trivial
theorem ok__law_power {k : Nat} (T : Txt K mg) (Df_ : Df K mg "_law_power" st__law_power ps__law_power) (C : Cal P w K mg base k "_law_reduced" st__law_reduced ps__law_reduced gRed) (C2 : Cal P w K mg base k "_law_inverse" st__law_inverse ps__law_inverse gInv) : Cal P w K mg base (k + 1) "_law_power" st__law_power ps__law_power gPow :=
  (c__law_power T Df_ C C2).drop fun ds μ hl hc hm => by
    unfold gPow
    split
    · split
      · rename_i h; exact drops_ok [] (by rw [List.append_nil]; exact pow_run h.1 h.2.1 h.2.2.1 h.2.2.2 rfl) (fun n => clo_str n _) hm
      · trivial
    · trivial
/-! the checks -/
def gChk : Fn := fun ds μ => match ds with
  | [d] => match kdOf μ d with
    | some _ => if szD d = true then (if isWd Lc d = true then .ok .non μ else .ex eW μ) else .bad
    | none => .bad
  | _ => .bad
theorem ok_check_word {k : Nat} (T : Txt K mg) (Df_ : Df K mg "check_word" st_check_word ps_check_word) (C : Cal P w K mg base k "is_word_in" st_is_word_in ps_is_word_in gIsWordIn) : Cal P w K mg base (k + 1) "check_word" st_check_word ps_check_word gChk :=
  (c_check_word T Df_ C).drop fun ds μ hl hc hm => by
    unfold gChk
    split
    · split
      · rename_i d _ kk e
        split
        · rename_i hz
          have h1 : gIsWordIn [.str [97, 65, 98, 66, 99, 67, 100, 68], d] μ = .ok (.bl (isWd Lc d)) μ := by simp only [gIsWordIn, e, hz, if_true]
          split
          · rename_i hw
            exact drops_ok [] (by simp [m_check_word, h1, hw]) (fun n => clo_non n) hm
          · rename_i hw
            exact drops_ex [] (by simp [m_check_word, h1, hw]) hm
        · trivial
      · trivial
    · trivial
def gChk2 : Fn := fun ds μ => match ds with
  | [d, e] => match kdOf μ d, kdOf μ e with
    | some _, some _ => if szD d = true ∧ szD e = true then (if isWd Lc d = true ∧ isWd Lc e = true then .ok .non μ else .ex eW μ) else .bad
    | _, _ => .bad
  | _ => .bad
theorem gChk_ok {μ : Mem} {d : D} {kk : Kd} (e : kdOf μ d = some kk) (hz : szD d = true) (hw : isWd Lc d = true) : gChk [d] μ = .ok .non μ := by simp only [gChk, e, hz, hw, if_true]
theorem gChk_ex {μ : Mem} {d : D} {kk : Kd} (e : kdOf μ d = some kk) (hz : szD d = true) (hw : ¬ isWd Lc d = true) : gChk [d] μ = .ex eW μ := by simp [gChk, e, hz, hw]
theorem ok_check_two_words {k : Nat} (T : Txt K mg) (Df_ : Df K mg "check_two_words" st_check_two_words ps_check_two_words) (C : Cal P w K mg base k "check_word" st_check_word ps_check_word gChk) : Cal P w K mg base (k + 1) "check_two_words" st_check_two_words ps_check_two_words gChk2 :=
  (c_check_two_words T Df_ C).drop fun ds μ hl hc hm => by
    unfold gChk2
    split
    · split
      · rename_i d e _ _ k1 k2 e1 e2
        split
        · rename_i hz
          split
          · rename_i hw
            exact drops_ok [] (by simp [m_check_two_words, gChk_ok e1 hz.1 hw.1, gChk_ok e2 hz.2 hw.2]) (fun n => clo_non n) hm
          · rename_i hw
            refine drops_ex [] ?_ hm
            by_cases h1 : isWd Lc d = true
            · simp [m_check_two_words, gChk_ok e1 hz.1 h1, gChk_ex e2 hz.2 fun h2 => hw ⟨h1, h2⟩]
              rfl
            · simp [m_check_two_words, gChk_ex e1 hz.1 h1]
              rfl
        · trivial
      · trivial
    · trivial
def gChkN : Fn := fun ds μ => match ds with
  | [d] => match kdOf μ d with
    | some _ => if isInt d = true then .ok .non μ else .ex eN μ
    | none => .bad
  | _ => .bad
theorem ok_check_number {k : Nat} (T : Txt K mg) (Df_ : Df K mg "check_number" st_check_number ps_check_number) (C : Cal P w K mg base k "is_integer" st_is_integer ps_is_integer gIsInteger) : Cal P w K mg base (k + 1) "check_number" st_check_number ps_check_number gChkN :=
  (c_check_number T Df_ C).drop fun ds μ hl hc hm => by
    unfold gChkN
    split
    · split
      · rename_i d _ kk e
        have h1 : gIsInteger [d] μ = .ok (.bl (isInt d)) μ := by simp only [gIsInteger, e]
        split
        · rename_i hw
          exact drops_ok [] (by simp [m_check_number, h1, hw]) (fun n => clo_non n) hm
        · rename_i hw
          exact drops_ex [] (by simp [m_check_number, h1, hw]) hm
      · trivial
    · trivial
/-! the five -/
def strOf : D → List Nat | .str x => x | _ => []
theorem isWd_str {d : D} (h : isWd Lc d = true) : ∃ x, d = .str x ∧ okW x = true := by
  cases d with
  | str x => exact ⟨x, rfl, h⟩
  | _ => cases h
def gIsWord : Fn := fun ds μ => match ds with
  | [d] => match kdOf μ d with
    | some _ => if szD d = true then .ok (.bl (isWd Lc d)) μ else .bad
    | none => .bad
  | _ => .bad
theorem ok_is_word {k : Nat} (T : Txt K mg) (Df_ : Df K mg "is_word" st_is_word ps_is_word) (C : Cal P w K mg base k "is_word_in" st_is_word_in ps_is_word_in gIsWordIn) : Cal P w K mg base (k + 1) "is_word" st_is_word ps_is_word gIsWord :=
  (c_is_word T Df_ C).drop fun ds μ hl hc hm => by
    unfold gIsWord
    split
    · split
      · rename_i d _ kk e
        split
        · rename_i hz
          have h1 : gIsWordIn [.str [97, 65, 98, 66, 99, 67, 100, 68], d] μ = .ok (.bl (isWd Lc d)) μ := by simp only [gIsWordIn, e, hz, if_true]
          exact drops_ok [] (by simp [m_is_word, h1]) (fun n => clo_bl n _) hm
        · trivial
      · trivial
    · trivial
def gInverse : Fn := fun ds μ => match ds with
  | [d] => match kdOf μ d with
    | some _ => if szD d = true then (if isWd Lc d = true then .ok (.str (Wd.inv swc (strOf d))) μ else .ex eW μ) else .bad
    | none => .bad
  | _ => .bad
theorem gInv_ok {μ : Mem} {x : List Nat} (h : okW x = true) (hl : x.length ≤ 400000) : gInv [.str x] μ = .ok (.str (Wd.inv swc x)) μ := if_pos ⟨h, hl⟩
theorem gRed_ok {μ : Mem} {x : List Nat} (h : okW x = true) (hl : x.length ≤ 400000) : gRed [.str x] μ = .ok (.str (Wd.red swc x)) μ := if_pos ⟨h, hl⟩
theorem sz_str {x : List Nat} (h : szD (.str x) = true) : x.length ≤ 100000 := of_decide_eq_true h
theorem ok_inverse {k : Nat} (T : Txt K mg) (Df_ : Df K mg "inverse" st_inverse ps_inverse) (C : Cal P w K mg base k "check_word" st_check_word ps_check_word gChk) (C2 : Cal P w K mg base k "inverted" st_inverted ps_inverted gInv) : Cal P w K mg base (k + 1) "inverse" st_inverse ps_inverse gInverse :=
  (c_inverse T Df_ C C2).drop fun ds μ hl hc hm => by
    unfold gInverse
    split
    · split
      · rename_i d _ kk e
        split
        · rename_i hz
          split
          · rename_i hw
            obtain ⟨x, rfl, hx⟩ := isWd_str hw
            have := sz_str hz
            exact drops_ok [] (by simp [m_inverse, gChk_ok e hz hw, gInv_ok (μ := μ) hx (by omega), strOf]) (fun n => clo_str n _) hm
          · rename_i hw
            exact drops_ex [] (by simp [m_inverse, gChk_ex e hz hw]; rfl) hm
        · trivial
      · trivial
    · trivial
def gReduced : Fn := fun ds μ => match ds with
  | [d] => match kdOf μ d with
    | some _ => if szD d = true then (if isWd Lc d = true then .ok (.str (Wd.red swc (strOf d))) μ else .ex eW μ) else .bad
    | none => .bad
  | _ => .bad
theorem ok_reduced {k : Nat} (T : Txt K mg) (Df_ : Df K mg "reduced" st_reduced ps_reduced) (C : Cal P w K mg base k "check_word" st_check_word ps_check_word gChk) (C2 : Cal P w K mg base k "reduced_word" st_reduced_word ps_reduced_word gRed) : Cal P w K mg base (k + 1) "reduced" st_reduced ps_reduced gReduced :=
  (c_reduced T Df_ C C2).drop fun ds μ hl hc hm => by
    unfold gReduced
    split
    · split
      · rename_i d _ kk e
        split
        · rename_i hz
          split
          · rename_i hw
            obtain ⟨x, rfl, hx⟩ := isWd_str hw
            have := sz_str hz
            exact drops_ok [] (by simp [m_reduced, gChk_ok e hz hw, gRed_ok (μ := μ) hx (by omega), strOf]) (fun n => clo_str n _) hm
          · rename_i hw
            exact drops_ex [] (by simp [m_reduced, gChk_ex e hz hw]; rfl) hm
        · trivial
      · trivial
    · trivial
theorem gChk2_ok {μ : Mem} {d e : D} {k1 k2 : Kd} (e1 : kdOf μ d = some k1) (e2 : kdOf μ e = some k2) (z1 : szD d = true) (z2 : szD e = true) (h1 : isWd Lc d = true) (h2 : isWd Lc e = true) : gChk2 [d, e] μ = .ok .non μ := by simp [gChk2, e1, e2, z1, z2, h1, h2]
theorem gChk2_ex {μ : Mem} {d e : D} {k1 k2 : Kd} (e1 : kdOf μ d = some k1) (e2 : kdOf μ e = some k2) (z1 : szD d = true) (z2 : szD e = true) (h : ¬ (isWd Lc d = true ∧ isWd Lc e = true)) : gChk2 [d, e] μ = .ex eW μ := by
  simp only [gChk2, e1, e2, z1, z2, and_self, if_true]
  rw [if_neg h]
def gProduct : Fn := fun ds μ => match ds with
  | [d, e] => match kdOf μ d, kdOf μ e with
    | some _, some _ => if szD d = true ∧ szD e = true then (if isWd Lc d = true ∧ isWd Lc e = true then .ok (.str (Wd.red swc (strOf d ++ strOf e))) μ else .ex eW μ) else .bad
    | _, _ => .bad
  | _ => .bad
theorem ok_product {k : Nat} (T : Txt K mg) (Df_ : Df K mg "product" st_product ps_product) (C : Cal P w K mg base k "check_two_words" st_check_two_words ps_check_two_words gChk2) (C2 : Cal P w K mg base k "reduced_word" st_reduced_word ps_reduced_word gRed) : Cal P w K mg base (k + 1) "product" st_product ps_product gProduct :=
  (c_product T Df_ C C2).drop fun ds μ hl hc hm => by
    unfold gProduct
    split
    · split
      · rename_i d e _ _ k1 k2 e1 e2
        split
        · rename_i hz
          split
          · rename_i hw
            obtain ⟨x, rfl, hx⟩ := isWd_str hw.1
            obtain ⟨y, rfl, hy⟩ := isWd_str hw.2
            have q1 := sz_str hz.1
            have q2 := sz_str hz.2
            have ha : addD (.str x) (.str y) μ = .ok (.str (x ++ y)) μ := if_pos (by omega)
            exact drops_ok [] (by simp [m_product, gChk2_ok e1 e2 hz.1 hz.2 hw.1 hw.2, ha, gRed_ok (μ := μ) (okW_app hx hy) (by simp; omega), strOf]) (fun n => clo_str n _) hm
          · rename_i hw
            exact drops_ex [] (by simp [m_product, gChk2_ex e1 e2 hz.1 hz.2 hw]; rfl) hm
        · trivial
      · trivial
    · trivial
def intOf : D → Int | .int x => x | _ => 0
def gPower : Fn := fun ds μ => match ds with
  | [d, e] => match kdOf μ d, kdOf μ e with
    | some _, some _ => if szD d = true ∧ (strOf d).length * (intOf e).natAbs ≤ 400000 ∧ (intOf e).natAbs ≤ 400000 then (if isWd Lc d = true then (if isInt e = true then .ok (.str (Wd.red swc (Wd.pw swc (strOf d) (intOf e)))) μ else .ex eN μ) else .ex eW μ) else .bad
    | _, _ => .bad
  | _ => .bad
theorem ok_power {k : Nat} (T : Txt K mg) (Df_ : Df K mg "power" st_power ps_power) (C : Cal P w K mg base k "check_word" st_check_word ps_check_word gChk) (C2 : Cal P w K mg base k "check_number" st_check_number ps_check_number gChkN) (C3 : Cal P w K mg base k "power_of" st_power_of ps_power_of gPow) : Cal P w K mg base (k + 1) "power" st_power ps_power gPower :=
  (c_power T Df_ C C2 C3).drop fun ds μ hl hc hm => by
    unfold gPower
    split
    · split
      · rename_i d e _ _ k1 k2 e1 e2
        split
        · rename_i hz
          split
          · rename_i hw
            split
            · rename_i hi
              obtain ⟨x, rfl, hx⟩ := isWd_str hw
              obtain ⟨n, rfl⟩ : ∃ n, e = .int n := by cases e <;> first | exact ⟨_, rfl⟩ | cases hi
              have q1 := sz_str hz.1
              have hn : gChkN [.int n] μ = .ok .non μ := by simp [gChkN, isInt]
              have hp : gPow [.str x, .int n] μ = .ok (.str (Wd.red swc (Wd.pw swc x n))) μ := if_pos ⟨hx, hz.2.1, by omega, hz.2.2⟩
              exact drops_ok [] (by simp [m_power, gChk_ok e1 hz.1 hw, hn, hp, strOf, intOf]) (fun n => clo_str n _) hm
            · rename_i hi
              have hn : gChkN [e] μ = .ex eN μ := by simp [gChkN, e2, hi]
              exact drops_ex [] (by simp [m_power, gChk_ok e1 hz.1 hw, hn]; rfl) hm
          · rename_i hw
            exact drops_ex [] (by simp [m_power, gChk_ex e1 hz.1 hw]; rfl) hm
        · trivial
      · trivial
    · trivial
/-! the sequence of words -/
def rk (c : Nat) : Int := ((ixOf Lc c).getD 0 : Nat)
def keyP (x : List Nat) : PyData := .tuple [.int x.length, .list (x.map fun c => .int (rk c))]
def ltW (x y : List Nat) : Bool := PySem.W.dataLt (keyP x) (keyP y)
theorem rk_ix : ∀ c ∈ Lc, ∃ i, ixOf Lc c = some i ∧ rk c = (i : Int) := by
  intro c hc
  simp only [Lc, List.mem_cons, List.not_mem_nil, or_false] at hc
  rcases hc with rfl | rfl | rfl | rfl | rfl | rfl | rfl | rfl <;> exact ⟨_, rfl, rfl⟩
theorem rk_inj : ∀ c ∈ Lc, ∀ d ∈ Lc, rk c = rk d → c = d := by decide
def gRank : Fn := fun ds μ => match ds with
  | [.str [c]] => if c ∈ Lc then .ok (.int (rk c)) μ else .bad
  | _ => .bad
theorem ix_Lc {μ : Mem} {c : Nat} (h : c ∈ Lc) : indexM (.str [97, 65, 98, 66, 99, 67, 100, 68]) [.str [c]] μ = .ok (.int (rk c)) μ := by
  obtain ⟨i, h1, h2⟩ := rk_ix c h
  simp only [indexM, show ixOf [97, 65, 98, 66, 99, 67, 100, 68] c = some i from h1, h2]
theorem ok_rank {k : Nat} (T : Txt K mg) (Df_ : Df K mg "rank" st_rank ps_rank) : Cal P w K mg base (k + 1) "rank" st_rank ps_rank gRank :=
  (c_rank T Df_).drop fun ds μ hl hc hm => by
    unfold gRank
    split
    · split
      · rename_i c h
        exact drops_ok [] (by simp [m_rank, ix_Lc (μ := μ) h]) (fun n => clo_int n _) hm
      · trivial
    · trivial
def gKey : Fn := fun ds μ => match ds with
  | [.str x] => if okW x = true ∧ x.length ≤ 100000 then .ok (.tup [.int x.length, .ref μ.length]) (μ ++ [.lst (x.map fun c => .int (rk c))]) else .bad
  | _ => .bad
theorem key_run {μ : Mem} {x : List Nat} {el : Ev} {f : Sd} (hx : okW x = true) (hl : x.length ≤ 100000) (hel : ∀ c ∈ Lc, el [some (.str x), some (sg c)] μ = .ok (.int (rk c)) μ)
    (hf : f = sRet (eTup (aCons (eCb lenD (aCons (eVar 0) (aNil))) (aCons (eComp [1] (.name 1) (iSeq (eVar 0)) (cYes) el) (aNil))))) :
    runD ["word", "letter"] f [.str x] μ = .ok (.tup [.int x.length, .ref μ.length]) (μ ++ [.lst (x.map fun c => .int (rk c))]) := by
  subst hf
  have hc := eComp_map (ws := [1]) (t := .name 1) (src := iSeq (eVar 0)) (el := el) (ρ := [some (.str x), none]) (μ := μ) (μ1 := μ) (xs := x.map sg) (wt := none) (by simp) (by simp; omega) wtOk_none
    (fun d => match d with | .str [c] => .int (rk c) | _ => .non) (by
      intro d hd
      obtain ⟨c, hc, rfl⟩ := List.mem_map.mp hd
      exact ⟨_, rfl, hel c (okW_iff.mp hx c hc)⟩)
  rw [List.map_map] at hc
  have hc2 : eComp [1] (.name 1) (iSeq (eVar 0)) cYes el [some (.str x), none] μ = .ok (.ref μ.length) (μ ++ [.lst (x.map fun c => .int (rk c))]) := hc
  have hlen : lenD [.str x] μ = .ok (.int x.length) μ := if_pos (by omega)
  simp [hc2, hlen]
theorem key_drops {μ : Mem} {x : List Nat} (hm : CloM μ) : Drops μ.length (.ok (.tup [.int x.length, .ref μ.length]) (μ ++ [.lst (x.map fun c => .int (rk c))])) (.ok (.tup [.int x.length, .ref μ.length]) (μ ++ [.lst (x.map fun c => .int (rk c))])) := by
  refine ⟨[], by simp, ?_, cloM_append hm ?_, by simp⟩
  · simp [Clo, CloL]
  · show CloL _ _
    rw [cloL_iff]
    intro d hd
    obtain ⟨c, _, rfl⟩ := List.mem_map.mp hd
    exact clo_int _ _
theorem ok_word_key {k : Nat} (T : Txt K mg) (Df_ : Df K mg "word_key" st_word_key ps_word_key) (C : Cal P w K mg base k "rank" st_rank ps_rank gRank) : Cal P w K mg base (k + 1) "word_key" st_word_key ps_word_key gKey :=
  (c_word_key T Df_ C).drop fun ds μ hl hc hm => by
    unfold gKey
    split
    · split
      · rename_i x h
        rw [key_run (f := m_word_key gRank) h.1 h.2 (fun c hc => by simp [show gRank [.str [c]] μ = .ok (.int (rk c)) μ from if_pos hc]) rfl]
        exact key_drops hm
      · trivial
    · trivial
theorem ok__law_key {k : Nat} (T : Txt K mg) (Df_ : Df K mg "_law_key" st__law_key ps__law_key) : Cal P w K mg base (k + 1) "_law_key" st__law_key ps__law_key gKey :=
  (c__law_key T Df_).drop fun ds μ hl hc hm => by
    unfold gKey
    split
    · split
      · rename_i x h
        rw [key_run (f := m__law_key) h.1 h.2 (fun c hc => by simp [ix_Lc (μ := μ) hc]) rfl]
        exact key_drops hm
      · trivial
    · trivial
def gLt : Fn := fun ds μ => match ds with
  | [.str x, .str y] => if okW x = true ∧ okW y = true ∧ x.length ≤ 100000 ∧ y.length ≤ 100000 then .ok (.bl (ltW x y)) μ else .bad
  | _ => .bad
theorem alike_ints : ∀ xs ys : List Int, PySem.W.alikeAll (xs.map .int) (ys.map .int) = true
  | [], ys => by simp [PySem.W.alikeAll]
  | x :: r, [] => by simp [PySem.W.alikeAll]
  | x :: r, y :: s => by simp [PySem.W.alikeAll, PySem.W.alike, alike_ints r s]
theorem alike_key (x y : List Nat) : PySem.W.alike (keyP x) (keyP y) = true := by
  have h := alike_ints (x.map rk) (y.map rk)
  rw [List.map_map, List.map_map] at h
  have h2 : PySem.W.alikeAll (x.map fun c => .int (rk c)) (y.map fun c => .int (rk c)) = true := h
  simp [keyP, PySem.W.alike, PySem.W.alikeAll, h2]
theorem py_key {μ : Mem} {x : List Nat} {l n : Nat} (h : μ[l]? = some (.lst (x.map fun c => .int (rk c)))) : pyOf μ (n + 2) (.tup [.int x.length, .ref l]) = some (keyP x) := by
  have h1 : pyOf μ (n + 1) (.ref l) = some (.list (x.map fun c => .int (rk c))) := by
    rw [py_lst (g := pyS) h fun d hd => ?_]
    · rw [List.map_map]; rfl
    · obtain ⟨c, _, rfl⟩ := List.mem_map.mp hd
      exact py_int μ n _
  show (allS [pyOf μ (n + 1) (.int x.length), pyOf μ (n + 1) (.ref l)]).map PyData.tuple = _
  rw [h1, py_int]
  rfl
def kL (x : List Nat) : O := .lst (x.map fun c => .int (rk c))
theorem lt_run {μ : Mem} {x y : List Nat} {f : Sd} (h : okW x = true ∧ okW y = true ∧ x.length ≤ 100000 ∧ y.length ≤ 100000) (hf : f = sRet (eBin ltG (eCall gKey (aCons (eVar 0) (aNil))) (eCall gKey (aCons (eVar 1) (aNil))))) :
    runD ["word", "other"] f [.str x, .str y] μ = .ok (.bl (ltW x y)) (μ ++ [kL x, kL y]) := by
  subst hf
  have h1 : gKey [.str x] μ = .ok (.tup [.int x.length, .ref μ.length]) (μ ++ [kL x]) := if_pos ⟨h.1, h.2.2.1⟩
  have h2 : gKey [.str y] (μ ++ [kL x]) = .ok (.tup [.int y.length, .ref (μ ++ [kL x]).length]) (μ ++ [kL x] ++ [kL y]) := if_pos ⟨h.2.1, h.2.2.2⟩
  have e : μ ++ [kL x] ++ [kL y] = μ ++ [kL x, kL y] := by simp
  have e2 : (μ ++ [kL x]).length = μ.length + 1 := by simp
  have h3 : ltG (.tup [.int x.length, .ref μ.length]) (.tup [.int y.length, .ref (μ.length + 1)]) (μ ++ [kL x, kL y]) = .ok (.bl (ltW x y)) (μ ++ [kL x, kL y]) := by
    unfold ltG
    refine datD_ok (py_key (n := 10) ?_) (py_key (n := 10) ?_) ?_
    · simp [kL]
    · rw [← e, ← e2]; exact get_last1 _ _
    · unfold ordOk
      rw [alike_key]
      rfl
  rw [e, e2] at h2
  simp [h1, h2, h3]
theorem ok_is_below {k : Nat} (T : Txt K mg) (Df_ : Df K mg "is_below" st_is_below ps_is_below) (C : Cal P w K mg base k "word_key" st_word_key ps_word_key gKey) : Cal P w K mg base (k + 1) "is_below" st_is_below ps_is_below gLt :=
  (c_is_below T Df_ C).drop fun ds μ hl hc hm => by
    unfold gLt
    split
    · split
      · rename_i h
        exact drops_ok _ (lt_run h rfl) (fun n => clo_bl n _) hm
      · trivial
    · trivial
theorem ok__law_less {k : Nat} (T : Txt K mg) (Df_ : Df K mg "_law_less" st__law_less ps__law_less) (C : Cal P w K mg base k "_law_key" st__law_key ps__law_key gKey) : Cal P w K mg base (k + 1) "_law_less" st__law_less ps__law_less gLt :=
  (c__law_less T Df_ C).drop fun ds μ hl hc hm => by
    unfold gLt
    split
    · split
      · rename_i h
        exact drops_ok _ (lt_run h rfl) (fun n => clo_bl n _) hm
      · trivial
    · trivial
def gLess : Fn := fun ds μ => match ds with
  | [d, e] => match kdOf μ d, kdOf μ e with
    | some _, some _ => if szD d = true ∧ szD e = true then (if isWd Lc d = true ∧ isWd Lc e = true then .ok (.bl (ltW (strOf d) (strOf e))) μ else .ex eW μ) else .bad
    | _, _ => .bad
  | _ => .bad
theorem ok_is_less {k : Nat} (T : Txt K mg) (Df_ : Df K mg "is_less" st_is_less ps_is_less) (C : Cal P w K mg base k "check_two_words" st_check_two_words ps_check_two_words gChk2) (C2 : Cal P w K mg base k "is_below" st_is_below ps_is_below gLt) : Cal P w K mg base (k + 1) "is_less" st_is_less ps_is_less gLess :=
  (c_is_less T Df_ C C2).drop fun ds μ hl hc hm => by
    unfold gLess
    split
    · split
      · rename_i d e _ _ k1 k2 e1 e2
        split
        · rename_i hz
          split
          · rename_i hw
            obtain ⟨x, rfl, hx⟩ := isWd_str hw.1
            obtain ⟨y, rfl, hy⟩ := isWd_str hw.2
            have q1 := sz_str hz.1
            have q2 := sz_str hz.2
            have hL : gLt [.str x, .str y] μ = .ok (.bl (ltW x y)) μ := if_pos ⟨hx, hy, q1, q2⟩
            exact drops_ok [] (by simp [m_is_less, gChk2_ok e1 e2 hz.1 hz.2 hw.1 hw.2, hL, strOf]) (fun n => clo_bl n _) hm
          · rename_i hw
            exact drops_ex [] (by simp [m_is_less, gChk2_ex e1 e2 hz.1 hz.2 hw]; rfl) hm
        · trivial
      · trivial
    · trivial
/-! the sequence is one -/
theorem toks_ints : ∀ xs ys : List Int, PySem.W.keyToksAll (xs.map .int) = PySem.W.keyToksAll (ys.map .int) → xs = ys
  | [], [], _ => rfl
  | [], y :: s, h => by simp [PySem.W.keyToksAll, PySem.W.keyToks] at h
  | x :: r, [], h => by simp [PySem.W.keyToksAll, PySem.W.keyToks] at h
  | x :: r, y :: s, h => by
    simp [PySem.W.keyToksAll, PySem.W.keyToks] at h
    rw [h.1, toks_ints r s h.2]
theorem map_rk_inj : ∀ {x y : List Nat}, (∀ c ∈ x, c ∈ Lc) → (∀ c ∈ y, c ∈ Lc) → x.map rk = y.map rk → x = y
  | [], [], _, _, _ => rfl
  | [], y :: s, _, _, h => by simp at h
  | x :: r, [], _, _, h => by simp at h
  | x :: r, y :: s, h1, h2, h => by
    simp at h
    rw [rk_inj x (h1 x List.mem_cons_self) y (h2 y List.mem_cons_self) h.1, map_rk_inj (fun c hc => h1 c (List.mem_cons_of_mem _ hc)) (fun c hc => h2 c (List.mem_cons_of_mem _ hc)) h.2]
theorem key_inj {x y : List Nat} (hx : okW x = true) (hy : okW y = true) (h : PySem.W.keyToks (keyP x) = PySem.W.keyToks (keyP y)) : x = y := by
  have e1 : ∀ x : List Nat, (x.map fun c => PyData.int (rk c)) = (x.map rk).map .int := fun x => by rw [List.map_map]; rfl
  simp only [keyP, PySem.W.keyToks, PySem.W.keyToksAll, e1] at h
  simp at h
  refine map_rk_inj (okW_iff.mp hx) (okW_iff.mp hy) (toks_ints _ _ ?_)
  rw [List.map_map, List.map_map]
  exact h.2
theorem lt_self (x : List Nat) : ltW x x = false := PyProof.Rows.lex_irrefl _
theorem lt_asym {x y : List Nat} (h : ltW x y = true) : ltW y x = false := by
  cases h2 : ltW y x with
  | false => rfl
  | true =>
    have := PyProof.Rows.lex_trans _ _ _ h h2
    rw [PyProof.Rows.lex_irrefl] at this
    cases this
theorem lt_total {x y : List Nat} (hx : okW x = true) (hy : okW y = true) (h : ltW x y = false) (h' : ltW y x = false) : x = y := key_inj hx hy (PyProof.Rows.lex_total _ _ h h')
end
end K00

namespace K00
open PySem PySem.Spec PyProof.Rows L2 G
/-! the pool -/
abbrev Pl := Int × Int × Int
def plO (p : Pl) : O := .lst [.int p.1, .int p.2.1, .int p.2.2]
def nxt (pl : Pl) (many : Int) : Int × Pl := if pl.1 > 0 then (pl.1 % many, (pl.1 / many, pl.2.1, pl.2.2 + 1)) else
  (((pl.2.1 * 48271131 + (pl.2.2 + 1) * (pl.2.2 + 1) * 65537 + 9176) % 2305843009213693951) / 524288 % many, (pl.1, (pl.2.1 * 48271131 + (pl.2.2 + 1) * (pl.2.2 + 1) * 65537 + 9176) % 2305843009213693951, pl.2.2 + 1))
theorem nxt_lt (pl : Pl) {many : Int} (h : 0 < many) : 0 ≤ (nxt pl many).1 ∧ (nxt pl many).1 < many := by
  unfold nxt
  split
  · exact ⟨Int.emod_nonneg _ (by omega), Int.emod_lt_of_pos _ h⟩
  · exact ⟨Int.emod_nonneg _ (by omega), Int.emod_lt_of_pos _ h⟩
theorem nxt_c (pl : Pl) (many : Int) : (nxt pl many).2.2.2 = pl.2.2 + 1 := by
  unfold nxt
  split <;> rfl
theorem ix3 {μ : Mem} {p : Nat} {a b c : D} (h : μ[p]? = some (.lst [a, b, c])) : ixD (.ref p) (.int 0) μ = .ok a μ ∧ ixD (.ref p) (.int 1) μ = .ok b μ ∧ ixD (.ref p) (.int 2) μ = .ok c μ := by
  refine ⟨?_, ?_, ?_⟩ <;> simp [ixD, seqOf, lstOf, h, atI, ixN]
theorem st3 {μ : Mem} {p : Nat} {a b c v : D} (h : μ[p]? = some (.lst [a, b, c])) : setIx (.ref p) (.int 0) v μ = .ok () (μ.set p (.lst [v, b, c])) ∧ setIx (.ref p) (.int 1) v μ = .ok () (μ.set p (.lst [a, v, c])) ∧ setIx (.ref p) (.int 2) v μ = .ok () (μ.set p (.lst [a, b, v])) := by
  refine ⟨?_, ?_, ?_⟩ <;> simp [setIx, h, ixN]
theorem at_set {μ : Mem} {p : Nat} {o o' : O} (h : μ[p]? = some o) : (μ.set p o')[p]? = some o' := by
  rw [List.getElem?_set_self (List.getElem?_eq_some_iff.mp h).1]
@[simp] theorem toInt_int (μ : Mem) (i : Int) : toInt [.int i] μ = .ok (.int i) μ := rfl
@[simp] theorem add_int (μ : Mem) (i j : Int) : addD (.int i) (.int j) μ = .ok (.int (i + j)) μ := rfl
@[simp] theorem sub_int (μ : Mem) (i j : Int) : subD (.int i) (.int j) μ = .ok (.int (i - j)) μ := rfl
theorem mul_int' {μ : Mem} {i j : Int} (h : mulOk i j = true) : mulD (.int i) (.int j) μ = .ok (.int (i * j)) μ := if_pos h
theorem mul_l {μ : Mem} {i j : Int} (h1 : -(2 ^ 64) < i) (h2 : i < 2 ^ 64) : mulD (.int i) (.int j) μ = .ok (.int (i * j)) μ := mul_int' (by unfold mulOk; simp; left; omega)
theorem mul_r {μ : Mem} {i j : Int} (h1 : -(2 ^ 64) < j) (h2 : j < 2 ^ 64) : mulD (.int i) (.int j) μ = .ok (.int (i * j)) μ := mul_int' (by unfold mulOk; simp; right; omega)
theorem mod_int' {μ : Mem} {i j : Int} (h : 0 < j) : modD (.int i) (.int j) μ = .ok (.int (i % j)) μ := by simp [modD, G.intD, h]
theorem fdiv_int' {μ : Mem} {i j : Int} (h : 0 < j) (h2 : j < 1073741824) : fdivD (.int i) (.int j) μ = .ok (.int (i / j)) μ := by simp [fdivD, G.intD, h, h2]
noncomputable def gNext : Fn := clean (runD N__law_next m__law_next)
theorem next_eq {μ : Mem} {p : Nat} {pl : Pl} {many : Int} (h : μ[p]? = some (plO pl)) (hc : 0 ≤ pl.2.2) (hc2 : pl.2.2 < 2 ^ 62) (hm : 0 < many) (hm2 : many < 1000000000) :
    gNext [.ref p, .int many] μ = .ok (.int (nxt pl many).1) (μ.set p (plO (nxt pl many).2)) := by
  obtain ⟨a, b, c⟩ := pl
  have h : μ[p]? = some (.lst [.int a, .int b, .int c]) := h
  dsimp only at hc hc2
  refine clean_set [] ?_ (fun _ _ => clo_int _ _) (fun _ => ?_)
  · have i0 := ix3 h
    have s0 := (st3 (v := .int (c + 1)) h).2.2
    have h1 := at_set (o' := .lst [.int a, .int b, .int (c + 1)]) h
    have i1 := ix3 h1
    have hmod : ∀ μ' : Mem, ∀ i, modD (.int i) (.int many) μ' = .ok (.int (i % many)) μ' := fun μ' i => mod_int' hm
    have hdiv : ∀ μ' : Mem, ∀ i, fdivD (.int i) (.int many) μ' = .ok (.int (i / many)) μ' := fun μ' i => fdiv_int' hm (by omega)
    rw [List.append_nil]
    by_cases ha : a > 0
    · have s1 := (st3 (v := .int (a / many)) h1).1
      simp [m__law_next, i0, s0, i1, hmod, hdiv, ha, nxt, plO, s1]
    · have m1 : ∀ μ' : Mem, mulD (.int b) (.int 48271131) μ' = .ok (.int (b * 48271131)) μ' := fun _ => mul_r (by omega) (by omega)
      have m2 : ∀ μ' : Mem, mulD (.int (c + 1)) (.int (c + 1)) μ' = .ok (.int ((c + 1) * (c + 1))) μ' := fun _ => mul_r (by omega) (by omega)
      have m3 : ∀ μ' : Mem, ∀ x, mulD (.int x) (.int 65537) μ' = .ok (.int (x * 65537)) μ' := fun _ _ => mul_r (by omega) (by omega)
      have m4 : ∀ μ' : Mem, ∀ x, modD (.int x) (.int 2305843009213693951) μ' = .ok (.int (x % 2305843009213693951)) μ' := fun _ _ => mod_int' (by omega)
      have m5 : ∀ μ' : Mem, ∀ x, fdivD (.int x) (.int 524288) μ' = .ok (.int (x / 524288)) μ' := fun _ _ => fdiv_int' (by omega) (by omega)
      have s1 := (st3 (v := .int ((b * 48271131 + (c + 1) * (c + 1) * 65537 + 9176) % 2305843009213693951)) h1).2.1
      have h2 := at_set (o' := .lst [.int a, .int ((b * 48271131 + (c + 1) * (c + 1) * 65537 + 9176) % 2305843009213693951), .int (c + 1)]) h1
      rw [List.set_set] at s1 h2
      have i2 := ix3 h2
      simp [m__law_next, i0, s0, i1, hmod, ha, nxt, plO, s1, m1, m2, m3, m4, m5, i2]
  · unfold plO
    show CloL _ _
    simp [CloL, Clo]
/-- a pool that has been drawn from at most n times -/
def PoolOk (n : Nat) (pl : Pl) : Prop := 0 ≤ pl.2.2 ∧ pl.2.2 ≤ n
theorem PoolOk.mono {n m : Nat} {pl : Pl} (h : PoolOk n pl) (q : n ≤ m) : PoolOk m pl := ⟨h.1, by have := h.2; omega⟩
theorem PoolOk.nxt {n : Nat} {pl : Pl} (h : PoolOk n pl) (many : Int) : PoolOk (n + 1) (nxt pl many).2 := by
  unfold PoolOk
  rw [nxt_c]
  exact ⟨by have := h.1; omega, by have := h.2; omega⟩
abbrev big : Nat := 1000000000
theorem next_ok {μ : Mem} {p n : Nat} {pl : Pl} {many : Int} (h : μ[p]? = some (plO pl)) (hc : PoolOk n pl) (hn : n ≤ big) (hm : 0 < many) (hm2 : many < 1000000000) :
    gNext [.ref p, .int many] μ = .ok (.int (nxt pl many).1) (μ.set p (plO (nxt pl many).2)) := next_eq h hc.1 (by have := hc.2; have : big = 1000000000 := rfl; omega) hm hm2
theorem max_int (μ : Mem) (i j : Int) : max2D [.int i, .int j] μ = .ok (.int (if j > i then j else i)) μ := rfl
noncomputable def gPool : Fn := runD N__law_pool m__law_pool
theorem pool_eq (μ : Mem) (z : Int) : ∃ pl, PoolOk 1 pl ∧ gPool [.int z] μ = .ok (.ref μ.length) (μ ++ [plO pl]) := by
  refine ⟨(if z - 10 ^ 24 > 0 then z - 10 ^ 24 else 0, (z * 6364136223 + 1442695) % 2305843009213693951, 1), ⟨by simp, by simp⟩, ?_⟩
  have m1 : mulD (.int z) (.int 6364136223) μ = .ok (.int (z * 6364136223)) μ := mul_r (by omega) (by omega)
  have m2 : ∀ x, modD (.int x) (.int 2305843009213693951) μ = .ok (.int (x % 2305843009213693951)) μ := fun x => mod_int' (by omega)
  have m3 : powD (.int 10) (.int 24) μ = .ok (.int (10 ^ 24)) μ := by simp [powD, G.intD]
  simp [gPool, m__law_pool, m1, m2, m3, max_int, plO]
/-! one of a row -/
noncomputable def gOneOf : Fn := clean (runD N__law_one_of (m__law_one_of gNext))
theorem atI_nat {α : Type} {xs : List α} {v : Int} (h0 : 0 ≤ v) (h1 : v < xs.length) : atI xs v = xs[v.toNat]? := by
  unfold atI ixN
  rw [if_pos h0, if_pos h1]
  rfl
theorem get_mem {α : Type} {xs : List α} {v : Int} (h0 : 0 ≤ v) (h1 : v < xs.length) : ∃ d, d ∈ xs ∧ xs[v.toNat]? = some d := by
  have h : v.toNat < xs.length := by omega
  exact ⟨xs[v.toNat], List.getElem_mem _, List.getElem?_eq_getElem h⟩
theorem plO_clo (n : Nat) (pl : Pl) : CloO n (plO pl) := by
  unfold plO
  show CloL _ _
  simp [CloL, Clo]
/-- of a text -/
theorem one_str {μ : Mem} {p n : Nat} {pl : Pl} {z : List Nat} (h : μ[p]? = some (plO pl)) (hc : PoolOk n pl) (hn : n ≤ big) (hz : z ≠ []) (hl : z.length ≤ 1000000) :
    ∃ c ∈ z, gOneOf [.ref p, .str z] μ = .ok (sg c) (μ.set p (plO (nxt pl z.length).2)) := by
  have hz0 : 0 < z.length := List.length_pos_iff.mpr hz
  have hv := nxt_lt pl (many := z.length) (by omega)
  obtain ⟨c, hcz, hg⟩ := get_mem hv.1 hv.2
  refine ⟨c, hcz, clean_set [] ?_ (fun _ _ => clo_str _ _) fun _ => plO_clo _ _⟩
  have h1 : lenD [.str z] μ = .ok (.int z.length) μ := if_pos hl
  have h2 := next_ok h hc hn (many := z.length) (by omega) (by omega)
  have h3 : ∀ μ', ixD (.str z) (.int (nxt pl z.length).1) μ' = .ok (sg c) μ' := fun μ' => by
    simp only [ixD, if_pos hl, atI_nat hv.1 hv.2, hg]
  simp [m__law_one_of, h1, h2, h3]
/-- of a list of the store -/
theorem one_lst {μ : Mem} {p n l : Nat} {pl : Pl} {xs : List D} (h : μ[p]? = some (plO pl)) (hc : PoolOk n pl) (hn : n ≤ big) (hx : μ[l]? = some (.lst xs)) (hlp : l ≠ p) (hz : xs ≠ []) (hl : xs.length ≤ 1000000) :
    ∃ d ∈ xs, gOneOf [.ref p, .ref l] μ = .ok d (μ.set p (plO (nxt pl xs.length).2)) := by
  have hz0 : 0 < xs.length := List.length_pos_iff.mpr hz
  have hv := nxt_lt pl (many := xs.length) (by omega)
  obtain ⟨c, hcz, hg⟩ := get_mem hv.1 hv.2
  refine ⟨c, hcz, clean_set [] ?_ (fun hm _ => cloL_iff.mp (show CloL μ.length xs from hm _ (List.mem_of_getElem? hx)) c hcz) fun _ => plO_clo _ _⟩
  have h1 : lenD [.ref l] μ = .ok (.int xs.length) μ := by simp [lenD, seqOf, lstOf, hx]
  have h2 := next_ok h hc hn (many := xs.length) (by omega) (by omega)
  have hx2 : (μ.set p (plO (nxt pl xs.length).2))[l]? = some (.lst xs) := by rw [List.getElem?_set_ne (Ne.symm hlp)]; exact hx
  have h3 : ixD (.ref l) (.int (nxt pl xs.length).1) (μ.set p (plO (nxt pl xs.length).2)) = .ok c (μ.set p (plO (nxt pl xs.length).2)) := by
    simp only [ixD, seqOf, lstOf, hx2, atI_nat hv.1 hv.2, hg]
  simp [m__law_one_of, h1, h2, h3]
/-! a drawn word -/
noncomputable def gWord : Fn := clean (runD N__law_word (m__law_word gNext gOneOf))
theorem set2 {μ : Mem} {p : Nat} {a b : O} : (μ.set p a).set p b = μ.set p b := List.set_set ..
theorem word_comp {ev : List Nat} {p : Nat} {most : D} (hev : ev ≠ []) (hel : ev.length ≤ 1000000) : ∀ (xs : List D) (n : Nat) (μ : Mem) (pl : Pl), μ[p]? = some (plO pl) → PoolOk n pl → n + xs.length ≤ big →
    ∃ (w : List Nat) (pl' : Pl), compG (.name 3) cYes (eCall gOneOf (aCons (eVar 0) (aCons (eVar 1) (aNil)))) none [some (.ref p), some (.str ev), some most, none] xs μ = .ok (w.map sg) (μ.set p (plO pl')) ∧ w.length = xs.length ∧ (∀ c ∈ w, c ∈ ev) ∧ PoolOk (n + xs.length) pl'
  | [], n, μ, pl, h, hc, _ => by
    refine ⟨[], pl, ?_, rfl, fun c hc => by simp at hc, hc⟩
    unfold compG
    rw [ifC_pos wtOk_none]
    have : μ.set p (plO pl) = μ := by
      obtain ⟨h1, h2⟩ := List.getElem?_eq_some_iff.mp h
      rw [← h2, List.set_getElem_self]
    rw [this]
    rfl
  | x :: r, n, μ, pl, h, hc, hn => by
    simp at hn
    obtain ⟨c, hce, h1⟩ := one_str h hc (by omega) hev hel
    obtain ⟨w, pl', h2, h3, h4, h5⟩ := word_comp (most := most) hev hel r (n + 1) (μ.set p (plO (nxt pl ev.length).2)) (nxt pl ev.length).2 (at_set h) (hc.nxt _) (by omega)
    refine ⟨c :: w, pl', ?_, by simp [h3], fun d hd => ?_, ?_⟩
    · unfold compG
      rw [ifC_pos wtOk_none]
      rw [set2] at h2
      simp [h1, h2]
    · rcases List.mem_cons.mp hd with e | e
      · rw [e]; exact hce
      · exact h4 d e
    · have : n + (x :: r).length = n + 1 + r.length := by simp; omega
      rw [this]; exact h5
theorem word_eq {μ : Mem} {p n : Nat} {pl : Pl} {ev : List Nat} {most : Nat} (h : μ[p]? = some (plO pl)) (hc : PoolOk n pl) (hn : n + most + 1 ≤ big) (hm : most ≤ 1000) (hev : ev ≠ []) (hel : ev.length ≤ 1000000) :
    ∃ w pl', gWord [.ref p, .str ev, .int most] μ = .ok (.str w) (μ.set p (plO pl')) ∧ w.length ≤ most ∧ (∀ c ∈ w, c ∈ ev) ∧ PoolOk (n + 1 + most) pl' := by
  have hv := nxt_lt pl (many := (most : Int) + 1) (by omega)
  have h2 := next_ok h hc (by omega) (many := (most : Int) + 1) (by omega) (by omega)
  generalize hr : nxt pl ((most : Int) + 1) = r at hv h2
  have hc2 : PoolOk (n + 1) r.2 := by rw [← hr]; exact hc.nxt _
  have hlen : (rngL 0 r.1.toNat).length = r.1.toNat := by simp [rngL]
  obtain ⟨w, pl', h3, h4, h5, h6⟩ := word_comp (most := .int most) hev hel (rngL 0 r.1.toNat) (n + 1) (μ.set p (plO r.2)) r.2 (at_set h) hc2 (by rw [hlen]; omega)
  rw [hlen] at h4 h6
  refine ⟨w, pl', clean_set [.lst (w.map sg)] ?_ (fun _ _ => clo_str _ _) (fun _ => plO_clo _ _), by omega, h5, h6.mono (by omega)⟩
  rw [set2] at h3
  have hrng : iRange1 (aCons (eCall gNext (aCons (eVar 0) (aCons (eBin addD (eVar 2) (eC (.int 1))) (aNil)))) (aNil)) [some (.ref p), some (.str ev), some (.int most), none] μ = .ok (rngL 0 r.1.toNat, none) (μ.set p (plO r.2)) := by
    have : -(2 ^ 62) ≤ r.1 ∧ r.1 < 2 ^ 62 := by omega
    simp [h2]
    omega
  have hcomp : eComp [3] (.name 3) (iRange1 (aCons (eCall gNext (aCons (eVar 0) (aCons (eBin addD (eVar 2) (eC (.int 1))) (aNil)))) (aNil))) cYes (eCall gOneOf (aCons (eVar 0) (aCons (eVar 1) (aNil)))) [some (.ref p), some (.str ev), some (.int most), none] μ
      = .ok (.ref μ.length) (μ.set p (plO pl') ++ [.lst (w.map sg)]) := by
    unfold eComp
    rw [hrng]
    simp only [bind_okE]
    rw [if_pos (by rw [hlen]; omega)]
    simp only [wipeR, List.set_cons_succ, List.set_cons_zero]
    rw [h3]
    simp
  have hj := joinM_sg (μ := μ.set p (plO pl') ++ [.lst (w.map sg)]) (l := μ.length) (xs := w) (by
    have : μ.length = (μ.set p (plO pl')).length := by simp
    conv => lhs; rw [this]
    exact get_last1 _ _) (by omega)
  simp [m__law_word, hcomp, hj]
end K00

namespace K00
open PySem PySem.Spec PyProof.Rows L2 G
theorem cal_bad {P : Program} {w : World} {K : Fr0} {mg : Str → Option Value} {base : Heap} {x : Str} {st : Stmt} {ps : List Str} {k : Nat} (Df_ : Df K mg x st ps) : Cal P w K mg base k x st ps (fun _ _ => .bad) := by
  obtain ⟨f, fd, h1, h2, h3⟩ := Df_.ex
  exact ⟨f, fd, h1, h2, h3, ⟨fun vs H Q E h => h.1, fun A outer s H args us vs Q E _ _ _ _ h => by
    obtain ⟨_, _, _, _, _, _, h⟩ := h
    exact h.elim⟩⟩
/-! the same -/
noncomputable def gS1 : Fn := clean (runD N__law_same (m__law_same fun _ _ => .bad))
noncomputable def gS2 : Fn := clean (runD N__law_same (m__law_same gS1))
def flat : D → Prop | .str _ => True | .bl _ => True | .int _ => True | .non => True | _ => False
theorem py_bl (μ : Mem) (n : Nat) (b : Bool) : pyOf μ n (.bl b) = some (.bool b) := by cases n <;> rfl
@[simp] theorem eqG_bl (μ : Mem) (x y : Bool) : eqG (.bl x) (.bl y) μ = .ok (.bl (decide (x = y))) μ := by
  unfold eqG
  rw [datD_ok (py_bl μ 12 x) (py_bl μ 12 y) (cmpOk_alike (by simp [PySem.W.alike]))]
  cases x <;> cases y <;> rfl
@[simp] theorem neG_bl (μ : Mem) (x y : Bool) : neG (.bl x) (.bl y) μ = .ok (.bl (!decide (x = y))) μ := by
  unfold neG
  rw [datD_ok (py_bl μ 12 x) (py_bl μ 12 y) (cmpOk_alike (by simp [PySem.W.alike]))]
  cases x <;> cases y <;> rfl
theorem same_flat (g : Fn) (μ : Mem) {d : D} (h : flat d) : runD N__law_same (m__law_same g) [d, d] μ = .ok (.bl true) μ := by
  cases d with
  | str x => simp [m__law_same, Kd.isB, isD]
  | bl x => simp [m__law_same, Kd.isB, isD]
  | int x => simp [m__law_same, Kd.isB, isD]
  | non => simp [m__law_same, Kd.isB, isD]
  | _ => exact h.elim
theorem S1_flat (μ : Mem) {d : D} (h : flat d) : gS1 [d, d] μ = .ok (.bl true) μ := clean_ok [] (by rw [List.append_nil]; exact same_flat _ μ h) (fun n => clo_bl n _)
theorem S2_flat (μ : Mem) {d : D} (h : flat d) : gS2 [d, d] μ = .ok (.bl true) μ := clean_ok [] (by rw [List.append_nil]; exact same_flat _ μ h) (fun n => clo_bl n _)
theorem all_true : ∀ xs : List D, (xs.map fun _ => true).all id = true
  | [] => rfl
  | x :: r => by simp
theorem S2_list {μ : Mem} {l k : Nat} {ds : List D} (h1 : μ[l]? = some (.lst ds)) (h2 : μ[k]? = some (.lst ds)) (hf : ∀ d ∈ ds, flat d) (hl : ds.length ≤ 100000) : gS2 [.ref l, .ref k] μ = .ok (.bl true) μ := by
  have k1 : kdOf μ (.ref l) = some .lst := by simp [kdOf, h1]
  have k2 : kdOf μ (.ref k) = some .lst := by simp [kdOf, h2]
  have n1 : lenD [.ref l] μ = .ok (.int ds.length) μ := by simp [lenD, seqOf, lstOf, h1]
  have n2 : lenD [.ref k] μ = .ok (.int ds.length) μ := by simp [lenD, seqOf, lstOf, h2]
  have hc := eComp_map (ws := [2]) (t := .name 2) (src := iRange1 (aCons (eCb lenD (aCons (eVar 1) (aNil))) (aNil))) (el := eCall gS1 (aCons (eBin ixD (eVar 0) (eVar 2)) (aCons (eBin ixD (eVar 1) (eVar 2)) (aNil)))) (ρ := [some (.ref l), some (.ref k), none]) (μ := μ) (μ1 := μ) (xs := rngL 0 ds.length) (wt := none)
    (range1_ok (by simp only [aCons, aNil, eCb, eVar, List.getElem?_cons_succ, List.getElem?_cons_zero, bind_okE, n2]) (by omega)) (by rw [rngL_len]; omega) wtOk_none (fun _ => .bl true) (by
      intro d hd
      obtain ⟨i, hi, rfl⟩ := rngL_mem hd
      have e : ds[i]? = some ds[i] := List.getElem?_eq_getElem hi
      have a1 : atI ds (i : Int) = some ds[i] := by
        rw [atI_nat (Int.natCast_nonneg i) (Int.ofNat_lt.mpr hi)]
        exact e
      have x1 : ixD (.ref l) (.int (i : Int)) μ = .ok ds[i] μ := by simp only [ixD, seqOf, lstOf, h1, a1]
      have x2 : ixD (.ref k) (.int (i : Int)) μ = .ok ds[i] μ := by simp only [ixD, seqOf, lstOf, h2, a1]
      refine ⟨_, rfl, ?_⟩
      have s1 := S1_flat μ (hf ds[i] (List.getElem_mem _))
      simp only [eCall, aCons, aNil, eBin, eVar, wipeR, List.set_cons_succ, List.set_cons_zero, List.getElem?_cons_succ, List.getElem?_cons_zero, bind_okE, x1, x2, s1])
  have ha := allD_at (μ := μ ++ [.lst ((rngL 0 ds.length).map fun _ => .bl true)]) (l := μ.length) (get_last1 _ _) (bls_map (fun _ => true) (rngL 0 ds.length))
  rw [all_true] at ha
  refine clean_ok [.lst ((rngL 0 ds.length).map fun _ => .bl true)] ?_ (fun n => clo_bl n _)
  simp [m__law_same, k1, k2, Kd.isB, n1, n2, hc, ha]
/-! _law_is_word, _law_odd -/
noncomputable def gLIs : Fn := clean (runD N__law_is_word m__law_is_word)
theorem lis_eq {μ : Mem} {d : D} {L : List Nat} {kk : Kd} (e : kdOf μ d = some kk) (hz : szD d = true) : gLIs [d, .str L] μ = .ok (.bl (isWd L d)) μ := by
  cases hb : kk.isB .str with
  | true =>
    obtain ⟨x, rfl⟩ := kd_str_iff e hb
    cases e
    have hz : x.length ≤ 100000 := of_decide_eq_true hz
    refine clean_ok [.lst (x.map fun c => .bl (decide (c ∈ L)))] ?_ (fun n => clo_bl n _)
    have hc := eComp_map (ws := [2]) (t := .name 2) (src := iSeq (eVar 0)) (el := eBin inD (eVar 2) (eVar 1)) (ρ := [some (.str x), some (.str L), none]) (μ := μ) (μ1 := μ) (xs := x.map sg) (wt := none) (by simp) (by simp; omega) wtOk_none
      (fun d => match d with | .str [c] => .bl (decide (c ∈ L)) | _ => .non) (by
      intro d hd
      obtain ⟨c, _, rfl⟩ := List.mem_map.mp hd
      exact ⟨_, rfl, rfl⟩)
    rw [List.map_map] at hc
    have ha := allD_at (get_last1 μ (.lst (x.map fun c => .bl (decide (c ∈ L))))) (bls_map (fun c => decide (c ∈ L)) x)
    rw [all_map] at ha
    have hc2 : eComp [2] (.name 2) (iSeq (eVar 0)) cYes (eBin inD (eVar 2) (eVar 1)) [some (.str x), some (.str L), none] μ = .ok (.ref μ.length) (μ ++ [.lst (x.map fun c => .bl (decide (c ∈ L)))]) := hc
    simp [m__law_is_word, hb, hc2, ha, isWd]
  | false =>
    refine clean_ok [] ?_ (fun n => clo_bl n _)
    have : isWd L d = false := by
      cases d with
      | str x => cases e; cases hb
      | _ => rfl
    simp [m__law_is_word, e, hb, this]
noncomputable def gOdd : Fn := runD N__law_odd m__law_odd
def oddL (n : Nat) : List D := [.non, .bl true, .bl false, .int 0, .int 1, .int (-1), .int 2, .str [], .str [97], .str [65], .str [97, 98], .str [101], .str [111, 110], .str [98, 97, 99, 107], .str [99, 117, 116], .tup [], .ref n, .ref (n + 1), .tup [.tup []], .tup [.int 0], .tup [.str []], .tup [.str [97]], .tup [.str [], .str []], .tup [.int 0, .int 0], .tup [.str [99, 117, 116], .int 0], .tup [.str [112, 117, 116], .int 0, .str [97]], .tup [.tup [.str [97], .int 0]], .int 77]
theorem odd_eq (μ : Mem) : gOdd [] μ = .ok (.ref (μ.length + 2)) (μ ++ [.lst [], .dct [], .lst (oddL μ.length)]) := by
  simp [gOdd, m__law_odd, oddL]
end K00

namespace K00
open PySem PySem.Spec PyProof.Rows L2 G
/-! pairs taken out, whichever first -/
theorem eqG_nil {μ : Mem} {l k : Nat} {ks : List Int} (h : μ[l]? = some (.lst (ks.map .int))) (h' : μ[k]? = some (.lst [])) : eqG (.ref l) (.ref k) μ = .ok (.bl (decide (ks = []))) μ := by
  have p1 : pyOf μ 12 (.ref l) = some (.list (ks.map .int)) := by
    rw [py_lst (n := 11) (g := pyS) h fun d hd => ?_]
    · rw [List.map_map]; rfl
    · obtain ⟨x, _, rfl⟩ := List.mem_map.mp hd
      exact py_int μ 11 x
  have p2 : pyOf μ 12 (.ref k) = some (.list []) := by
    rw [py_lst (n := 11) (g := pyS) h' fun d hd => by simp at hd]
    rfl
  unfold eqG
  rw [datD_ok p1 p2 (cmpOk_alike (by cases ks <;> simp [PySem.W.alike, PySem.W.alikeAll]))]
  cases ks with
  | nil => simp [PyData.eqv, PyData.eqvAll]
  | cons x r => simp [PyData.eqv, PyData.eqvAll]
theorem cut_to {α : Type} (x : List α) (k : Nat) (hk : k ≤ x.length) : cutL x none (some (k : Int)) = x.take k := by
  unfold cutL
  rw [HT.sIx_none, HT.sIx_nat, Nat.min_eq_left hk]
  simp
theorem cut_from {α : Type} (x : List α) (k : Nat) (hk : k ≤ x.length) : cutL x (some (k : Int)) none = x.drop k := by
  unfold cutL
  rw [HT.sIx_none, HT.sIx_nat, Nat.min_eq_left hk]
  rw [List.take_of_length_le]
  simp
/-- where something inverse stands side by side -/
def isPair (x : List Nat) (k : Nat) : Bool := match x[k]?, x[k + 1]? with
  | some a, some b => decide (b = swc a)
  | _, _ => false
def pairs (x : List Nat) : List Int := ((List.range (x.length - 1)).filter (isPair x)).map fun k : Nat => (k : Int)
theorem rd_of_pairs {x : List Nat} (h : pairs x = []) : Wd.Rd swc x := fun k a b h1 h2 e => by
  have hk : k + 1 < x.length := (List.getElem?_eq_some_iff.mp h2).1
  unfold pairs at h
  rw [List.map_eq_nil_iff, List.filter_eq_nil_iff] at h
  refine h k (List.mem_range.mpr (by omega)) ?_
  simp [isPair, h1, h2, e]
theorem pair_of {x : List Nat} {d : D} (h : d ∈ (pairs x).map D.int) : ∃ k : Nat, d = .int k ∧ k + 1 < x.length ∧ ∃ a, x[k]? = some a ∧ x[k + 1]? = some (swc a) := by
  unfold pairs at h
  rw [List.map_map] at h
  obtain ⟨k, hk, rfl⟩ := List.mem_map.mp h
  rw [List.mem_filter] at hk
  obtain ⟨h1, h2⟩ := hk
  have h1 := List.mem_range.mp h1
  unfold isPair at h2
  split at h2
  · rename_i a b ea eb
    have := of_decide_eq_true h2
    exact ⟨k, rfl, by omega, a, ea, by rw [eb, this]⟩
  · cases h2
abbrev leftEl : Tv := tB1 (eBin eqG (eBin ixD (eVar 1) (eBin addD (eVar 4) (eC (.int 1)))) (eCall gInv (aCons (eBin ixD (eVar 1) (eVar 4)) (aNil))))
theorem ix_str {μ : Mem} {x : List Nat} {k : Nat} {c : Nat} (hl : x.length ≤ 1000000) (h : x[k]? = some c) : ixD (.str x) (.int k) μ = .ok (sg c) μ := by
  have hk := (List.getElem?_eq_some_iff.mp h).1
  have e : (Int.toNat (k : Int)) = k := Int.toNat_natCast k
  have : atI x (k : Int) = some c := by rw [atI_nat (Int.natCast_nonneg k) (Int.ofNat_lt.mpr hk), e, h]
  simp only [ixD, if_pos hl, this]
theorem left_comp {μ : Mem} {x : List Nat} {a b c : Option D} (hx : okW x = true) (hl : x.length ≤ 100000) :
    eComp [4] (.name 4) (iRange1 (aCons (eBin subD (eCb lenD (aCons (eVar 1) (aNil))) (eC (.int 1))) (aNil))) leftEl (eVar 4) [a, some (.str x), b, c, none] μ = .ok (.ref μ.length) (μ ++ [O.lst ((pairs x).map .int)]) := by
  have hlen : lenD [.str x] μ = .ok (.int x.length) μ := if_pos (by omega)
  have hr : iRange1 (aCons (eBin subD (eCb lenD (aCons (eVar 1) (aNil))) (eC (.int 1))) (aNil)) [a, some (.str x), b, c, none] μ = .ok (rngL 0 (x.length - 1), none) μ := by
    have q := range1_int (a := aCons (eBin subD (eCb lenD (aCons (eVar 1) (aNil))) (eC (.int 1))) (aNil)) (ρ := [a, some (.str x), b, c, none]) (μ := μ) (μ1 := μ) (j := (x.length : Int) - 1) (by simp [hlen]) (by omega)
    rw [q]
    have : ((x.length : Int) - 1).toNat = x.length - 1 := by omega
    rw [this]
  rw [eComp_pure hr (by rw [rngL_len]; omega) wtOk_none (fun d => match d with | .int k => isPair x k.toNat | _ => false) id]
  · have e : ((rngL 0 (x.length - 1)).filter fun d => match d with | .int k => isPair x k.toNat | _ => false).map id = (pairs x).map .int := by
      unfold pairs rngL
      rw [List.map_id, List.map_map, List.filter_map]
      have h1 : ((fun d => match d with | .int k => isPair x k.toNat | _ => false) ∘ fun i : Nat => D.int (0 + (i : Int))) = isPair x := by
        funext k
        simp
      rw [h1]
      congr 1
      funext k
      simp
    rw [e]
  · intro d hd
    obtain ⟨k, hk, rfl⟩ := rngL_mem hd
    have h0 : x[k]? = some x[k] := List.getElem?_eq_getElem (by omega)
    have h1 : x[k + 1]? = some x[k + 1] := List.getElem?_eq_getElem (by omega)
    refine ⟨_, rfl, ?_, fun _ => ?_⟩
    · have i0 := ix_str (μ := μ) (by omega) h0
      have i1 := ix_str (μ := μ) (k := k + 1) (by omega) h1
      have i1' : ixD (.str x) (.int ((k : Int) + 1)) μ = .ok (sg x[k + 1]) μ := i1
      have hv := gInv_sg x[k] (okW_iff.mp hx _ (List.getElem_mem _)) μ
      simp only [leftEl, tB1, eBin, eVar, eC, eCall, aCons, aNil, wipeR, List.set_cons_succ, List.set_cons_zero, List.getElem?_cons_succ, List.getElem?_cons_zero, bind_okE, add_int, i1', i0, hv, eqG_str]
      simp [isPair, h0, h1]
    · simp
noncomputable def leftBody : Sd := sSeq (sSet 3 (eComp [4] (.name 4) (iRange1 (aCons (eBin subD (eCb lenD (aCons (eVar 1) (aNil))) (eC (.int 1))) (aNil))) leftEl (eVar 4))) (
   sSeq (sIf (tB1 (eBin eqG (eVar 3) (eLst (aNil)))) (sBreak) (sSkip)) (
   sSeq (sSet 4 (eCall gOneOf (aCons (eVar 0) (aCons (eVar 3) (aNil))))) (
   sSet 1 (eBin addD (eSl (eVar 1) (oNone) (oSome (eVar 4))) (eSl (eVar 1) (oSome (eBin addD (eVar 4) (eC (.int 2)))) (oNone))))))
theorem left_loop : ∀ (turns : List D) (n : Nat) (x : List Nat) (μ0 G : Mem) (p : Nat) (pl : Pl) (a b c : Option D), μ0[p]? = some (plO pl) → PoolOk n pl → n + turns.length ≤ big → okW x = true → x.length ≤ 100000 →
    ∃ x' pl' G', forG (.name 2) leftBody [2, 3, 4] none turns [some (.ref p), some (.str x), a, b, c] (μ0 ++ G) = .nx [some (.ref p), some (.str x'), none, none, none] (μ0.set p (plO pl') ++ G') ∧ PoolOk (n + turns.length) pl' ∧
      Wd.red swc x' = Wd.red swc x ∧ (x.length ≤ 2 * turns.length → Wd.Rd swc x')
  | [], n, x, μ0, G, p, pl, a, b, c, h, hc, _, hx, hl => by
    refine ⟨x, pl, G, ?_, hc, rfl, fun hz => ?_⟩
    · rw [forG_nil]
      have : μ0.set p (plO pl) = μ0 := by
        obtain ⟨h1, h2⟩ := List.getElem?_eq_some_iff.mp h
        rw [← h2, List.set_getElem_self]
      rw [this]
      rfl
    · have : x = [] := List.length_eq_zero_iff.mp (by simpa using hz)
      rw [this]; exact Wd.rd_nil
  | t :: turns, n, x, μ0, G, p, pl, a, b, c, h, hc, hn, hx, hl => by
    simp only [List.length_cons] at hn
    have hp : p < μ0.length := (List.getElem?_eq_some_iff.mp h).1
    have hcomp := left_comp (μ := μ0 ++ G) (x := x) (a := some (.ref p)) (b := some t) (c := none) hx hl
    have g1 : (μ0 ++ G ++ [O.lst ((pairs x).map .int)] ++ [O.lst []])[(μ0 ++ G).length]? = some (.lst ((pairs x).map .int)) := by
      rw [List.getElem?_append_left (by simp)]
      exact get_last1 _ _
    have g2 : (μ0 ++ G ++ [O.lst ((pairs x).map .int)] ++ [O.lst []])[(μ0 ++ G ++ [O.lst ((pairs x).map .int)]).length]? = some (.lst []) := get_last1 _ _
    have hq := eqG_nil g1 g2
    rw [forG_cons]
    by_cases hp0 : pairs x = []
    · refine ⟨x, pl, G ++ [O.lst ((pairs x).map .int), O.lst []], ?_, hc.mono (by simp), rfl, fun _ => rd_of_pairs hp0⟩
      have : μ0.set p (plO pl) = μ0 := by
        obtain ⟨h1, h2⟩ := List.getElem?_eq_some_iff.mp h
        rw [← h2, List.set_getElem_self]
      rw [this]
      have hb : leftBody [some (.ref p), some (.str x), some t, none, none] (μ0 ++ G) = .bk [some (.ref p), some (.str x), some t, some (.ref (μ0 ++ G).length), none] (μ0 ++ G ++ [O.lst ((pairs x).map .int)] ++ [O.lst []]) := by
        rw [hp0] at hq hcomp ⊢
        simp only [decide_true] at hq
        simp only [leftBody, sSeq, sSet, hcomp, thn_ok, sIf, tB1, eBin, eVar, List.set_cons_succ, List.set_cons_zero, List.getElem?_cons_succ, List.getElem?_cons_zero, bind_okE, eLst, aNil, List.length_nil, Nat.zero_le, if_true, hq, sBreak]
      simp only [wipeR, tgD, List.set_cons_succ, List.set_cons_zero]
      rw [hb]
      simp
    · have g3 : (μ0 ++ G ++ [O.lst ((pairs x).map .int)] ++ [O.lst []])[p]? = some (plO pl) := by
        rw [List.append_assoc, List.append_assoc, List.getElem?_append_left hp]
        exact h
      obtain ⟨d, hd, ho⟩ := one_lst (l := (μ0 ++ G).length) g3 hc (by omega) g1 (by simp; omega) (by simpa using hp0) (by
        have : (pairs x).length ≤ x.length := by
          unfold pairs
          rw [List.length_map]
          refine Nat.le_trans (List.length_filter_le _ _) ?_
          simp
        simp; omega)
      obtain ⟨k, rfl, hk, y, hy1, hy2⟩ := pair_of hd
      generalize hpl : (nxt pl ((pairs x).map D.int).length).2 = pl1 at ho
      have hc1 : PoolOk (n + 1) pl1 := by rw [← hpl]; exact hc.nxt _
      have hst : (μ0 ++ G ++ [O.lst ((pairs x).map .int)] ++ [O.lst []]).set p (plO pl1) = μ0.set p (plO pl1) ++ (G ++ [O.lst ((pairs x).map .int)] ++ [O.lst []]) := by
        rw [List.append_assoc, List.append_assoc, List.set_append_left _ _ hp]
        simp
      rw [hst] at ho
      have s1 : slD (.str x) none (some (k : Int)) (μ0.set p (plO pl1) ++ (G ++ [O.lst ((pairs x).map .int)] ++ [O.lst []])) = .ok (.str (x.take k)) (μ0.set p (plO pl1) ++ (G ++ [O.lst ((pairs x).map .int)] ++ [O.lst []])) := by
        simp only [slD, if_pos (show x.length ≤ 1000000 by omega), cut_to x k (by omega)]
      have s2 : slD (.str x) (some ((k : Int) + 2)) none (μ0.set p (plO pl1) ++ (G ++ [O.lst ((pairs x).map .int)] ++ [O.lst []])) = .ok (.str (x.drop (k + 2))) (μ0.set p (plO pl1) ++ (G ++ [O.lst ((pairs x).map .int)] ++ [O.lst []])) := by
        have := cut_from x (k + 2) (by omega)
        simp only [slD, if_pos (show x.length ≤ 1000000 by omega), show ((k : Int) + 2) = ((k + 2 : Nat) : Int) from rfl, this]
      have s3 : addD (.str (x.take k)) (.str (x.drop (k + 2))) (μ0.set p (plO pl1) ++ (G ++ [O.lst ((pairs x).map .int)] ++ [O.lst []])) = .ok (.str (x.take k ++ x.drop (k + 2))) (μ0.set p (plO pl1) ++ (G ++ [O.lst ((pairs x).map .int)] ++ [O.lst []])) := if_pos (by simp; omega)
      have hx' : okW (x.take k ++ x.drop (k + 2)) = true := okW_app (okW_iff.mpr fun c hc => okW_iff.mp hx c (List.mem_of_mem_take hc)) (okW_iff.mpr fun c hc => okW_iff.mp hx c (List.mem_of_mem_drop hc))
      have hlen' : (x.take k ++ x.drop (k + 2)).length = x.length - 2 := by simp; omega
      obtain ⟨x', pl', G', e1, e2, e3, e4⟩ := left_loop turns (n + 1) (x.take k ++ x.drop (k + 2)) (μ0.set p (plO pl1)) (G ++ [O.lst ((pairs x).map .int)] ++ [O.lst []]) p pl1 (some t) (some (.ref (μ0 ++ G).length)) (some (.int k)) (at_set h) hc1 (by omega) hx' (by omega)
      refine ⟨x', pl', G', ?_, ?_, ?_, fun hz => e4 ?_⟩
      · have hb : leftBody [some (.ref p), some (.str x), some t, none, none] (μ0 ++ G) = .nx [some (.ref p), some (.str (x.take k ++ x.drop (k + 2))), some t, some (.ref (μ0 ++ G).length), some (.int k)] (μ0.set p (plO pl1) ++ (G ++ [O.lst ((pairs x).map .int)] ++ [O.lst []])) := by
          simp only [hp0, decide_false] at hq
          simp only [leftBody, sSeq, sSet, hcomp, thn_ok, sIf, tB1, eBin, eVar, List.set_cons_succ, List.set_cons_zero, List.getElem?_cons_succ, List.getElem?_cons_zero, bind_okE, eLst, aNil, aCons, eCall, List.length_nil, Nat.zero_le, if_true, hq, sBreak, sSkip, Bool.false_eq_true, if_false, ho, eSl, oNone, oSome, eC, add_int, s1, s2, s3]
        simp only [wipeR, tgD, List.set_cons_succ, List.set_cons_zero]
        rw [hb]
        simp only
        rw [e1, set2]
      · have : n + (t :: turns).length = n + 1 + turns.length := by simp; omega
        rw [this]; exact e2
      · rw [e3]
        exact Wd.red_cut swc_swc hy1 hy2
      · rw [hlen']
        simp at hz
        omega
noncomputable def gLeft : Fn := clean (runD N__law_left (m__law_left gInv gOneOf))
theorem left_eq {μ : Mem} {p n : Nat} {pl : Pl} {x : List Nat} (h : μ[p]? = some (plO pl)) (hc : PoolOk n pl) (hx : okW x = true) (hl : x.length ≤ 100000) (hn : n + x.length ≤ big) :
    ∃ pl', gLeft [.ref p, .str x] μ = .ok (.str (Wd.red swc x)) (μ.set p (plO pl')) ∧ PoolOk (n + x.length) pl' := by
  obtain ⟨x', pl', G', e1, e2, e3, e4⟩ := left_loop (rngL 0 x.length) n x μ [] p pl none none none h hc (by rw [rngL_len]; exact hn) hx hl
  rw [rngL_len] at e2 e4
  have hr := e4 (by omega)
  have hx' : x' = Wd.red swc x := by rw [← e3, Wd.red_rd swc_swc hr]
  refine ⟨pl', clean_set G' ?_ (fun _ _ => clo_str _ _) (fun _ => plO_clo _ _), e2⟩
  have hlen : lenD [.str x] μ = .ok (.int x.length) μ := if_pos (by omega)
  have hsrc := range1_ok (a := aCons (eCb lenD (aCons (eVar 1) (aNil))) (aNil)) (ρ := [some (.ref p), some (.str x), none, none, none]) (μ := μ) (μ1 := μ) (n := x.length) (by simp [hlen]) (by omega)
  have hfor : sFor [2, 3, 4] (.name 2) (iRange1 (aCons (eCb lenD (aCons (eVar 1) (aNil))) (aNil))) leftBody [some (.ref p), some (.str x), none, none, none] μ = .nx [some (.ref p), some (.str x'), none, none, none] (μ.set p (plO pl') ++ G') := by
    unfold sFor
    rw [hsrc]
    simp only [thn_ok]
    rw [List.append_nil] at e1
    exact e1
  unfold leftBody leftEl at hfor
  simp [m__law_left, hfor, hx']
end K00

namespace K00
open PySem PySem.Spec PyProof.Rows L2 G
/-! the five of words -/
section
variable {μ : Mem} {x y : List Nat}
theorem inverse_eq (h : okW x = true) (hl : x.length ≤ 100000) : gInverse [.str x] μ = .ok (.str (Wd.inv swc x)) μ := by
  have h2 : isWd Lc (.str x) = true := h
  simp only [gInverse, kd_str, szD, hl, decide_true, if_true, h2, strOf]
theorem reduced_eq (h : okW x = true) (hl : x.length ≤ 100000) : gReduced [.str x] μ = .ok (.str (Wd.red swc x)) μ := by
  have h2 : isWd Lc (.str x) = true := h
  simp only [gReduced, kd_str, szD, hl, decide_true, if_true, h2, strOf]
theorem product_eq (h : okW x = true) (hl : x.length ≤ 100000) (h' : okW y = true) (hl' : y.length ≤ 100000) : gProduct [.str x, .str y] μ = .ok (.str (Wd.red swc (x ++ y))) μ := by
  have h2 : isWd Lc (.str x) = true := h
  have h3 : isWd Lc (.str y) = true := h'
  simp only [gProduct, kd_str, szD, hl, hl', decide_true, and_self, if_true, h2, h3, strOf]
theorem less_eq (h : okW x = true) (hl : x.length ≤ 100000) (h' : okW y = true) (hl' : y.length ≤ 100000) : gLess [.str x, .str y] μ = .ok (.bl (ltW x y)) μ := by
  have h2 : isWd Lc (.str x) = true := h
  have h3 : isWd Lc (.str y) = true := h'
  simp only [gLess, kd_str, szD, hl, hl', decide_true, and_self, if_true, h2, h3, strOf]
theorem llt_eq (h : okW x = true) (hl : x.length ≤ 100000) (h' : okW y = true) (hl' : y.length ≤ 100000) : gLt [.str x, .str y] μ = .ok (.bl (ltW x y)) μ := if_pos ⟨h, h', hl, hl'⟩
theorem power_eq {n : Int} (h : okW x = true) (hl : x.length ≤ 100000) (hn : x.length * n.natAbs ≤ 400000) (hn2 : n.natAbs ≤ 400000) : gPower [.str x, .int n] μ = .ok (.str (Wd.red swc (Wd.pw swc x n))) μ := by
  have h2 : isWd Lc (.str x) = true := h
  simp only [gPower, kd_str, kd_int, szD, hl, decide_true, strOf, intOf, hn, hn2, and_self, if_true, h2, isInt]
end
theorem same_two {μ : Mem} {A : List D} (hf : ∀ d ∈ A, flat d) (hl : A.length ≤ 100000) : gS2 [.ref μ.length, .ref (μ ++ [O.lst A]).length] (μ ++ [O.lst A] ++ [O.lst A]) = .ok (.bl true) (μ ++ [O.lst A] ++ [O.lst A]) :=
  S2_list (by rw [List.getElem?_append_left (by simp)]; exact get_last1 _ _) (get_last1 _ _) hf hl
/-! _law_laid_right -/
noncomputable def bodyA : Sd := sSeq (sSet 4 (eCall gLeft (aCons (eVar 0) (aCons (eVar 2) (aNil))))) (
   sSeq (sIf (tNotG (tB1 (eCall gS2 (aCons (eLst (aCons (eCall gInverse (aCons (eVar 2) (aNil))) (aCons (eCall gReduced (aCons (eVar 2) (aNil))) (aCons (eCallK gReduced 0 1 aNil (aCons (eVar 4) (aNil))) (aCons (eCall gInverse (aCons (eCall gInverse (aCons (eVar 2) (aNil))) (aNil))) (aNil)))))) (aCons (eLst (aCons (eCall gInv (aCons (eVar 2) (aNil))) (aCons (eVar 4) (aCons (eVar 4) (aCons (eVar 2) (aNil)))))) (aNil)))))) (sRet (eC (.bl false))) (sSkip)) (
   sIf (tOrG (tB1 (eBin neG (eVar 4) (eCall gRed (aCons (eVar 2) (aNil))))) (tB1 (eBin neG (eCall gReduced (aCons (eCall gInverse (aCons (eVar 2) (aNil))) (aNil))) (eCall gInverse (aCons (eCall gReduced (aCons (eVar 2) (aNil))) (aNil)))))) (sRet (eC (.bl false))) (sSkip)))
noncomputable def bodyB : Sd := sSeq (sIf (tNotG (tB1 (eCall gS2 (aCons (eLst (aCons (eCallK gProduct 1 1 (aCons (eVar 3) (aNil)) (aCons (eVar 5) (aNil))) (aCons (eCall gLess (aCons (eVar 3) (aCons (eVar 5) (aNil)))) (aNil)))) (aCons (eLst (aCons (eCall gRed (aCons (eBin addD (eVar 3) (eVar 5)) (aNil))) (aCons (eCall gLt (aCons (eVar 3) (aCons (eVar 5) (aNil)))) (aNil)))) (aNil)))))) (sRet (eC (.bl false))) (sSkip)) (
    sIf (tOrG (tAndG (tB1 (eCall gLess (aCons (eVar 3) (aCons (eVar 5) (aNil))))) (tB1 (eCall gLess (aCons (eVar 5) (aCons (eVar 3) (aNil)))))) (tB1 (eBin eqG (eBin eqG (eVar 3) (eVar 5)) (eOrG (eCall gLess (aCons (eVar 3) (aCons (eVar 5) (aNil)))) (eCall gLess (aCons (eVar 5) (aCons (eVar 3) (aNil)))))))) (sRet (eC (.bl false))) (sSkip))
abbrev okX (x : List Nat) : Prop := okW x = true ∧ x.length ≤ 10000
theorem bodyA_run {μ : Mem} {p n : Nat} {pl : Pl} {x : List Nat} {l a : Option D} (h : μ[p]? = some (plO pl)) (hc : PoolOk n pl) (hx : okX x) (hn : n + 10000 ≤ big) :
    ∃ pl' A, bodyA [some (.ref p), l, some (.str x), none, none, none] μ = .nx [some (.ref p), l, some (.str x), none, some (.str (Wd.red swc x)), none] (μ.set p (plO pl') ++ A) ∧ PoolOk (n + 10000) pl' := by
  obtain ⟨hw, hl⟩ := hx
  obtain ⟨pl', e1, e2⟩ := left_eq h hc hw (by omega) (by omega)
  refine ⟨pl', [O.lst [.str (Wd.inv swc x), .str (Wd.red swc x), .str (Wd.red swc x), .str x], O.lst [.str (Wd.inv swc x), .str (Wd.red swc x), .str (Wd.red swc x), .str x]], ?_, e2.mono (by omega)⟩
  generalize μ.set p (plO pl') = ν at e1
  have il : (Wd.inv swc x).length = x.length := by simp [Wd.inv]
  have rl := Wd.red_len (i := swc) x
  have i1 : ∀ μ, gInverse [.str x] μ = .ok (.str (Wd.inv swc x)) μ := fun μ => inverse_eq hw (by omega)
  have i2 : ∀ μ, gInverse [.str (Wd.inv swc x)] μ = .ok (.str x) μ := fun μ => by
    rw [inverse_eq (okW_inv hw) (by omega), Wd.inv_inv swc_swc]
  have r1 : ∀ μ, gReduced [.str x] μ = .ok (.str (Wd.red swc x)) μ := fun μ => reduced_eq hw (by omega)
  have r2 : ∀ μ, gReduced [.str (Wd.red swc x)] μ = .ok (.str (Wd.red swc x)) μ := fun μ => by
    rw [reduced_eq (okW_red hw) (by omega), Wd.red_red swc_swc]
  have r3 : ∀ μ, gReduced [.str (Wd.inv swc x)] μ = .ok (.str (Wd.inv swc (Wd.red swc x))) μ := fun μ => by
    rw [reduced_eq (okW_inv hw) (by omega), Wd.red_inv swc_swc]
  have i3 : ∀ μ, gInverse [.str (Wd.red swc x)] μ = .ok (.str (Wd.inv swc (Wd.red swc x))) μ := fun μ => inverse_eq (okW_red hw) (by omega)
  have v1 : ∀ μ, gInv [.str x] μ = .ok (.str (Wd.inv swc x)) μ := fun μ => gInv_ok hw (by omega)
  have v2 : ∀ μ, gRed [.str x] μ = .ok (.str (Wd.red swc x)) μ := fun μ => gRed_ok hw (by omega)
  have hs := same_two (μ := ν) (A := [.str (Wd.inv swc x), .str (Wd.red swc x), .str (Wd.red swc x), .str x]) (by simp [flat]) (by simp)
  simp only [bodyA, sSeq, sSet, sIf, sRet, sExpr, sSkip, sBreak, sCont, tNotG, tB1, tAndG, tOrG, eBin, eVar, eC, eCall, eCallK, eLst, eTup, aNil, aCons, eAndG, eOrG, eNotG, eIfG, eCb, eMs, eMl, eNeg, eSl, oNone, oSome, eRev, iSeq, bind_okE, bind_exE, thn_ok, thn_ex, wipeR, tgD, List.getElem?_cons_zero, List.getElem?_cons_succ, List.set_cons_zero, List.set_cons_succ, List.length_cons, List.length_nil, List.nil_append, List.cons_append, List.map_cons, List.map_nil, Nat.reduceAdd, Nat.reduceLeDiff, Nat.zero_le, if_true, if_false, Bool.false_eq_true, Bool.not_true, Bool.not_false, decide_true, decide_false, and_self, true_and, and_true, e1, i1, i2, r1, r2, r3, i3, v1, v2, hs, neG_str]
  simp
theorem lt_bools {x y : List Nat} (hx : okW x = true) (hy : okW y = true) : (ltW x y && ltW y x) = false ∧ (decide (x = y) == (ltW x y || ltW y x)) = false := by
  by_cases e : x = y
  · subst e
    rw [lt_self]
    simp
  · cases h1 : ltW x y with
    | true => rw [lt_asym h1]; simp [e]
    | false =>
      cases h2 : ltW y x with
      | true => simp [e]
      | false => exact absurd (lt_total hx hy h1 h2) e
theorem bodyB_run {μ : Mem} {x y : List Nat} {p l : Option D} (hx : okX x) (hy : okX y) :
    ∃ A, bodyB [p, l, none, some (.str x), none, some (.str y)] μ = .nx [p, l, none, some (.str x), none, some (.str y)] (μ ++ A) := by
  obtain ⟨hw, hl⟩ := hx
  obtain ⟨hw', hl'⟩ := hy
  refine ⟨[O.lst [.str (Wd.red swc (x ++ y)), .bl (ltW x y)], O.lst [.str (Wd.red swc (x ++ y)), .bl (ltW x y)]], ?_⟩
  have p1 : ∀ μ, gProduct [.str x, .str y] μ = .ok (.str (Wd.red swc (x ++ y))) μ := fun μ => product_eq hw (by omega) hw' (by omega)
  have l1 : ∀ μ, gLess [.str x, .str y] μ = .ok (.bl (ltW x y)) μ := fun μ => less_eq hw (by omega) hw' (by omega)
  have l2 : ∀ μ, gLess [.str y, .str x] μ = .ok (.bl (ltW y x)) μ := fun μ => less_eq hw' (by omega) hw (by omega)
  have l3 : ∀ μ, gLt [.str x, .str y] μ = .ok (.bl (ltW x y)) μ := fun μ => llt_eq hw (by omega) hw' (by omega)
  have a1 : ∀ μ, addD (.str x) (.str y) μ = .ok (.str (x ++ y)) μ := fun μ => if_pos (by omega)
  have r1 : ∀ μ, gRed [.str (x ++ y)] μ = .ok (.str (Wd.red swc (x ++ y))) μ := fun μ => gRed_ok (okW_app hw hw') (by simp; omega)
  have hs := same_two (μ := μ) (A := [.str (Wd.red swc (x ++ y)), .bl (ltW x y)]) (by simp [flat]) (by simp)
  obtain ⟨b1, b2⟩ := lt_bools hw hw'
  simp only [bodyB, sSeq, sSet, sIf, sRet, sExpr, sSkip, sBreak, sCont, tNotG, tB1, tAndG, tOrG, eBin, eVar, eC, eCall, eCallK, eLst, eTup, aNil, aCons, eAndG, eOrG, eNotG, eIfG, eCb, eMs, eMl, eNeg, eSl, oNone, oSome, eRev, iSeq, bind_okE, bind_exE, thn_ok, thn_ex, wipeR, tgD, List.getElem?_cons_zero, List.getElem?_cons_succ, List.set_cons_zero, List.set_cons_succ, List.length_cons, List.length_nil, List.nil_append, List.cons_append, List.map_cons, List.map_nil, Nat.reduceAdd, Nat.reduceLeDiff, Nat.zero_le, if_true, if_false, Bool.false_eq_true, Bool.not_true, Bool.not_false, decide_true, decide_false, and_self, true_and, and_true, p1, l1, l2, l3, a1, r1, hs, eqG_str]
  cases h1 : ltW x y <;> cases h2 : ltW y x <;> rw [h1, h2] at b1 b2 <;> simp at b1 b2 <;> simp [b2]
theorem loopA {μ0 : Mem} {p l : Nat} {ws : List D} (hp : p < μ0.length) (hl : μ0[l]? = some (.lst ws)) (hlp : l ≠ p) : ∀ (xs : List (List Nat)) (n : Nat) (pl : Pl) (G : Mem) (a b : Option D), (∀ x ∈ xs, okX x) → PoolOk n pl → n + 10000 * xs.length ≤ big →
    ∃ pl' G', forG (.name 2) bodyA [2, 4] (some (l, ws)) (xs.map .str) [some (.ref p), some (.ref l), a, none, b, none] (μ0.set p (plO pl) ++ G) = .nx [some (.ref p), some (.ref l), none, none, none, none] (μ0.set p (plO pl') ++ G') ∧ PoolOk (n + 10000 * xs.length) pl'
  | [], n, pl, G, a, b, _, hc, _ => by
    have hw : (μ0.set p (plO pl) ++ G)[l]? = some (.lst ws) := by
      rw [List.getElem?_append_left (by simpa using (List.getElem?_eq_some_iff.mp hl).1), List.getElem?_set_ne (Ne.symm hlp)]
      exact hl
    exact ⟨pl, G, by rw [List.map_nil, forW_nil _ _ _ _ _ _ _ hw]; rfl, hc⟩
  | x :: xs, n, pl, G, a, b, hx, hc, hn => by
    have hw : (μ0.set p (plO pl) ++ G)[l]? = some (.lst ws) := by
      rw [List.getElem?_append_left (by simpa using (List.getElem?_eq_some_iff.mp hl).1), List.getElem?_set_ne (Ne.symm hlp)]
      exact hl
    have hpp : (μ0.set p (plO pl) ++ G)[p]? = some (plO pl) := by
      rw [List.getElem?_append_left (by simpa using hp), List.getElem?_set_self hp]
    simp only [List.length_cons] at hn
    obtain ⟨pl1, A, e1, c1⟩ := bodyA_run (l := some (.ref l)) (a := none) hpp hc (hx x List.mem_cons_self) (by omega)
    have hst : (μ0.set p (plO pl) ++ G).set p (plO pl1) ++ A = μ0.set p (plO pl1) ++ (G ++ A) := by
      rw [List.set_append_left _ _ (by simpa using hp), set2, List.append_assoc]
    rw [hst] at e1
    obtain ⟨pl', G', e2, c2⟩ := loopA hp hl hlp xs (n + 10000) pl1 (G ++ A) (some (.str x)) (some (.str (Wd.red swc x))) (fun y hy => hx y (List.mem_cons_of_mem _ hy)) c1 (by omega)
    refine ⟨pl', G', ?_, c2.mono (by simp; omega)⟩
    rw [List.map_cons, forW_cons _ _ _ _ _ _ _ _ _ hw]
    simp only [sSeq, sSet, sIf, sRet, sExpr, sSkip, sBreak, sCont, tNotG, tB1, tAndG, tOrG, eBin, eVar, eC, eCall, eCallK, eLst, eTup, aNil, aCons, eAndG, eOrG, eNotG, eIfG, eCb, eMs, eMl, eNeg, eSl, oNone, oSome, eRev, iSeq, bind_okE, bind_exE, thn_ok, thn_ex, wipeR, tgD, List.getElem?_cons_zero, List.getElem?_cons_succ, List.set_cons_zero, List.set_cons_succ, List.length_cons, List.length_nil, List.nil_append, List.cons_append, List.map_cons, List.map_nil, Nat.reduceAdd, Nat.reduceLeDiff, Nat.zero_le, if_true, if_false, Bool.false_eq_true, Bool.not_true, Bool.not_false, decide_true, decide_false, and_self, true_and, and_true, e1]
    exact e2
theorem loopB2 {l : Nat} {ws : List D} {p : Option D} {x : List Nat} (hx : okX x) : ∀ (ys : List (List Nat)) (μ : Mem) (b : Option D), μ[l]? = some (.lst ws) → (∀ y ∈ ys, okX y) →
    ∃ G, forG (.name 5) bodyB [5] (some (l, ws)) (ys.map .str) [p, some (.ref l), none, some (.str x), none, b] μ = .nx [p, some (.ref l), none, some (.str x), none, none] (μ ++ G)
  | [], μ, b, hw, _ => ⟨[], by rw [List.map_nil, forW_nil _ _ _ _ _ _ _ hw, List.append_nil]; rfl⟩
  | y :: ys, μ, b, hw, hy => by
    obtain ⟨A, e1⟩ := bodyB_run (μ := μ) (p := p) (l := some (.ref l)) hx (hy y List.mem_cons_self)
    have hw2 : (μ ++ A)[l]? = some (.lst ws) := by rw [List.getElem?_append_left (List.getElem?_eq_some_iff.mp hw).1]; exact hw
    obtain ⟨G, e2⟩ := loopB2 hx ys (μ ++ A) (some (.str y)) hw2 fun z hz => hy z (List.mem_cons_of_mem _ hz)
    refine ⟨A ++ G, ?_⟩
    rw [List.map_cons, forW_cons _ _ _ _ _ _ _ _ _ hw]
    simp only [sSeq, sSet, sIf, sRet, sExpr, sSkip, sBreak, sCont, tNotG, tB1, tAndG, tOrG, eBin, eVar, eC, eCall, eCallK, eLst, eTup, aNil, aCons, eAndG, eOrG, eNotG, eIfG, eCb, eMs, eMl, eNeg, eSl, oNone, oSome, eRev, iSeq, bind_okE, bind_exE, thn_ok, thn_ex, wipeR, tgD, List.getElem?_cons_zero, List.getElem?_cons_succ, List.set_cons_zero, List.set_cons_succ, List.length_cons, List.length_nil, List.nil_append, List.cons_append, List.map_cons, List.map_nil, Nat.reduceAdd, Nat.reduceLeDiff, Nat.zero_le, if_true, if_false, Bool.false_eq_true, Bool.not_true, Bool.not_false, decide_true, decide_false, and_self, true_and, and_true, e1]
    rw [← List.append_assoc]
    exact e2
theorem loopB {l : Nat} {all : List (List Nat)} {p : Option D} (hall : ∀ y ∈ all, okX y) : ∀ (xs : List (List Nat)) (μ : Mem) (a b : Option D), μ[l]? = some (.lst (all.map .str)) → (∀ y ∈ xs, okX y) →
    ∃ G, forG (.name 3) (sFor [5] (.name 5) (iSeq (eVar 1)) bodyB) [3, 5] (some (l, all.map .str)) (xs.map .str) [p, some (.ref l), none, a, none, b] μ = .nx [p, some (.ref l), none, none, none, none] (μ ++ G)
  | [], μ, a, b, hw, _ => ⟨[], by rw [List.map_nil, forW_nil _ _ _ _ _ _ _ hw, List.append_nil]; rfl⟩
  | x :: xs, μ, a, b, hw, hx => by
    obtain ⟨A, e1⟩ := loopB2 (p := p) (hx x List.mem_cons_self) all μ none hw hall
    have hw2 : (μ ++ A)[l]? = some (.lst (all.map .str)) := by rw [List.getElem?_append_left (List.getElem?_eq_some_iff.mp hw).1]; exact hw
    obtain ⟨G, e2⟩ := loopB hall xs (μ ++ A) (some (.str x)) none hw2 fun z hz => hx z (List.mem_cons_of_mem _ hz)
    refine ⟨A ++ G, ?_⟩
    rw [List.map_cons, forW_cons _ _ _ _ _ _ _ _ _ hw]
    simp only [sFor, sSeq, sSet, sIf, sRet, sExpr, sSkip, sBreak, sCont, tNotG, tB1, tAndG, tOrG, eBin, eVar, eC, eCall, eCallK, eLst, eTup, aNil, aCons, eAndG, eOrG, eNotG, eIfG, eCb, eMs, eMl, eNeg, eSl, oNone, oSome, eRev, iSeq, bind_okE, bind_exE, thn_ok, thn_ex, wipeR, tgD, List.getElem?_cons_zero, List.getElem?_cons_succ, List.set_cons_zero, List.set_cons_succ, List.length_cons, List.length_nil, List.nil_append, List.cons_append, List.map_cons, List.map_nil, Nat.reduceAdd, Nat.reduceLeDiff, Nat.zero_le, if_true, if_false, Bool.false_eq_true, Bool.not_true, Bool.not_false, decide_true, decide_false, and_self, true_and, and_true, hw, e1]
    rw [← List.append_assoc]
    exact e2
noncomputable def gLaid : Fn := clean (runD N__law_laid_right (m__law_laid_right gLeft gS2 gInv gInverse gReduced gRed gLt gLess gProduct))
theorem laid_eq {μ : Mem} {p l n : Nat} {pl : Pl} {all : List (List Nat)} (h : μ[p]? = some (plO pl)) (hl : μ[l]? = some (.lst (all.map .str))) (hlp : l ≠ p) (hx : ∀ x ∈ all, okX x) (hc : PoolOk n pl) (hn : n + 10000 * all.length ≤ big) :
    ∃ pl', gLaid [.ref p, .ref l] μ = .ok (.bl true) (μ.set p (plO pl')) ∧ PoolOk (n + 10000 * all.length) pl' := by
  have hp := (List.getElem?_eq_some_iff.mp h).1
  obtain ⟨pl', G', e1, c1⟩ := loopA hp hl hlp all n pl [] none none hx hc hn
  have h0 : μ.set p (plO pl) = μ := by
    obtain ⟨h1, h2⟩ := List.getElem?_eq_some_iff.mp h
    rw [← h2, List.set_getElem_self]
  rw [h0, List.append_nil] at e1
  have hw2 : (μ.set p (plO pl') ++ G')[l]? = some (.lst (all.map .str)) := by
    rw [List.getElem?_append_left (by simpa using (List.getElem?_eq_some_iff.mp hl).1), List.getElem?_set_ne (Ne.symm hlp)]
    exact hl
  obtain ⟨G, e2⟩ := loopB (p := some (.ref p)) hx all (μ.set p (plO pl') ++ G') none none hw2 hx
  refine ⟨pl', clean_set (G' ++ G) ?_ (fun _ _ => clo_bl _ _) (fun _ => plO_clo _ _), c1⟩
  rw [← List.append_assoc]
  have f1 : sFor [2, 4] (.name 2) (iSeq (eVar 1)) bodyA [some (.ref p), some (.ref l), none, none, none, none] μ = .nx [some (.ref p), some (.ref l), none, none, none, none] (μ.set p (plO pl') ++ G') := by
    simp only [sFor, sSeq, sSet, sIf, sRet, sExpr, sSkip, sBreak, sCont, tNotG, tB1, tAndG, tOrG, eBin, eVar, eC, eCall, eCallK, eLst, eTup, aNil, aCons, eAndG, eOrG, eNotG, eIfG, eCb, eMs, eMl, eNeg, eSl, oNone, oSome, eRev, iSeq, bind_okE, bind_exE, thn_ok, thn_ex, wipeR, tgD, List.getElem?_cons_zero, List.getElem?_cons_succ, List.set_cons_zero, List.set_cons_succ, List.length_cons, List.length_nil, List.nil_append, List.cons_append, List.map_cons, List.map_nil, Nat.reduceAdd, Nat.reduceLeDiff, Nat.zero_le, if_true, if_false, Bool.false_eq_true, Bool.not_true, Bool.not_false, decide_true, decide_false, and_self, true_and, and_true, hl]
    exact e1
  have f2 : sFor [3, 5] (.name 3) (iSeq (eVar 1)) (sFor [5] (.name 5) (iSeq (eVar 1)) bodyB) [some (.ref p), some (.ref l), none, none, none, none] (μ.set p (plO pl') ++ G') = .nx [some (.ref p), some (.ref l), none, none, none, none] (μ.set p (plO pl') ++ G' ++ G) := by
    simp only [sFor, sSeq, sSet, sIf, sRet, sExpr, sSkip, sBreak, sCont, tNotG, tB1, tAndG, tOrG, eBin, eVar, eC, eCall, eCallK, eLst, eTup, aNil, aCons, eAndG, eOrG, eNotG, eIfG, eCb, eMs, eMl, eNeg, eSl, oNone, oSome, eRev, iSeq, bind_okE, bind_exE, thn_ok, thn_ex, wipeR, tgD, List.getElem?_cons_zero, List.getElem?_cons_succ, List.set_cons_zero, List.set_cons_succ, List.length_cons, List.length_nil, List.nil_append, List.cons_append, List.map_cons, List.map_nil, Nat.reduceAdd, Nat.reduceLeDiff, Nat.zero_le, if_true, if_false, Bool.false_eq_true, Bool.not_true, Bool.not_false, decide_true, decide_false, and_self, true_and, and_true, hw2]
    exact e2
  unfold bodyA at f1
  unfold bodyB at f2
  refine runD_rt ?_
  show m__law_laid_right gLeft gS2 gInv gInverse gReduced gRed gLt gLess gProduct [some (.ref p), some (.ref l), none, none, none, none] μ = _
  unfold m__law_laid_right
  rw [sSeq_nx f1, sSeq_nx f2]
  rfl
end K00

namespace K00
open PySem PySem.Spec PyProof.Rows L2 G
/-! _law_refused -/
abbrev sWord : List Nat := [119, 111, 114, 100]
abbrev sNumber : List Nat := [110, 117, 109, 98, 101, 114]
def clauses : List Hd := [.as (isK T_known "InvalidWord") 4 (fun e a d => sSet 3 (eIfG (tB1 (eIsX e 4 a true)) (eC (.str [119, 111, 114, 100])) (eC (.str [111, 116, 104, 101, 114])))), .pl (isK T_known "InvalidNumber") (sSet 3 (eC (.str [110, 117, 109, 98, 101, 114])))]
theorem isK1 : isK T_known "InvalidWord" eW = some true := by decide +kernel
theorem isK2 : isK T_known "InvalidWord" eN = some false := by decide +kernel
theorem isK3 : isK T_known "InvalidNumber" eN = some true := by decide +kernel
theorem asW (a b c d e f : Option D) (μ : Mem) (x : Addr) (dd : Option Addr) : asG 4 (fun e a d => sSet 3 (eIfG (tB1 (eIsX e 4 a true)) (eC (.str [119, 111, 114, 100])) (eC (.str [111, 116, 104, 101, 114])))) eW [a, b, c, d, e, f] μ x dd = .nx [a, b, c, some (.str sWord), none, f] μ := by
  have h1 : eIsX eW 4 x true [a, b, c, d, some (xoOf eW x dd), f] μ = .ok (.bl true) μ := by
    simp [eIsX, eW, eIsE, xoOf]
  simp only [asG, sSeq, sSet, sIf, sRet, sExpr, sSkip, sBreak, sCont, tNotG, tB1, tAndG, tOrG, eBin, eVar, eC, eCall, eCallK, eLst, eTup, aNil, aCons, eAndG, eOrG, eNotG, eIfG, eCb, eMs, eMl, eNeg, eSl, oNone, oSome, eRev, iSeq, bind_okE, bind_exE, thn_ok, thn_ex, wipeR, tgD, List.getElem?_cons_zero, List.getElem?_cons_succ, List.set_cons_zero, List.set_cons_succ, List.length_cons, List.length_nil, List.nil_append, List.cons_append, List.map_cons, List.map_nil, Nat.reduceAdd, Nat.reduceLeDiff, Nat.zero_le, if_true, if_false, Bool.false_eq_true, Bool.not_true, Bool.not_false, decide_true, decide_false, and_self, true_and, and_true, h1, SR.unset]
theorem catchW (a b c d e f : Option D) (μ : Mem) : catchG clauses eW [a, b, c, d, e, f] μ = .nx [a, b, c, some (.str sWord), none, f] μ := by
  unfold clauses catchG
  rw [isK1]
  dsimp only
  rw [ifC_pos]
  · exact asW a b c d e f μ 0 (ddOf eW 0)
  · intro x y
    rw [asW, asW]
theorem catchN (a b c d e f : Option D) (μ : Mem) : catchG clauses eN [a, b, c, d, e, f] μ = .nx [a, b, c, some (.str sNumber), e, f] μ := by
  unfold clauses catchG
  rw [isK2]
  dsimp only
  unfold catchG
  rw [isK3]
  simp only [sSeq, sSet, sIf, sRet, sExpr, sSkip, sBreak, sCont, tNotG, tB1, tAndG, tOrG, eBin, eVar, eC, eCall, eCallK, eLst, eTup, aNil, aCons, eAndG, eOrG, eNotG, eIfG, eCb, eMs, eMl, eNeg, eSl, oNone, oSome, eRev, iSeq, bind_okE, bind_exE, thn_ok, thn_ex, wipeR, tgD, List.getElem?_cons_zero, List.getElem?_cons_succ, List.set_cons_zero, List.set_cons_succ, List.length_cons, List.length_nil, List.nil_append, List.cons_append, List.map_cons, List.map_nil, Nat.reduceAdd, Nat.reduceLeDiff, Nat.zero_le, if_true, if_false, Bool.false_eq_true, Bool.not_true, Bool.not_false, decide_true, decide_false, and_self, true_and, and_true, SR.noEx]
noncomputable def gRefused : Fn := clean (runD N__law_refused (m__law_refused gInverse gReduced gProduct gPower gLess))
abbrev tryBody (gI gR gP gPw gL : Fn) : Sd := sIf (tB1 (eBin ltG (eVar 0) (eC (.int 3)))) (sSet 5 (eIfG (tB1 (eBin eqG (eVar 0) (eC (.int 0)))) (eCall gI (aCons (eVar 1) (aNil))) (eIfG (tB1 (eBin eqG (eVar 0) (eC (.int 1)))) (eCall gR (aCons (eVar 1) (aNil))) (eCall gP (aCons (eVar 2) (aCons (eVar 1) (aNil))))))) (sIf (tB1 (eBin ltG (eVar 0) (eC (.int 5)))) (sSet 5 (eIfG (tB1 (eBin eqG (eVar 0) (eC (.int 3)))) (eCall gPw (aCons (eVar 1) (aCons (eVar 2) (aNil)))) (eCall gP (aCons (eVar 1) (aCons (eVar 2) (aNil)))))) (sSet 5 (eIfG (tB1 (eBin eqG (eVar 0) (eC (.int 5)))) (eCall gL (aCons (eVar 1) (aCons (eVar 2) (aNil)))) (eCall gL (aCons (eVar 2) (aCons (eVar 1) (aNil)))))))
theorem refused_ex {a b c : D} {μ : Mem} {e : EX} {f : Option D} {x : List Nat} (h : tryBody gInverse gReduced gProduct gPower gLess [some a, some b, some c, some (.str []), none, none] μ = .ex e [some a, some b, some c, some (.str []), none, none] μ)
    (hc : catchG clauses e [some a, some b, some c, some (.str []), none, none] μ = .nx [some a, some b, some c, some (.str x), none, f] μ) : gRefused [a, b, c] μ = .ok (.str x) μ := by
  refine clean_ok [] (runD_rt ?_) (fun n => clo_str n _)
  rw [List.append_nil]
  have ht : sTry (tryBody gInverse gReduced gProduct gPower gLess) clauses [some a, some b, some c, some (.str []), none, none] μ = .nx [some a, some b, some c, some (.str x), none, f] μ := by
    unfold sTry
    rw [h]
    exact hc
  show m__law_refused gInverse gReduced gProduct gPower gLess [some a, some b, some c, none, none, none] μ = _
  unfold m__law_refused
  have h1 : sSet 3 (eC (.str [])) [some a, some b, some c, none, none, none] μ = .nx [some a, some b, some c, some (.str []), none, none] μ := rfl
  rw [sSeq_nx h1]
  exact (sSeq_nx (g := sRet (eVar 3)) ht).trans rfl
section
variable {μ : Mem} {d : D} {kk : Kd} {x : List Nat}
theorem inverse_ex (e : kdOf μ d = some kk) (hz : szD d = true) (hw : isWd Lc d = false) : gInverse [d] μ = .ex eW μ := by
  simp only [gInverse, e, hz, hw, if_true, Bool.false_eq_true, if_false]
theorem reduced_ex (e : kdOf μ d = some kk) (hz : szD d = true) (hw : isWd Lc d = false) : gReduced [d] μ = .ex eW μ := by
  simp only [gReduced, e, hz, hw, if_true, Bool.false_eq_true, if_false]
theorem product_ex1 (e : kdOf μ d = some kk) (hz : szD d = true) (hw : isWd Lc d = false) (hl : x.length ≤ 100000) : gProduct [.str x, d] μ = .ex eW μ := by
  simp only [gProduct, kd_str, e, hz, hw, show szD (.str x) = true from decide_eq_true hl, and_self, if_true, Bool.false_eq_true, and_false, if_false]
theorem product_ex2 (e : kdOf μ d = some kk) (hz : szD d = true) (hw : isWd Lc d = false) (hl : x.length ≤ 100000) : gProduct [d, .str x] μ = .ex eW μ := by
  simp only [gProduct, kd_str, e, hz, hw, show szD (.str x) = true from decide_eq_true hl, and_self, if_true, Bool.false_eq_true, false_and, if_false]
theorem less_ex1 (e : kdOf μ d = some kk) (hz : szD d = true) (hw : isWd Lc d = false) (hl : x.length ≤ 100000) : gLess [.str x, d] μ = .ex eW μ := by
  simp only [gLess, kd_str, e, hz, hw, show szD (.str x) = true from decide_eq_true hl, and_self, if_true, Bool.false_eq_true, and_false, if_false]
theorem less_ex2 (e : kdOf μ d = some kk) (hz : szD d = true) (hw : isWd Lc d = false) (hl : x.length ≤ 100000) : gLess [d, .str x] μ = .ex eW μ := by
  simp only [gLess, kd_str, e, hz, hw, show szD (.str x) = true from decide_eq_true hl, and_self, if_true, Bool.false_eq_true, false_and, if_false]
theorem power_ex {c : D} {k2 : Kd} (e : kdOf μ d = some kk) (hz : szD d = true) (hw : isWd Lc d = false) (ec : kdOf μ c = some k2) (hi : intOf c = 0) : gPower [d, c] μ = .ex eW μ := by
  simp only [gPower, e, ec, hz, hw, hi, Int.natAbs_zero, Nat.mul_zero, Nat.zero_le, and_self, if_true, Bool.false_eq_true, if_false]
theorem power_exN {c : D} {k2 : Kd} (h : okX x) (ec : kdOf μ c = some k2) (hi : intOf c = 0) (hn : isInt c = false) : gPower [.str x, c] μ = .ex eN μ := by
  have h2 : isWd Lc (.str x) = true := h.1
  have h3 : x.length ≤ 100000 := by have := h.2; omega
  simp only [gPower, kd_str, ec, szD, h3, decide_true, hi, Int.natAbs_zero, Nat.mul_zero, Nat.zero_le, and_self, if_true, h2, hn, Bool.false_eq_true, if_false]
/-- whichever is asked -/
theorem refused_word (e : kdOf μ d = some kk) (hz : szD d = true) (hw : isWd Lc d = false) (hx : okX x) {i : Nat} (hi : i < 7) : gRefused [.int i, d, .str x] μ = .ok (.str sWord) μ := by
  have hl : x.length ≤ 100000 := by have := hx.2; omega
  have e1 := inverse_ex e hz hw
  have e2 := reduced_ex e hz hw
  have e3 := product_ex1 e hz hw hl
  have e4 := product_ex2 e hz hw hl
  have e5 := less_ex1 e hz hw hl
  have e6 := less_ex2 e hz hw hl
  have e7 := power_ex (c := .str x) e hz hw (kd_str μ x) rfl
  have key : tryBody gInverse gReduced gProduct gPower gLess [some (.int i), some d, some (.str x), some (.str []), none, none] μ = .ex eW [some (.int i), some d, some (.str x), some (.str []), none, none] μ := by
    match i, hi with
    | 0, _ => simp [tryBody, e1]
    | 1, _ => simp [tryBody, e2]
    | 2, _ => simp [tryBody, e3]
    | 3, _ => simp [tryBody, e7]
    | 4, _ => simp [tryBody, e4]
    | 5, _ => simp [tryBody, e6]
    | 6, _ => simp [tryBody, e5]
  exact refused_ex key (catchW _ _ _ _ _ _ _)
theorem refused_number {c : D} {k2 : Kd} (h : okX x) (ec : kdOf μ c = some k2) (hi : intOf c = 0) (hn : isInt c = false) : gRefused [.int 3, .str x, c] μ = .ok (.str sNumber) μ := by
  have e1 := power_exN h ec hi hn
  exact refused_ex (e := eN) (by simp [tryBody, e1]) (catchN _ _ _ _ _ _ _)
theorem refused_none {c : D} {k2 : Kd} (ec : kdOf μ c = some k2) (hi : intOf c = 0) : gRefused [.int 3, .non, c] μ = .ok (.str sWord) μ := by
  have e1 := power_ex (kd_non μ) rfl rfl ec hi
  exact refused_ex (e := eW) (by simp [tryBody, e1]) (catchW _ _ _ _ _ _ _)
theorem refused_not (h : okX x) : gRefused [.int 0, .str x, .str x] μ = .ok (.str []) μ := by
  have hl : x.length ≤ 100000 := by have := h.2; omega
  have e1 := inverse_eq (μ := μ) h.1 hl
  refine clean_ok [] (runD_rt ?_) (fun n => clo_str n _)
  rw [List.append_nil]
  show m__law_refused gInverse gReduced gProduct gPower gLess [some (.int 0), some (.str x), some (.str x), none, none, none] μ = _
  unfold m__law_refused
  have h1 : sSet 3 (eC (.str [])) [some (.int 0), some (.str x), some (.str x), none, none, none] μ = .nx [some (.int 0), some (.str x), some (.str x), some (.str []), none, none] μ := rfl
  rw [sSeq_nx h1]
  have ht : sTry (tryBody gInverse gReduced gProduct gPower gLess) clauses [some (.int 0), some (.str x), some (.str x), some (.str []), none, none] μ = .nx [some (.int 0), some (.str x), some (.str x), some (.str []), none, some (.str (Wd.inv swc x))] μ := by
    have : tryBody gInverse gReduced gProduct gPower gLess [some (.int 0), some (.str x), some (.str x), some (.str []), none, none] μ = .nx [some (.int 0), some (.str x), some (.str x), some (.str []), none, some (.str (Wd.inv swc x))] μ := by simp [tryBody, e1]
    unfold sTry
    rw [this]
  exact (sSeq_nx (g := sRet (eVar 3)) ht).trans rfl
end
end K00

namespace K00
open PySem PySem.Spec PyProof.Rows L2 G
noncomputable abbrev cc0 : Sd := sSet 3 (eCall gPool (aCons (eVar 2) (aNil)))
noncomputable abbrev cc1 : Sd := sSet 4 (eCall gOneOf (aCons (eVar 3) (aCons (eLst (aCons (eC (.str [97, 65])) (aCons (eC (.str [97, 65, 98, 66])) (aCons (eC (.str [97, 65, 98, 66])) (aCons (eC (.str [97, 65, 98, 66, 99, 67, 100, 68])) (aNil)))))) (aNil))))
noncomputable abbrev cc2 : Sd := sSet 5 (eComp [12] (.name 12) (iRange1 (aCons (eC (.int 4)) (aNil))) (cYes) (eCall gWord (aCons (eVar 3) (aCons (eVar 4) (aCons (eCall gOneOf (aCons (eVar 3) (aCons (eLst (aCons (eC (.int 3)) (aCons (eC (.int 10)) (aCons (eC (.int 60)) (aNil))))) (aNil)))) (aNil))))))
noncomputable abbrev cc3 : Sd := sSet 5 (eBin addD (eVar 5) (eLst (aCons (eBin addD (eSl (eBin ixD (eVar 5) (eC (.int 0))) (oNone) (oSome (eC (.int 40)))) (eCall gInv (aCons (eSl (eSl (eBin ixD (eVar 5) (eC (.int 0))) (oNone) (oSome (eC (.int 40)))) (oSome (eNeg (eC (.int 9)))) (oNone)) (aNil)))) (aCons (eC (.str [])) (aCons (eBin ixD (eVar 5) (eC (.int 1))) (aNil))))))
noncomputable abbrev cc4 : Sd := sIf (tNotG (tB1 (eCall gLaid (aCons (eVar 3) (aCons (eVar 5) (aNil)))))) (sRet (eC (.bl false))) (sSkip)
noncomputable abbrev cc5 : Sd := sSet 6 (eBin subD (eCall gNext (aCons (eVar 3) (aCons (eC (.int 25)) (aNil)))) (eC (.int 12)))
noncomputable abbrev cc6 : Sd := sTup (.tup [9, 10]) (eTup (aCons (eBin ixD (eVar 5) (eC (.int 0))) (aCons (eBin ixD (eVar 5) (eC (.int 1))) (aNil))))
noncomputable abbrev cc7 : Sd := sIf (tNotG (tB1 (eCall gS2 (aCons (eLst (aCons (eCall gPower (aCons (eVar 9) (aCons (eVar 6) (aNil)))) (aCons (eCallK gPower 0 2 aNil (aCons (eVar 9) (aCons (eC (.int 1)) (aNil)))) (aCons (eCall gPower (aCons (eVar 9) (aCons (eC (.int 0)) (aNil)))) (aNil))))) (aCons (eLst (aCons (eCall gPow (aCons (eVar 9) (aCons (eVar 6) (aNil)))) (aCons (eCall gRed (aCons (eVar 9) (aNil))) (aCons (eC (.str [])) (aNil))))) (aNil)))))) (sRet (eC (.bl false))) (sSkip)
noncomputable abbrev cc8 : Sd := sIf (tOrG (tB1 (eBin neG (eCall gPower (aCons (eVar 9) (aCons (eNeg (eVar 6)) (aNil)))) (eCall gInverse (aCons (eCall gPower (aCons (eVar 9) (aCons (eVar 6) (aNil)))) (aNil))))) (tB1 (eBin neG (eCall gProduct (aCons (eCall gPower (aCons (eVar 9) (aCons (eVar 6) (aNil)))) (aCons (eVar 9) (aNil)))) (eCall gPower (aCons (eVar 9) (aCons (eBin addD (eVar 6) (eC (.int 1))) (aNil))))))) (sRet (eC (.bl false))) (sSkip)
noncomputable abbrev cc9 : Sd := sIf (tOrG (tB1 (eBin neG (eCall gProduct (aCons (eCall gProduct (aCons (eVar 9) (aCons (eVar 10) (aNil)))) (aCons (eBin ixD (eVar 5) (eC (.int 2))) (aNil)))) (eCall gProduct (aCons (eVar 9) (aCons (eCall gProduct (aCons (eVar 10) (aCons (eBin ixD (eVar 5) (eC (.int 2))) (aNil)))) (aNil)))))) (tB1 (eBin neG (eCall gProduct (aCons (eVar 9) (aCons (eCall gInverse (aCons (eVar 9) (aNil))) (aNil)))) (eC (.str []))))) (sRet (eC (.bl false))) (sSkip)
noncomputable abbrev cc10_0 : Sd := sSet 11 (eCall gLIs (aCons (eVar 7) (aCons (eC (.str [97, 65, 98, 66, 99, 67, 100, 68])) (aNil))))
noncomputable abbrev cc10_1 : Sd := sIf (tNotG (tB1 (eCall gS2 (aCons (eCall gIsWord (aCons (eVar 7) (aNil))) (aCons (eVar 11) (aNil)))))) (sRet (eC (.bl false))) (sSkip)
noncomputable abbrev cc10_2 : Sd := sIf (tAndG (tNotG (tB1 (eVar 11))) (tB1 (eBin neG (eComp [13] (.name 13) (iRange1 (aCons (eC (.int 7)) (aNil))) (cYes) (eCall gRefused (aCons (eVar 13) (aCons (eVar 7) (aCons (eVar 9) (aNil)))))) (eBin mulD (eLst (aCons (eC (.str [119, 111, 114, 100])) (aNil))) (eC (.int 7)))))) (sRet (eC (.bl false))) (sSkip)
noncomputable abbrev cc10_B : Sd := sSeq cc10_0 (sSeq cc10_1 (cc10_2))
noncomputable abbrev cc10 : Sd := sFor [7, 11] (.name 7) (iSeq (eBin addD (eBin addD (eVar 5) (eComp [12] (.name 12) (iRange1 (aCons (eC (.int 4)) (aNil))) (cYes) (eCall gOneOf (aCons (eVar 3) (aCons (eVar 1) (aNil)))))) (eLst (aCons (eBin addD (eCall gOneOf (aCons (eVar 3) (aCons (eVar 5) (aNil)))) (eCall gOneOf (aCons (eVar 3) (aCons (eLst (aCons (eC (.str [120])) (aCons (eC (.str [32])) (aCons (eC (.str [69])) (aCons (eC (.str [49])) (aCons (eC (.str [45])) (aNil))))))) (aNil))))) (aNil))))) cc10_B
noncomputable abbrev cc11 : Sd := sSet 8 (eCall gOneOf (aCons (eVar 3) (aCons (eLst (aCons (eC .non) (aCons (eC (.str [49])) (aCons (eC (.bl true)) (aCons (eTup (aNil)) (aCons (eLst (aCons (eC (.int 2)) (aNil))) (aNil))))))) (aNil))))
noncomputable abbrev cc12 : Sd := sIf (tOrG (tB1 (eBin neG (eCall gRefused (aCons (eC (.int 3)) (aCons (eVar 9) (aCons (eVar 8) (aNil))))) (eC (.str [110, 117, 109, 98, 101, 114])))) (tOrG (tB1 (eBin neG (eCall gRefused (aCons (eC (.int 3)) (aCons (eC .non) (aCons (eVar 8) (aNil))))) (eC (.str [119, 111, 114, 100])))) (tB1 (eBin neG (eCall gRefused (aCons (eC (.int 0)) (aCons (eVar 9) (aCons (eVar 9) (aNil))))) (eC (.str [])))))) (sRet (eC (.bl false))) (sSkip)
noncomputable abbrev ccB : Sd := sSeq cc0 (sSeq cc1 (sSeq cc2 (sSeq cc3 (sSeq cc4 (sSeq cc5 (sSeq cc6 (sSeq cc7 (sSeq cc8 (sSeq cc9 (sSeq cc10 (sSeq cc11 (cc12))))))))))))
/-! what a store keeps, but for the pool -/
def Ex (p : Nat) (μ ν : Mem) : Prop := μ.length ≤ ν.length ∧ ∀ l, l < μ.length → l ≠ p → ν[l]? = μ[l]?
theorem Ex.refl (p : Nat) (μ : Mem) : Ex p μ μ := ⟨Nat.le_refl _, fun _ _ _ => rfl⟩
theorem Ex.trans {p : Nat} {μ ν ξ : Mem} (a : Ex p μ ν) (b : Ex p ν ξ) : Ex p μ ξ := ⟨Nat.le_trans a.1 b.1, fun l h1 h2 => (b.2 l (Nat.lt_of_lt_of_le h1 a.1) h2).trans (a.2 l h1 h2)⟩
theorem Ex.app (p : Nat) (μ G : Mem) : Ex p μ (μ ++ G) := ⟨by simp, fun l h _ => List.getElem?_append_left h⟩
theorem Ex.set (p : Nat) (μ : Mem) (o : O) : Ex p μ (μ.set p o) := ⟨by simp, fun l _ h => List.getElem?_set_ne (Ne.symm h)⟩
theorem Ex.get {p l : Nat} {μ ν : Mem} {o : O} (e : Ex p μ ν) (h : μ[l]? = some o) (hl : l ≠ p) : ν[l]? = some o := by
  rw [e.2 l (List.getElem?_eq_some_iff.mp h).1 hl]
  exact h
def Pn (p n : Nat) (μ : Mem) : Prop := ∃ pl, μ[p]? = some (plO pl) ∧ PoolOk n pl
theorem Pn.mono {p n m : Nat} {μ : Mem} (h : Pn p n μ) (q : n ≤ m) : Pn p m μ := by
  obtain ⟨pl, h1, h2⟩ := h
  exact ⟨pl, h1, h2.mono q⟩
theorem Pn.app {p n : Nat} {μ : Mem} (h : Pn p n μ) (G : Mem) : Pn p n (μ ++ G) := by
  obtain ⟨pl, h1, h2⟩ := h
  exact ⟨pl, by rw [List.getElem?_append_left (List.getElem?_eq_some_iff.mp h1).1]; exact h1, h2⟩
theorem Pn.lt {p n : Nat} {μ : Mem} (h : Pn p n μ) : p < μ.length := by
  obtain ⟨pl, h1, h2⟩ := h
  exact (List.getElem?_eq_some_iff.mp h1).1
section
variable {p n : Nat} {μ : Mem}
theorem next' {many : Int} (h : Pn p n μ) (hn : n ≤ big) (hm : 0 < many) (hm2 : many < 1000000000) : ∃ v ν, gNext [.ref p, .int many] μ = .ok (.int v) ν ∧ 0 ≤ v ∧ v < many ∧ Ex p μ ν ∧ Pn p (n + 1) ν := by
  obtain ⟨pl, h1, h2⟩ := h
  have hv := nxt_lt pl hm
  exact ⟨_, _, next_ok h1 h2 hn hm hm2, hv.1, hv.2, Ex.set _ _ _, _, at_set h1, h2.nxt _⟩
theorem oneLst {l : Nat} {xs : List D} (h : Pn p n μ) (hn : n ≤ big) (hx : μ[l]? = some (.lst xs)) (hlp : l ≠ p) (hz : xs ≠ []) (hl : xs.length ≤ 1000000) : ∃ d ν, d ∈ xs ∧ gOneOf [.ref p, .ref l] μ = .ok d ν ∧ Ex p μ ν ∧ Pn p (n + 1) ν := by
  obtain ⟨pl, h1, h2⟩ := h
  obtain ⟨d, hd, e⟩ := one_lst h1 h2 hn hx hlp hz hl
  exact ⟨d, _, hd, e, Ex.set _ _ _, _, at_set h1, h2.nxt _⟩
theorem word' {ev : List Nat} {most : Nat} (h : Pn p n μ) (hn : n + most + 1 ≤ big) (hm : most ≤ 1000) (hev : ev ≠ []) (hel : ev.length ≤ 1000000) :
    ∃ w ν, gWord [.ref p, .str ev, .int most] μ = .ok (.str w) ν ∧ w.length ≤ most ∧ (∀ c ∈ w, c ∈ ev) ∧ Ex p μ ν ∧ Pn p (n + 1 + most) ν := by
  obtain ⟨pl, h1, h2⟩ := h
  obtain ⟨w, pl', e, h3, h4, h5⟩ := word_eq h1 h2 hn hm hev hel
  exact ⟨w, _, e, h3, h4, Ex.set _ _ _, _, at_set h1, h5⟩
theorem laid' {l : Nat} {all : List (List Nat)} (h : Pn p n μ) (hl : μ[l]? = some (.lst (all.map .str))) (hlp : l ≠ p) (hx : ∀ x ∈ all, okX x) (hn : n + 10000 * all.length ≤ big) : ∃ ν, gLaid [.ref p, .ref l] μ = .ok (.bl true) ν ∧ Ex p μ ν ∧ Pn p (n + 10000 * all.length) ν := by
  obtain ⟨pl, h1, h2⟩ := h
  obtain ⟨pl', e, h5⟩ := laid_eq h1 hl hlp hx h2 hn
  exact ⟨_, e, Ex.set _ _ _, _, at_set h1, h5⟩
end
theorem kd_ext {M ν : Mem} {p : Nat} {d : D} {k : Kd} (h : kdOf M d = some k) (hp : M.length ≤ p) (e : Ex p M ν) : kdOf ν d = some k := by
  cases d with
  | ref l =>
    have h : (match M[l]? with
      | some (.lst _) => some Kd.lst
      | some (.dct _) => some Kd.dct
      | none => none) = some k := h
    cases q : M[l]? with
    | none => rw [q] at h; cases h
    | some o =>
      have hl : l < M.length := (List.getElem?_eq_some_iff.mp q).1
      have q2 := e.get q (by omega)
      show (match ν[l]? with
        | some (.lst _) => some Kd.lst
        | some (.dct _) => some Kd.dct
        | none => none) = some k
      rw [q2]
      rw [q] at h
      exact h
  | _ => exact h
/-! the steps of one cell -/
section
variable {p n : Nat} {μ M : Mem} {S Od : Option D}
theorem step0 (z : Int) {b c d e f g h i j : Option D} : ∃ ν, cc0 [S, Od, some (.int z), b, c, d, e, f, g, h, i, j, none, none] M = .nx [S, Od, some (.int z), some (.ref M.length), c, d, e, f, g, h, i, j, none, none] ν ∧ Ex M.length M ν ∧ Pn M.length 1 ν := by
  obtain ⟨pl, h1, h2⟩ := pool_eq M z
  refine ⟨M ++ [plO pl], ?_, Ex.app _ _ _, pl, get_last1 _ _, h1⟩
  simp only [cc0, sSeq, sSet, sIf, sRet, sExpr, sSkip, sBreak, sCont, tNotG, tB1, tAndG, tOrG, eBin, eVar, eC, eCall, eCallK, eLst, eTup, aNil, aCons, eAndG, eOrG, eNotG, eIfG, eCb, eMs, eMl, eNeg, eSl, oNone, oSome, eRev, iSeq, bind_okE, bind_exE, thn_ok, thn_ex, wipeR, tgD, List.getElem?_cons_zero, List.getElem?_cons_succ, List.set_cons_zero, List.set_cons_succ, List.length_cons, List.length_nil, List.nil_append, List.cons_append, List.map_cons, List.map_nil, Nat.reduceAdd, Nat.reduceLeDiff, Nat.zero_le, if_true, if_false, Bool.false_eq_true, Bool.not_true, Bool.not_false, decide_true, decide_false, and_self, true_and, and_true, h2]
theorem step1 {a c d e f g h i j : Option D} (hp : Pn p n μ) (hn : n ≤ big) : ∃ ev ν, cc1 [S, Od, a, some (.ref p), c, d, e, f, g, h, i, j, none, none] μ = .nx [S, Od, a, some (.ref p), some (.str ev), d, e, f, g, h, i, j, none, none] ν ∧ Ex p μ ν ∧ Pn p (n + 1) ν ∧ ev ≠ [] ∧ ev.length ≤ 8 ∧ (∀ c ∈ ev, c ∈ Lc) := by
  obtain ⟨dd, ν, h1, h2, h3, h4⟩ := oneLst (l := μ.length) (xs := [.str [97, 65], .str [97, 65, 98, 66], .str [97, 65, 98, 66], .str [97, 65, 98, 66, 99, 67, 100, 68]]) (hp.app [.lst [.str [97, 65], .str [97, 65, 98, 66], .str [97, 65, 98, 66], .str [97, 65, 98, 66, 99, 67, 100, 68]]]) hn (get_last1 _ _) (by have := hp.lt; omega) (by simp) (by simp)
  obtain ⟨ev, rfl, e1, e2, e3⟩ : ∃ ev, dd = .str ev ∧ ev ≠ [] ∧ ev.length ≤ 8 ∧ (∀ c ∈ ev, c ∈ Lc) := by
    simp only [List.mem_cons, List.not_mem_nil, or_false] at h1
    rcases h1 with rfl | rfl | rfl | rfl <;> exact ⟨_, rfl, by simp, by simp, by decide⟩
  refine ⟨ev, ν, ?_, (Ex.app _ _ _).trans h3, h4, e1, e2, e3⟩
  simp only [cc1, sSeq, sSet, sIf, sRet, sExpr, sSkip, sBreak, sCont, tNotG, tB1, tAndG, tOrG, eBin, eVar, eC, eCall, eCallK, eLst, eTup, aNil, aCons, eAndG, eOrG, eNotG, eIfG, eCb, eMs, eMl, eNeg, eSl, oNone, oSome, eRev, iSeq, bind_okE, bind_exE, thn_ok, thn_ex, wipeR, tgD, List.getElem?_cons_zero, List.getElem?_cons_succ, List.set_cons_zero, List.set_cons_succ, List.length_cons, List.length_nil, List.nil_append, List.cons_append, List.map_cons, List.map_nil, Nat.reduceAdd, Nat.reduceLeDiff, Nat.zero_le, if_true, if_false, Bool.false_eq_true, Bool.not_true, Bool.not_false, decide_true, decide_false, and_self, true_and, and_true, h2]
noncomputable abbrev wEl : Ev := eCall gWord (aCons (eVar 3) (aCons (eVar 4) (aCons (eCall gOneOf (aCons (eVar 3) (aCons (eLst (aCons (eC (.int 3)) (aCons (eC (.int 10)) (aCons (eC (.int 60)) (aNil))))) (aNil)))) (aNil))))
theorem words_comp {ev : List Nat} {a d e f g h i j : Option D} (hev : ev ≠ []) (hel : ev.length ≤ 8) : ∀ (xs : List D) (n : Nat) (μ : Mem), Pn p n μ → n + 100 * xs.length ≤ big →
    ∃ (ws : List (List Nat)) (ν : Mem), compG (.name 12) cYes wEl none [S, Od, a, some (.ref p), some (.str ev), d, e, f, g, h, i, j, none, none] xs μ = .ok (ws.map .str) ν ∧ ws.length = xs.length ∧ (∀ w ∈ ws, (∀ c ∈ w, c ∈ ev) ∧ w.length ≤ 60) ∧ Ex p μ ν ∧ Pn p (n + 100 * xs.length) ν
  | [], n, μ, hp, _ => ⟨[], μ, by unfold compG; rw [ifC_pos wtOk_none]; rfl, rfl, fun w hw => by simp at hw, Ex.refl _ _, hp⟩
  | x :: xs, n, μ, hp, hn => by
    simp only [List.length_cons] at hn
    obtain ⟨dd, ν1, h1, h2, h3, h4⟩ := oneLst (l := μ.length) (xs := [.int 3, .int 10, .int 60]) (hp.app [.lst [.int 3, .int 10, .int 60]]) (by omega) (get_last1 _ _) (by have := hp.lt; omega) (by simp) (by simp)
    obtain ⟨most, rfl, hm⟩ : ∃ most : Nat, dd = .int most ∧ most ≤ 60 := by
      simp only [List.mem_cons, List.not_mem_nil, or_false] at h1
      rcases h1 with rfl | rfl | rfl
      · exact ⟨3, rfl, by omega⟩
      · exact ⟨10, rfl, by omega⟩
      · exact ⟨60, rfl, by omega⟩
    obtain ⟨w, ν2, e1, e2, e3, e4, e5⟩ := word' (ev := ev) (most := most) h4 (by omega) (by omega) hev (by omega)
    obtain ⟨ws, ν, f1, f2, f3, f4, f5⟩ := words_comp (a := a) (d := d) (e := e) (f := f) (g := g) (h := h) (i := i) (j := j) hev hel xs (n + 100) ν2 (e5.mono (by omega)) (by omega)
    refine ⟨w :: ws, ν, ?_, by simp [f2], fun y hy => ?_, ((Ex.app _ _ _).trans h3).trans (e4.trans f4), f5.mono (by simp; omega)⟩
    · unfold compG
      rw [ifC_pos wtOk_none]
      simp only [cYes, wEl, sSeq, sSet, sIf, sRet, sExpr, sSkip, sBreak, sCont, tNotG, tB1, tAndG, tOrG, eBin, eVar, eC, eCall, eCallK, eLst, eTup, aNil, aCons, eAndG, eOrG, eNotG, eIfG, eCb, eMs, eMl, eNeg, eSl, oNone, oSome, eRev, iSeq, bind_okE, bind_exE, thn_ok, thn_ex, wipeR, tgD, List.getElem?_cons_zero, List.getElem?_cons_succ, List.set_cons_zero, List.set_cons_succ, List.length_cons, List.length_nil, List.nil_append, List.cons_append, List.map_cons, List.map_nil, Nat.reduceAdd, Nat.reduceLeDiff, Nat.zero_le, if_true, if_false, Bool.false_eq_true, Bool.not_true, Bool.not_false, decide_true, decide_false, and_self, true_and, and_true, h2, e1]
      rw [f1]
      rfl
    · rcases List.mem_cons.mp hy with q | q
      · rw [q]; exact ⟨e3, by omega⟩
      · exact f3 y q
abbrev okY (w : List Nat) : Prop := okW w = true ∧ w.length ≤ 60
theorem step2 {a c d e f g h i j : Option D} {ev : List Nat} (hp : Pn p n μ) (hn : n + 400 ≤ big) (hev : ev ≠ []) (hel : ev.length ≤ 8) (hL : ∀ c ∈ ev, c ∈ Lc) : ∃ w0 w1 w2 w3 q ν, cc2 [S, Od, a, some (.ref p), some (.str ev), d, e, f, g, h, i, j, none, none] μ = .nx [S, Od, a, some (.ref p), some (.str ev), some (.ref q), e, f, g, h, i, j, none, none] ν ∧ Ex p μ ν ∧ Pn p (n + 400) ν ∧ ν[q]? = some (.lst ([w0, w1, w2, w3].map .str)) ∧ q ≠ p ∧ okY w0 ∧ okY w1 ∧ okY w2 ∧ okY w3 := by
  obtain ⟨ws, ν, f1, f2, f3, f4, f5⟩ := words_comp (S := S) (Od := Od) (a := a) (d := d) (e := e) (f := f) (g := g) (h := h) (i := i) (j := j) hev hel (rngL 0 4) n μ hp (by rw [rngL_len]; omega)
  rw [rngL_len] at f2 f5
  have hs := range1_ok (a := aCons (eC (.int 4)) aNil) (ρ := [S, Od, a, some (.ref p), some (.str ev), d, e, f, g, h, i, j, none, none]) (μ := μ) (μ1 := μ) (n := 4) rfl (by omega)
  have hc : eComp [12] (.name 12) (iRange1 (aCons (eC (.int 4)) (aNil))) cYes wEl [S, Od, a, some (.ref p), some (.str ev), d, e, f, g, h, i, j, none, none] μ = .ok (.ref ν.length) (ν ++ [.lst (ws.map .str)]) := by
    unfold eComp
    rw [hs]
    simp only [bind_okE]
    rw [if_pos (by rw [rngL_len]; omega)]
    simp only [sSeq, sSet, sIf, sRet, sExpr, sSkip, sBreak, sCont, tNotG, tB1, tAndG, tOrG, eBin, eVar, eC, eCall, eCallK, eLst, eTup, aNil, aCons, eAndG, eOrG, eNotG, eIfG, eCb, eMs, eMl, eNeg, eSl, oNone, oSome, eRev, iSeq, bind_okE, bind_exE, thn_ok, thn_ex, wipeR, tgD, List.getElem?_cons_zero, List.getElem?_cons_succ, List.set_cons_zero, List.set_cons_succ, List.length_cons, List.length_nil, List.nil_append, List.cons_append, List.map_cons, List.map_nil, Nat.reduceAdd, Nat.reduceLeDiff, Nat.zero_le, if_true, if_false, Bool.false_eq_true, Bool.not_true, Bool.not_false, decide_true, decide_false, and_self, true_and, and_true, f1]
  match ws, f2 with
  | [w0, w1, w2, w3], _ =>
    have ok : ∀ w ∈ [w0, w1, w2, w3], okY w := fun w hw => ⟨okW_iff.mpr fun c hc => hL c ((f3 w hw).1 c hc), (f3 w hw).2⟩
    refine ⟨w0, w1, w2, w3, ν.length, ν ++ [.lst ([w0, w1, w2, w3].map .str)], ?_, f4.trans (Ex.app _ _ _), f5.app _, get_last1 _ _, by have := f5.lt; omega, ok _ (by simp), ok _ (by simp), ok _ (by simp), ok _ (by simp)⟩
    unfold wEl at hc
    simp only [cc2, sSet, hc]
    simp only [sSeq, sSet, sIf, sRet, sExpr, sSkip, sBreak, sCont, tNotG, tB1, tAndG, tOrG, eBin, eVar, eC, eCall, eCallK, eLst, eTup, aNil, aCons, eAndG, eOrG, eNotG, eIfG, eCb, eMs, eMl, eNeg, eSl, oNone, oSome, eRev, iSeq, bind_okE, bind_exE, thn_ok, thn_ex, wipeR, tgD, List.getElem?_cons_zero, List.getElem?_cons_succ, List.set_cons_zero, List.set_cons_succ, List.length_cons, List.length_nil, List.nil_append, List.cons_append, List.map_cons, List.map_nil, Nat.reduceAdd, Nat.reduceLeDiff, Nat.zero_le, if_true, if_false, Bool.false_eq_true, Bool.not_true, Bool.not_false, decide_true, decide_false, and_self, true_and, and_true]
end
end K00

namespace K00
open PySem PySem.Spec PyProof.Rows L2 G
section
variable {p n : Nat} {μ M : Mem} {S Od : Option D}
theorem cut_sub {x : List Nat} {lo hi : Option Int} : ∀ c ∈ cutL x lo hi, c ∈ x := fun c hc => List.mem_of_mem_drop (List.mem_of_mem_take hc)
theorem cut_le {x : List Nat} {lo hi : Option Int} : (cutL x lo hi).length ≤ x.length := by
  unfold cutL
  rw [List.length_take, List.length_drop]
  omega
theorem okW_cut {x : List Nat} {lo hi : Option Int} (h : okW x = true) : okW (cutL x lo hi) = true := okW_iff.mpr fun c hc => okW_iff.mp h c (cut_sub c hc)
def tailW (w : List Nat) : List Nat := cutL w none (some 40) ++ Wd.inv swc (cutL (cutL w none (some 40)) (some (-9)) none)
theorem tailW_ok {w : List Nat} (h : okY w) : okX (tailW w) := by
  refine ⟨okW_app (okW_cut h.1) (okW_inv (okW_cut (okW_cut h.1))), ?_⟩
  have h1 := cut_le (x := w) (lo := none) (hi := some 40)
  have h2 := cut_le (x := cutL w none (some 40)) (lo := some (-9)) (hi := none)
  have h3 := h.2
  simp [tailW, Wd.inv]
  omega
theorem ix0 {ν : Mem} {q : Nat} {a b c d : D} {r : List D} (h : ν[q]? = some (.lst (a :: b :: c :: r))) : ixD (.ref q) (.int 0) ν = .ok a ν ∧ ixD (.ref q) (.int 1) ν = .ok b ν ∧ ixD (.ref q) (.int 2) ν = .ok c ν := by
  refine ⟨?_, ?_, ?_⟩
  · have : (0 : Int) < ((r.length + 1 + 1 + 1 : Nat) : Int) := by omega
    simp only [ixD, seqOf, lstOf, h]
    rw [atI_nat (by omega) (by simpa using this)]
    rfl
  · have : (1 : Int) < ((r.length + 1 + 1 + 1 : Nat) : Int) := by omega
    simp only [ixD, seqOf, lstOf, h]
    rw [atI_nat (by omega) (by simpa using this)]
    rfl
  · have : (2 : Int) < ((r.length + 1 + 1 + 1 : Nat) : Int) := by omega
    simp only [ixD, seqOf, lstOf, h]
    rw [atI_nat (by omega) (by simpa using this)]
    rfl
theorem step3 {a c e f g h i j : Option D} {q : Nat} {w0 w1 w2 w3 : List Nat} (hp : Pn p n μ) (hq : μ[q]? = some (.lst ([w0, w1, w2, w3].map .str))) (h0 : okY w0) :
    ∃ q' ν, cc3 [S, Od, a, some (.ref p), c, some (.ref q), e, f, g, h, i, j, none, none] μ = .nx [S, Od, a, some (.ref p), c, some (.ref q'), e, f, g, h, i, j, none, none] ν ∧ Ex p μ ν ∧ Pn p n ν ∧ ν[q']? = some (.lst ([w0, w1, w2, w3, tailW w0, [], w1].map .str)) ∧ q' ≠ p := by
  have hp1 := hp.lt
  have i0 := ix0 (d := .non) hq
  have hl := h0.2
  have c1 := cut_le (x := w0) (lo := none) (hi := some 40)
  have c2 := cut_le (x := cutL w0 none (some 40)) (lo := some (-9)) (hi := none)
  have s1 : slD (.str w0) none (some 40) μ = .ok (.str (cutL w0 none (some 40))) μ := if_pos (by omega)
  have s2 : slD (.str (cutL w0 none (some 40))) (some (-9)) none μ = .ok (.str (cutL (cutL w0 none (some 40)) (some (-9)) none)) μ := if_pos (by omega)
  have v1 : gInv [.str (cutL (cutL w0 none (some 40)) (some (-9)) none)] μ = .ok (.str (Wd.inv swc (cutL (cutL w0 none (some 40)) (some (-9)) none))) μ := gInv_ok (okW_cut (okW_cut h0.1)) (by omega)
  have a1 : addD (.str (cutL w0 none (some 40))) (.str (Wd.inv swc (cutL (cutL w0 none (some 40)) (some (-9)) none))) μ = .ok (.str (tailW w0)) μ := if_pos (by simp [Wd.inv]; omega)
  have g1 : (μ ++ [O.lst [.str (tailW w0), .str [], .str w1]])[q]? = some (.lst ([w0, w1, w2, w3].map .str)) := by
    rw [List.getElem?_append_left (List.getElem?_eq_some_iff.mp hq).1]; exact hq
  have a2 : addD (.ref q) (.ref μ.length) (μ ++ [O.lst [.str (tailW w0), .str [], .str w1]]) = .ok (.ref (μ ++ [O.lst [.str (tailW w0), .str [], .str w1]]).length) (μ ++ [O.lst [.str (tailW w0), .str [], .str w1]] ++ [O.lst ([w0, w1, w2, w3, tailW w0, [], w1].map .str)]) := by
    simp only [addD, lstOf, g1, get_last1]
    rw [if_pos (by simp)]
    rfl
  refine ⟨(μ ++ [O.lst [.str (tailW w0), .str [], .str w1]]).length, μ ++ [O.lst [.str (tailW w0), .str [], .str w1]] ++ [O.lst ([w0, w1, w2, w3, tailW w0, [], w1].map .str)], ?_, (Ex.app _ _ _).trans (Ex.app _ _ _), (hp.app _).app _, get_last1 _ _, by simp; omega⟩
  simp only [cc3, sSeq, sSet, sIf, sRet, sExpr, sSkip, sBreak, sCont, tNotG, tB1, tAndG, tOrG, eBin, eVar, eC, eCall, eCallK, eLst, eTup, aNil, aCons, eAndG, eOrG, eNotG, eIfG, eCb, eMs, eMl, eNeg, eSl, oNone, oSome, eRev, iSeq, bind_okE, bind_exE, thn_ok, thn_ex, wipeR, tgD, List.getElem?_cons_zero, List.getElem?_cons_succ, List.set_cons_zero, List.set_cons_succ, List.length_cons, List.length_nil, List.nil_append, List.cons_append, List.map_cons, List.map_nil, Nat.reduceAdd, Nat.reduceLeDiff, Nat.zero_le, if_true, if_false, Bool.false_eq_true, Bool.not_true, Bool.not_false, decide_true, decide_false, and_self, true_and, and_true, i0, s1, s2, v1, a1, a2]
theorem step4 {a c e f g h i j : Option D} {q : Nat} {all : List (List Nat)} (hp : Pn p n μ) (hq : μ[q]? = some (.lst (all.map .str))) (hqp : q ≠ p) (hx : ∀ x ∈ all, okX x) (hn : n + 10000 * all.length ≤ big) :
    ∃ ν, cc4 [S, Od, a, some (.ref p), c, some (.ref q), e, f, g, h, i, j, none, none] μ = .nx [S, Od, a, some (.ref p), c, some (.ref q), e, f, g, h, i, j, none, none] ν ∧ Ex p μ ν ∧ Pn p (n + 10000 * all.length) ν := by
  obtain ⟨ν, e1, e2, e3⟩ := laid' hp hq hqp hx hn
  refine ⟨ν, ?_, e2, e3⟩
  simp only [cc4, sSeq, sSet, sIf, sRet, sExpr, sSkip, sBreak, sCont, tNotG, tB1, tAndG, tOrG, eBin, eVar, eC, eCall, eCallK, eLst, eTup, aNil, aCons, eAndG, eOrG, eNotG, eIfG, eCb, eMs, eMl, eNeg, eSl, oNone, oSome, eRev, iSeq, bind_okE, bind_exE, thn_ok, thn_ex, wipeR, tgD, List.getElem?_cons_zero, List.getElem?_cons_succ, List.set_cons_zero, List.set_cons_succ, List.length_cons, List.length_nil, List.nil_append, List.cons_append, List.map_cons, List.map_nil, Nat.reduceAdd, Nat.reduceLeDiff, Nat.zero_le, if_true, if_false, Bool.false_eq_true, Bool.not_true, Bool.not_false, decide_true, decide_false, and_self, true_and, and_true, e1]
theorem step5 {a c d e f g h i j : Option D} (hp : Pn p n μ) (hn : n ≤ big) :
    ∃ v ν, cc5 [S, Od, a, some (.ref p), c, d, e, f, g, h, i, j, none, none] μ = .nx [S, Od, a, some (.ref p), c, d, some (.int v), f, g, h, i, j, none, none] ν ∧ Ex p μ ν ∧ Pn p (n + 1) ν ∧ -12 ≤ v ∧ v ≤ 12 := by
  obtain ⟨v, ν, e1, e2, e3, e4, e5⟩ := next' (many := 25) hp hn (by omega) (by omega)
  refine ⟨v - 12, ν, ?_, e4, e5, by omega, by omega⟩
  simp only [cc5, sSeq, sSet, sIf, sRet, sExpr, sSkip, sBreak, sCont, tNotG, tB1, tAndG, tOrG, eBin, eVar, eC, eCall, eCallK, eLst, eTup, aNil, aCons, eAndG, eOrG, eNotG, eIfG, eCb, eMs, eMl, eNeg, eSl, oNone, oSome, eRev, iSeq, bind_okE, bind_exE, thn_ok, thn_ex, wipeR, tgD, List.getElem?_cons_zero, List.getElem?_cons_succ, List.set_cons_zero, List.set_cons_succ, List.length_cons, List.length_nil, List.nil_append, List.cons_append, List.map_cons, List.map_nil, Nat.reduceAdd, Nat.reduceLeDiff, Nat.zero_le, if_true, if_false, Bool.false_eq_true, Bool.not_true, Bool.not_false, decide_true, decide_false, and_self, true_and, and_true, e1, sub_int]
theorem step6 {a b c e f g h i j : Option D} {q : Nat} {w0 w1 w2 : List Nat} {r : List D} (hq : μ[q]? = some (.lst (.str w0 :: .str w1 :: .str w2 :: r))) :
    cc6 [S, Od, a, b, c, some (.ref q), e, f, g, h, i, j, none, none] μ = .nx [S, Od, a, b, c, some (.ref q), e, f, g, some (.str w0), some (.str w1), j, none, none] μ := by
  have i0 := ix0 (d := .non) hq
  simp only [cc6, sSeq, sSet, sIf, sRet, sExpr, sSkip, sBreak, sCont, tNotG, tB1, tAndG, tOrG, eBin, eVar, eC, eCall, eCallK, eLst, eTup, aNil, aCons, eAndG, eOrG, eNotG, eIfG, eCb, eMs, eMl, eNeg, eSl, oNone, oSome, eRev, iSeq, bind_okE, bind_exE, thn_ok, thn_ex, wipeR, tgD, List.getElem?_cons_zero, List.getElem?_cons_succ, List.set_cons_zero, List.set_cons_succ, List.length_cons, List.length_nil, List.nil_append, List.cons_append, List.map_cons, List.map_nil, Nat.reduceAdd, Nat.reduceLeDiff, Nat.zero_le, if_true, if_false, Bool.false_eq_true, Bool.not_true, Bool.not_false, decide_true, decide_false, and_self, true_and, and_true, i0, sTup, setAll]
theorem pow_le {x : List Nat} {v : Int} (hx : okY x) (h1 : -13 ≤ v) (h2 : v ≤ 13) : x.length * v.natAbs ≤ 400000 ∧ v.natAbs ≤ 400000 ∧ (Wd.pw swc x v).length ≤ 60 * 13 := by
  have h3 := hx.2
  have h4 : v.natAbs ≤ 13 := by omega
  have h5 : x.length * v.natAbs ≤ 60 * 13 := Nat.mul_le_mul h3 h4
  refine ⟨by omega, by omega, ?_⟩
  unfold Wd.pw
  split
  · rw [rep_len, Nat.mul_comm, show v.toNat = v.natAbs by omega]; exact h5
  · rw [rep_len, Nat.mul_comm, show (-v).toNat = v.natAbs by omega]
    simpa [Wd.inv] using h5
theorem okW_pw {x : List Nat} {v : Int} (hx : okW x = true) : okW (Wd.pw swc x v) = true := by
  unfold Wd.pw
  split
  · exact okW_rep hx _
  · exact okW_rep (okW_inv hx) _
theorem pw_eq {μ : Mem} {x : List Nat} {v : Int} (hx : okY x) (h1 : -13 ≤ v) (h2 : v ≤ 13) : gPower [.str x, .int v] μ = .ok (.str (Wd.red swc (Wd.pw swc x v))) μ := by
  have q := pow_le hx h1 h2
  have := hx.2
  exact power_eq hx.1 (by omega) q.1 q.2.1
theorem step7 {a b c d f g h j : Option D} {one : List Nat} {v : Int} (h0 : okY one) (h1 : -12 ≤ v) (h2 : v ≤ 12) :
    ∃ G, cc7 [S, Od, a, b, c, d, some (.int v), f, g, some (.str one), h, j, none, none] μ = .nx [S, Od, a, b, c, d, some (.int v), f, g, some (.str one), h, j, none, none] (μ ++ G) := by
  have hl := h0.2
  have e1 : ∀ μ, gPower [.str one, .int v] μ = .ok (.str (Wd.red swc (Wd.pw swc one v))) μ := fun μ => pw_eq h0 (by omega) (by omega)
  have e2 : ∀ μ, gPower [.str one, .int 1] μ = .ok (.str (Wd.red swc one)) μ := fun μ => by rw [pw_eq h0 (by omega) (by omega), Wd.pw_one swc_swc]
  have e3 : ∀ μ, gPower [.str one, .int 0] μ = .ok (.str []) μ := fun μ => by
    rw [pw_eq h0 (by omega) (by omega), Wd.pw_zero swc_swc]
    rfl
  have q := pow_le h0 (v := v) (by omega) (by omega)
  have e4 : ∀ μ, gPow [.str one, .int v] μ = .ok (.str (Wd.red swc (Wd.pw swc one v))) μ := fun μ => if_pos ⟨h0.1, q.1, by omega, q.2.1⟩
  have e5 : ∀ μ, gRed [.str one] μ = .ok (.str (Wd.red swc one)) μ := fun μ => gRed_ok h0.1 (by omega)
  have hs := same_two (μ := μ) (A := [.str (Wd.red swc (Wd.pw swc one v)), .str (Wd.red swc one), .str []]) (by simp [flat]) (by simp)
  refine ⟨[O.lst [.str (Wd.red swc (Wd.pw swc one v)), .str (Wd.red swc one), .str []], O.lst [.str (Wd.red swc (Wd.pw swc one v)), .str (Wd.red swc one), .str []]], ?_⟩
  simp only [cc7, sSeq, sSet, sIf, sRet, sExpr, sSkip, sBreak, sCont, tNotG, tB1, tAndG, tOrG, eBin, eVar, eC, eCall, eCallK, eLst, eTup, aNil, aCons, eAndG, eOrG, eNotG, eIfG, eCb, eMs, eMl, eNeg, eSl, oNone, oSome, eRev, iSeq, bind_okE, bind_exE, thn_ok, thn_ex, wipeR, tgD, List.getElem?_cons_zero, List.getElem?_cons_succ, List.set_cons_zero, List.set_cons_succ, List.length_cons, List.length_nil, List.nil_append, List.cons_append, List.map_cons, List.map_nil, Nat.reduceAdd, Nat.reduceLeDiff, Nat.zero_le, if_true, if_false, Bool.false_eq_true, Bool.not_true, Bool.not_false, decide_true, decide_false, and_self, true_and, and_true, e1, e2, e3, e4, e5, hs]
  simp
theorem step8 {a b c d f g h j : Option D} {one : List Nat} {v : Int} (h0 : okY one) (h1 : -12 ≤ v) (h2 : v ≤ 12) :
    cc8 [S, Od, a, b, c, d, some (.int v), f, g, some (.str one), h, j, none, none] μ = .nx [S, Od, a, b, c, d, some (.int v), f, g, some (.str one), h, j, none, none] μ := by
  have hl := h0.2
  have q := pow_le h0 (v := v) (by omega) (by omega)
  have r1 := Wd.red_len (i := swc) (Wd.pw swc one v)
  have n1 : eNeg (eVar 6) [S, Od, a, b, c, d, some (.int v), f, g, some (.str one), h, j, none, none] μ = .ok (.int (-v)) μ := rfl
  have e1 : gPower [.str one, .int v] μ = .ok (.str (Wd.red swc (Wd.pw swc one v))) μ := pw_eq h0 (by omega) (by omega)
  have e2 : gPower [.str one, .int (-v)] μ = .ok (.str (Wd.inv swc (Wd.red swc (Wd.pw swc one v)))) μ := by rw [pw_eq h0 (by omega) (by omega), Wd.pw_neg swc_swc]
  have e3 : gPower [.str one, .int (v + 1)] μ = .ok (.str (Wd.red swc (Wd.pw swc one (v + 1)))) μ := pw_eq h0 (by omega) (by omega)
  have e4 : gInverse [.str (Wd.red swc (Wd.pw swc one v))] μ = .ok (.str (Wd.inv swc (Wd.red swc (Wd.pw swc one v)))) μ := inverse_eq (okW_red (okW_pw h0.1)) (by omega)
  have e5 : gProduct [.str (Wd.red swc (Wd.pw swc one v)), .str one] μ = .ok (.str (Wd.red swc (Wd.pw swc one (v + 1)))) μ := by
    rw [product_eq (okW_red (okW_pw h0.1)) (by omega) h0.1 (by omega), Wd.pw_succ swc_swc]
  simp only [cc8, sSeq, sSet, sIf, sRet, sExpr, sSkip, sBreak, sCont, tNotG, tB1, tAndG, tOrG, eBin, eVar, eC, eCall, eCallK, eLst, eTup, aNil, aCons, eAndG, eOrG, eNotG, eIfG, eCb, eMs, eMl, eNeg, eSl, oNone, oSome, eRev, iSeq, bind_okE, bind_exE, thn_ok, thn_ex, wipeR, tgD, List.getElem?_cons_zero, List.getElem?_cons_succ, List.set_cons_zero, List.set_cons_succ, List.length_cons, List.length_nil, List.nil_append, List.cons_append, List.map_cons, List.map_nil, Nat.reduceAdd, Nat.reduceLeDiff, Nat.zero_le, if_true, if_false, Bool.false_eq_true, Bool.not_true, Bool.not_false, decide_true, decide_false, and_self, true_and, and_true, n1, e1, e2, e3, e4, e5, add_int, neG_str]
theorem step9 {a b c e f g j : Option D} {q : Nat} {one other w2 : List Nat} {r : List D} (hq : μ[q]? = some (.lst (.str one :: .str other :: .str w2 :: r))) (h0 : okY one) (h1 : okY other) (h2 : okY w2) :
    cc9 [S, Od, a, b, c, some (.ref q), e, f, g, some (.str one), some (.str other), j, none, none] μ = .nx [S, Od, a, b, c, some (.ref q), e, f, g, some (.str one), some (.str other), j, none, none] μ := by
  have i0 := ix0 (d := .non) hq
  have l0 := h0.2
  have l1 := h1.2
  have l2 := h2.2
  have r1 := Wd.red_len (i := swc) (one ++ other)
  have r2 := Wd.red_len (i := swc) (other ++ w2)
  simp only [List.length_append] at r1 r2
  have e1 : gProduct [.str one, .str other] μ = .ok (.str (Wd.red swc (one ++ other))) μ := product_eq h0.1 (by omega) h1.1 (by omega)
  have e2 : gProduct [.str other, .str w2] μ = .ok (.str (Wd.red swc (other ++ w2))) μ := product_eq h1.1 (by omega) h2.1 (by omega)
  have e3 : gProduct [.str (Wd.red swc (one ++ other)), .str w2] μ = .ok (.str (Wd.red swc (one ++ Wd.red swc (other ++ w2)))) μ := by
    rw [product_eq (okW_red (okW_app h0.1 h1.1)) (by omega) h2.1 (by omega), Wd.red_assoc swc_swc]
  have e4 : gProduct [.str one, .str (Wd.red swc (other ++ w2))] μ = .ok (.str (Wd.red swc (one ++ Wd.red swc (other ++ w2)))) μ := product_eq h0.1 (by omega) (okW_red (okW_app h1.1 h2.1)) (by omega)
  have e5 : gInverse [.str one] μ = .ok (.str (Wd.inv swc one)) μ := inverse_eq h0.1 (by omega)
  have e6 : gProduct [.str one, .str (Wd.inv swc one)] μ = .ok (.str []) μ := by
    rw [product_eq h0.1 (by omega) (okW_inv h0.1) (by simp [Wd.inv]; omega), Wd.red_inv_self swc_swc]
  simp only [cc9, sSeq, sSet, sIf, sRet, sExpr, sSkip, sBreak, sCont, tNotG, tB1, tAndG, tOrG, eBin, eVar, eC, eCall, eCallK, eLst, eTup, aNil, aCons, eAndG, eOrG, eNotG, eIfG, eCb, eMs, eMl, eNeg, eSl, oNone, oSome, eRev, iSeq, bind_okE, bind_exE, thn_ok, thn_ex, wipeR, tgD, List.getElem?_cons_zero, List.getElem?_cons_succ, List.set_cons_zero, List.set_cons_succ, List.length_cons, List.length_nil, List.nil_append, List.cons_append, List.map_cons, List.map_nil, Nat.reduceAdd, Nat.reduceLeDiff, Nat.zero_le, if_true, if_false, Bool.false_eq_true, Bool.not_true, Bool.not_false, decide_true, decide_false, and_self, true_and, and_true, i0, e1, e2, e3, e4, e5, e6, neG_str]
end
end K00

namespace K00
open PySem PySem.Spec PyProof.Rows L2 G
section
variable {p n : Nat} {μ M : Mem} {S Od : Option D}
theorem isword_eq {d : D} {kk : Kd} (e : kdOf μ d = some kk) (hz : szD d = true) : gIsWord [d] μ = .ok (.bl (isWd Lc d)) μ := by
  simp only [gIsWord, e, hz, if_true]
theorem val_run {a b c d e g h : Option D} {v : D} {kk : Kd} {one : List Nat} (hv : kdOf μ v = some kk) (hz : szD v = true) (h0 : okX one) :
    ∃ G, cc10_B [S, Od, a, b, c, d, e, some v, g, some (.str one), h, none, none, none] μ = .nx [S, Od, a, b, c, d, e, some v, g, some (.str one), h, some (.bl (isWd Lc v)), none, none] (μ ++ G) := by
  have e1 : gLIs [v, .str [97, 65, 98, 66, 99, 67, 100, 68]] μ = .ok (.bl (isWd Lc v)) μ := lis_eq hv hz
  have e2 := isword_eq hv hz
  have e3 : gS2 [.bl (isWd Lc v), .bl (isWd Lc v)] μ = .ok (.bl true) μ := S2_flat μ trivial
  cases hw : isWd Lc v with
  | true =>
    rw [hw] at e1 e2 e3
    exact ⟨[], by simp only [cc10_B, cc10_0, cc10_1, cc10_2, sSeq, sSet, sIf, sRet, sExpr, sSkip, sBreak, sCont, tNotG, tB1, tAndG, tOrG, eBin, eVar, eC, eCall, eCallK, eLst, eTup, aNil, aCons, eAndG, eOrG, eNotG, eIfG, eCb, eMs, eMl, eNeg, eSl, oNone, oSome, eRev, iSeq, bind_okE, bind_exE, thn_ok, thn_ex, wipeR, tgD, List.getElem?_cons_zero, List.getElem?_cons_succ, List.set_cons_zero, List.set_cons_succ, List.length_cons, List.length_nil, List.nil_append, List.cons_append, List.map_cons, List.map_nil, Nat.reduceAdd, Nat.reduceLeDiff, Nat.zero_le, if_true, if_false, Bool.false_eq_true, Bool.not_true, Bool.not_false, decide_true, decide_false, and_self, true_and, and_true, e1, e2, e3, List.append_nil]⟩
  | false =>
    rw [hw] at e1 e2 e3
    have hr : ∀ i, i < 7 → gRefused [.int (i : Nat), v, .str one] μ = .ok (.str sWord) μ := fun i hi => refused_word hv hz hw h0 hi
    have hc := eComp_map (ws := [13]) (t := .name 13) (src := iRange1 (aCons (eC (.int 7)) (aNil))) (el := eCall gRefused (aCons (eVar 13) (aCons (eVar 7) (aCons (eVar 9) (aNil))))) (ρ := [S, Od, a, b, c, d, e, some v, g, some (.str one), h, some (.bl false), none, none]) (μ := μ) (μ1 := μ) (xs := rngL 0 7) (wt := none)
      (range1_ok (n := 7) rfl (by omega)) (by rw [rngL_len]; omega) wtOk_none (fun _ => .str sWord) (by
        intro d hd
        obtain ⟨i, hi, rfl⟩ := rngL_mem hd
        refine ⟨_, rfl, ?_⟩
        simp only [sSeq, sSet, sIf, sRet, sExpr, sSkip, sBreak, sCont, tNotG, tB1, tAndG, tOrG, eBin, eVar, eC, eCall, eCallK, eLst, eTup, aNil, aCons, eAndG, eOrG, eNotG, eIfG, eCb, eMs, eMl, eNeg, eSl, oNone, oSome, eRev, iSeq, bind_okE, bind_exE, thn_ok, thn_ex, wipeR, tgD, List.getElem?_cons_zero, List.getElem?_cons_succ, List.set_cons_zero, List.set_cons_succ, List.length_cons, List.length_nil, List.nil_append, List.cons_append, List.map_cons, List.map_nil, Nat.reduceAdd, Nat.reduceLeDiff, Nat.zero_le, if_true, if_false, Bool.false_eq_true, Bool.not_true, Bool.not_false, decide_true, decide_false, and_self, true_and, and_true, hr i hi])
    have hx : ((rngL 0 7).map fun _ => D.str sWord) = (List.replicate 7 sWord).map .str := rfl
    rw [hx] at hc
    have hm : mulD (.ref (μ ++ [O.lst ((List.replicate 7 sWord).map .str)]).length) (.int 7) (μ ++ [O.lst ((List.replicate 7 sWord).map .str)] ++ [O.lst [.str sWord]]) = .ok (.ref (μ ++ [O.lst ((List.replicate 7 sWord).map .str)] ++ [O.lst [.str sWord]]).length) (μ ++ [O.lst ((List.replicate 7 sWord).map .str)] ++ [O.lst [.str sWord]] ++ [O.lst ((List.replicate 7 sWord).map .str)]) := by
      simp only [mulD, get_last1]
      rw [if_pos (by decide)]
      rfl
    have hn := neG_strs (μ := μ ++ [O.lst ((List.replicate 7 sWord).map .str)] ++ [O.lst [.str sWord]] ++ [O.lst ((List.replicate 7 sWord).map .str)]) (l := μ.length) (k := (μ ++ [O.lst ((List.replicate 7 sWord).map .str)] ++ [O.lst [.str sWord]]).length) (xs := List.replicate 7 sWord) (ys := List.replicate 7 sWord)
      (by rw [List.append_assoc, List.append_assoc, List.getElem?_append_right (Nat.le_refl _), Nat.sub_self]; rfl) (get_last1 _ _)
    refine ⟨[O.lst ((List.replicate 7 sWord).map .str)] ++ [O.lst [.str sWord]] ++ [O.lst ((List.replicate 7 sWord).map .str)], ?_⟩
    rw [← List.append_assoc, ← List.append_assoc]
    simp only [cc10_B, cc10_0, cc10_1, cc10_2, sSeq, sSet, sIf, sRet, sExpr, sSkip, sBreak, sCont, tNotG, tB1, tAndG, tOrG, eBin, eVar, eC, eCall, eCallK, eLst, eTup, aNil, aCons, eAndG, eOrG, eNotG, eIfG, eCb, eMs, eMl, eNeg, eSl, oNone, oSome, eRev, iSeq, bind_okE, bind_exE, thn_ok, thn_ex, wipeR, tgD, List.getElem?_cons_zero, List.getElem?_cons_succ, List.set_cons_zero, List.set_cons_succ, List.length_cons, List.length_nil, List.nil_append, List.cons_append, List.map_cons, List.map_nil, Nat.reduceAdd, Nat.reduceLeDiff, Nat.zero_le, if_true, if_false, Bool.false_eq_true, Bool.not_true, Bool.not_false, decide_true, decide_false, and_self, true_and, and_true, e1, e2, e3, hc, hm, hn]
theorem val_loop {a b c d e g h : Option D} {q : Nat} {all : List D} {one : List Nat} (h0 : okX one) : ∀ (ds : List D) (μ : Mem) (x y : Option D), μ[q]? = some (.lst all) → (∀ v ∈ ds, (∃ k, kdOf μ v = some k) ∧ szD v = true) →
    ∃ G, forG (.name 7) cc10_B [7, 11] (some (q, all)) ds [S, Od, a, b, c, d, e, x, g, some (.str one), h, y, none, none] μ = .nx [S, Od, a, b, c, d, e, none, g, some (.str one), h, none, none, none] (μ ++ G)
  | [], μ, x, y, hw, _ => ⟨[], by rw [forW_nil _ _ _ _ _ _ _ hw, List.append_nil]; rfl⟩
  | v :: ds, μ, x, y, hw, hv => by
    obtain ⟨⟨k, hk⟩, hz⟩ := hv v List.mem_cons_self
    obtain ⟨A, e1⟩ := val_run (S := S) (Od := Od) (a := a) (b := b) (c := c) (d := d) (e := e) (g := g) (h := h) hk hz h0
    have hw2 : (μ ++ A)[q]? = some (.lst all) := by rw [List.getElem?_append_left (List.getElem?_eq_some_iff.mp hw).1]; exact hw
    obtain ⟨G, e2⟩ := val_loop (a := a) (b := b) (c := c) (d := d) (e := e) (g := g) (h := h) h0 ds (μ ++ A) (some v) (some (.bl (isWd Lc v))) hw2 fun u hu => by
      obtain ⟨⟨k, hk⟩, hz⟩ := hv u (List.mem_cons_of_mem _ hu)
      exact ⟨⟨k, kd_app hk⟩, hz⟩
    refine ⟨A ++ G, ?_⟩
    rw [forW_cons _ _ _ _ _ _ _ _ _ hw]
    have e1' : cc10_B ([S, Od, a, b, c, d, e, none, g, some (.str one), h, none, none, none].set 7 (some v)) μ = _ := e1
    simp only [List.set_cons_succ, List.set_cons_zero] at e1'
    simp only [wipeR, tgD, List.set_cons_succ, List.set_cons_zero]
    rw [e1', ← List.append_assoc]
    exact e2
theorem odds_comp {a c d e f g h i j : Option D} {o : Nat} {odd : List D} (ho : o ≠ p) (hne : odd ≠ []) (hol : odd.length ≤ 1000) : ∀ (xs : List D) (n : Nat) (μ : Mem), Pn p n μ → μ[o]? = some (.lst odd) → n + xs.length ≤ big →
    ∃ (ds : List D) (ν : Mem), compG (.name 12) cYes (eCall gOneOf (aCons (eVar 3) (aCons (eVar 1) (aNil)))) none [S, some (.ref o), a, some (.ref p), c, d, e, f, g, h, i, j, none, none] xs μ = .ok ds ν ∧ ds.length = xs.length ∧ (∀ v ∈ ds, v ∈ odd) ∧ Ex p μ ν ∧ Pn p (n + xs.length) ν
  | [], n, μ, hp, _, _ => ⟨[], μ, by unfold compG; rw [ifC_pos wtOk_none], rfl, fun w hw => by simp at hw, Ex.refl _ _, hp⟩
  | x :: xs, n, μ, hp, hq, hn => by
    simp only [List.length_cons] at hn
    obtain ⟨v, ν1, h1, h2, h3, h4⟩ := oneLst hp (by omega) hq ho hne (by omega)
    obtain ⟨ds, ν, f1, f2, f3, f4, f5⟩ := odds_comp (a := a) (c := c) (d := d) (e := e) (f := f) (g := g) (h := h) (i := i) (j := j) ho hne hol xs (n + 1) ν1 h4 (h3.get hq ho) (by omega)
    refine ⟨v :: ds, ν, ?_, by simp [f2], fun y hy => ?_, h3.trans f4, f5.mono (by simp; omega)⟩
    · unfold compG
      rw [ifC_pos wtOk_none]
      simp only [cYes, sSeq, sSet, sIf, sRet, sExpr, sSkip, sBreak, sCont, tNotG, tB1, tAndG, tOrG, eBin, eVar, eC, eCall, eCallK, eLst, eTup, aNil, aCons, eAndG, eOrG, eNotG, eIfG, eCb, eMs, eMl, eNeg, eSl, oNone, oSome, eRev, iSeq, bind_okE, bind_exE, thn_ok, thn_ex, wipeR, tgD, List.getElem?_cons_zero, List.getElem?_cons_succ, List.set_cons_zero, List.set_cons_succ, List.length_cons, List.length_nil, List.nil_append, List.cons_append, List.map_cons, List.map_nil, Nat.reduceAdd, Nat.reduceLeDiff, Nat.zero_le, if_true, if_false, Bool.false_eq_true, Bool.not_true, Bool.not_false, decide_true, decide_false, and_self, true_and, and_true, h2]
      rw [f1]
      rfl
    · rcases List.mem_cons.mp hy with q | q
      · rw [q]; exact h1
      · exact f3 y q
theorem step10 {a c e g h : Option D} {o q : Nat} {odd : List D} {all : List (List Nat)} {one : List Nat} (hp : Pn p n μ) (hn : n + 10 ≤ big) (ho : o ≠ p) (hq : q ≠ p) (hoq : μ[o]? = some (.lst odd)) (hne : odd ≠ []) (hol : odd.length ≤ 1000) (hall : μ[q]? = some (.lst (all.map .str))) (hne2 : all ≠ []) (hal : all.length ≤ 1000) (hok : ∀ x ∈ all, okX x)
    (hgood : ∀ v ∈ odd, ∀ ν, Ex p μ ν → (∃ k, kdOf ν v = some k) ∧ szD v = true) (h0 : okX one) :
    ∃ ν, cc10 [S, some (.ref o), a, some (.ref p), c, some (.ref q), e, none, g, some (.str one), h, none, none, none] μ = .nx [S, some (.ref o), a, some (.ref p), c, some (.ref q), e, none, g, some (.str one), h, none, none, none] ν ∧ Ex p μ ν ∧ Pn p (n + 10) ν := by
  obtain ⟨ds, ν1, f1, f2, f3, f4, f5⟩ := odds_comp (S := S) (a := a) (c := c) (d := some (.ref q)) (e := e) (f := none) (g := g) (h := some (.str one)) (i := h) (j := none) ho hne hol (rngL 0 4) n μ hp hoq (by rw [rngL_len]; omega)
  rw [rngL_len] at f2 f5
  have hs := range1_ok (a := aCons (eC (.int 4)) aNil) (ρ := [S, some (.ref o), a, some (.ref p), c, some (.ref q), e, none, g, some (.str one), h, none, none, none]) (μ := μ) (μ1 := μ) (n := 4) rfl (by omega)
  have hc : eComp [12] (.name 12) (iRange1 (aCons (eC (.int 4)) (aNil))) cYes (eCall gOneOf (aCons (eVar 3) (aCons (eVar 1) (aNil)))) [S, some (.ref o), a, some (.ref p), c, some (.ref q), e, none, g, some (.str one), h, none, none, none] μ = .ok (.ref ν1.length) (ν1 ++ [.lst ds]) := by
    unfold eComp
    rw [hs]
    simp only [bind_okE]
    rw [if_pos (by rw [rngL_len]; omega)]
    simp only [sSeq, sSet, sIf, sRet, sExpr, sSkip, sBreak, sCont, tNotG, tB1, tAndG, tOrG, eBin, eVar, eC, eCall, eCallK, eLst, eTup, aNil, aCons, eAndG, eOrG, eNotG, eIfG, eCb, eMs, eMl, eNeg, eSl, oNone, oSome, eRev, iSeq, bind_okE, bind_exE, thn_ok, thn_ex, wipeR, tgD, List.getElem?_cons_zero, List.getElem?_cons_succ, List.set_cons_zero, List.set_cons_succ, List.length_cons, List.length_nil, List.nil_append, List.cons_append, List.map_cons, List.map_nil, Nat.reduceAdd, Nat.reduceLeDiff, Nat.zero_le, if_true, if_false, Bool.false_eq_true, Bool.not_true, Bool.not_false, decide_true, decide_false, and_self, true_and, and_true, f1]
  have q1 := f4.get hall hq
  have q2 : (ν1 ++ [O.lst ds])[q]? = some (.lst (all.map .str)) := by rw [List.getElem?_append_left (List.getElem?_eq_some_iff.mp q1).1]; exact q1
  have a1 : addD (.ref q) (.ref ν1.length) (ν1 ++ [O.lst ds]) = .ok (.ref (ν1 ++ [O.lst ds]).length) (ν1 ++ [O.lst ds] ++ [O.lst (all.map .str ++ ds)]) := by
    simp only [addD, lstOf, q2, get_last1]
    rw [if_pos (by simp; omega)]
  have p2 : Pn p (n + 4) (ν1 ++ [O.lst ds] ++ [O.lst (all.map .str ++ ds)]) := (f5.app _).app _
  have q3 : (ν1 ++ [O.lst ds] ++ [O.lst (all.map .str ++ ds)])[q]? = some (.lst (all.map .str)) := by rw [List.getElem?_append_left (List.getElem?_eq_some_iff.mp q2).1]; exact q2
  obtain ⟨w, ν2, g1, g2, g3, g4⟩ := oneLst p2 (by omega) q3 hq (by simpa using hne2) (by simp; omega)
  obtain ⟨x, hx, rfl⟩ := List.mem_map.mp g1
  obtain ⟨w2, ν3, k1, k2, k3, k4⟩ := oneLst (l := ν2.length) (xs := [.str [120], .str [32], .str [69], .str [49], .str [45]]) (g4.app [.lst [.str [120], .str [32], .str [69], .str [49], .str [45]]]) (by omega) (get_last1 _ _) (by have := g4.lt; omega) (by simp) (by simp)
  obtain ⟨y, rfl, hy⟩ : ∃ y, w2 = .str y ∧ y.length ≤ 1 := by
    simp only [List.mem_cons, List.not_mem_nil, or_false] at k1
    rcases k1 with rfl | rfl | rfl | rfl | rfl <;> exact ⟨_, rfl, by simp⟩
  have hxl := (hok x hx).2
  have a2 : addD (.str x) (.str y) ν3 = .ok (.str (x ++ y)) ν3 := if_pos (by omega)
  -- the two lists
  have e2 : Ex p (ν1 ++ [O.lst ds] ++ [O.lst (all.map .str ++ ds)]) ν3 := g3.trans ((Ex.app _ _ _).trans k3)
  have hlen1 : (ν1 ++ [O.lst ds]).length ≠ p := by have := f5.lt; simp; omega
  have q4 := e2.get (get_last1 (ν1 ++ [O.lst ds]) (O.lst (all.map .str ++ ds))) hlen1
  have q5 : (ν3 ++ [O.lst [.str (x ++ y)]])[(ν1 ++ [O.lst ds]).length]? = some (.lst (all.map .str ++ ds)) := by rw [List.getElem?_append_left (List.getElem?_eq_some_iff.mp q4).1]; exact q4
  have a3 : addD (.ref (ν1 ++ [O.lst ds]).length) (.ref ν3.length) (ν3 ++ [O.lst [.str (x ++ y)]]) = .ok (.ref (ν3 ++ [O.lst [.str (x ++ y)]]).length) (ν3 ++ [O.lst [.str (x ++ y)]] ++ [O.lst (all.map .str ++ ds ++ [.str (x ++ y)])]) := by
    simp only [addD, lstOf, q5, get_last1]
    rw [if_pos (by simp; omega)]
  have eAll : Ex p μ (ν3 ++ [O.lst [.str (x ++ y)]] ++ [O.lst (all.map .str ++ ds ++ [.str (x ++ y)])]) := f4.trans ((Ex.app _ _ _).trans ((Ex.app _ _ _).trans (e2.trans ((Ex.app _ _ _).trans (Ex.app _ _ _)))))
  obtain ⟨G, v1⟩ := val_loop (S := S) (Od := some (.ref o)) (a := a) (b := some (.ref p)) (c := c) (d := some (.ref q)) (e := e) (g := g) (h := h) (q := (ν3 ++ [O.lst [.str (x ++ y)]]).length) (all := all.map .str ++ ds ++ [.str (x ++ y)]) h0 (all.map .str ++ ds ++ [.str (x ++ y)]) (ν3 ++ [O.lst [.str (x ++ y)]] ++ [O.lst (all.map .str ++ ds ++ [.str (x ++ y)])]) none none (get_last1 _ _) (by
    intro v hv
    rcases List.mem_append.mp hv with hv | hv
    · rcases List.mem_append.mp hv with hv | hv
      · obtain ⟨z, hz, rfl⟩ := List.mem_map.mp hv
        have := (hok z hz).2
        exact ⟨⟨_, rfl⟩, decide_eq_true (by omega)⟩
      · exact hgood v (f3 v hv) _ eAll
    · simp at hv
      rw [hv]
      exact ⟨⟨_, rfl⟩, decide_eq_true (by simp; omega)⟩)
  refine ⟨_, ?_, eAll.trans (Ex.app _ _ G), ((((k4.app [O.lst [.str (x ++ y)]]).app [O.lst (all.map .str ++ ds ++ [.str (x ++ y)])]).app G).mono (by omega))⟩
  simp only [cc10, sFor, sSeq, sSet, sIf, sRet, sExpr, sSkip, sBreak, sCont, tNotG, tB1, tAndG, tOrG, eBin, eVar, eC, eCall, eCallK, eLst, eTup, aNil, aCons, eAndG, eOrG, eNotG, eIfG, eCb, eMs, eMl, eNeg, eSl, oNone, oSome, eRev, iSeq, bind_okE, bind_exE, thn_ok, thn_ex, wipeR, tgD, List.getElem?_cons_zero, List.getElem?_cons_succ, List.set_cons_zero, List.set_cons_succ, List.length_cons, List.length_nil, List.nil_append, List.cons_append, List.map_cons, List.map_nil, Nat.reduceAdd, Nat.reduceLeDiff, Nat.zero_le, if_true, if_false, Bool.false_eq_true, Bool.not_true, Bool.not_false, decide_true, decide_false, and_self, true_and, and_true, hc, a1, g2, k2, a2, a3, get_last1]
  exact v1
theorem step11 {a c d e f h i j : Option D} (hp : Pn p n μ) (hn : n ≤ big) :
    ∃ v ν, cc11 [S, Od, a, some (.ref p), c, d, e, f, none, h, i, j, none, none] μ = .nx [S, Od, a, some (.ref p), c, d, e, f, some v, h, i, j, none, none] ν ∧ Ex p μ ν ∧ Pn p (n + 1) ν ∧ (∃ k, kdOf ν v = some k) ∧ intOf v = 0 ∧ isInt v = false := by
  obtain ⟨v, ν, h1, h2, h3, h4⟩ := oneLst (l := (μ ++ [O.lst [.int 2]]).length) (xs := [.non, .str [49], .bl true, .tup [], .ref μ.length]) ((hp.app [.lst [.int 2]]).app [.lst [.non, .str [49], .bl true, .tup [], .ref μ.length]]) hn (get_last1 _ _) (by have := hp.lt; simp; omega) (by simp) (by simp)
  have e1 : Ex p (μ ++ [O.lst [.int 2]]) ν := (Ex.app _ _ _).trans h3
  have q := e1.get (get_last1 μ (O.lst [.int 2])) (by have := hp.lt; omega)
  refine ⟨v, ν, ?_, (Ex.app _ _ _).trans e1, h4, ?_⟩
  · simp only [cc11, sSeq, sSet, sIf, sRet, sExpr, sSkip, sBreak, sCont, tNotG, tB1, tAndG, tOrG, eBin, eVar, eC, eCall, eCallK, eLst, eTup, aNil, aCons, eAndG, eOrG, eNotG, eIfG, eCb, eMs, eMl, eNeg, eSl, oNone, oSome, eRev, iSeq, bind_okE, bind_exE, thn_ok, thn_ex, wipeR, tgD, List.getElem?_cons_zero, List.getElem?_cons_succ, List.set_cons_zero, List.set_cons_succ, List.length_cons, List.length_nil, List.nil_append, List.cons_append, List.map_cons, List.map_nil, Nat.reduceAdd, Nat.reduceLeDiff, Nat.zero_le, if_true, if_false, Bool.false_eq_true, Bool.not_true, Bool.not_false, decide_true, decide_false, and_self, true_and, and_true, h2]
  · simp only [List.mem_cons, List.not_mem_nil, or_false] at h1
    rcases h1 with rfl | rfl | rfl | rfl | rfl
    · exact ⟨⟨_, rfl⟩, rfl, rfl⟩
    · exact ⟨⟨_, rfl⟩, rfl, rfl⟩
    · exact ⟨⟨_, rfl⟩, rfl, rfl⟩
    · exact ⟨⟨_, rfl⟩, rfl, rfl⟩
    · exact ⟨⟨.lst, by simp [kdOf, q]⟩, rfl, rfl⟩
theorem step12 {a b c d e f h j : Option D} {one : List Nat} {v : D} {k : Kd} (h0 : okX one) (hk : kdOf μ v = some k) (hi : intOf v = 0) (hn : isInt v = false) :
    cc12 [S, Od, a, b, c, d, e, f, some v, some (.str one), h, j, none, none] μ = .nx [S, Od, a, b, c, d, e, f, some v, some (.str one), h, j, none, none] μ := by
  have e1 := refused_number h0 hk hi hn
  have e2 := refused_none (μ := μ) hk hi
  have e3 := refused_not (μ := μ) h0
  simp only [cc12, sSeq, sSet, sIf, sRet, sExpr, sSkip, sBreak, sCont, tNotG, tB1, tAndG, tOrG, eBin, eVar, eC, eCall, eCallK, eLst, eTup, aNil, aCons, eAndG, eOrG, eNotG, eIfG, eCb, eMs, eMl, eNeg, eSl, oNone, oSome, eRev, iSeq, bind_okE, bind_exE, thn_ok, thn_ex, wipeR, tgD, List.getElem?_cons_zero, List.getElem?_cons_succ, List.set_cons_zero, List.set_cons_succ, List.length_cons, List.length_nil, List.nil_append, List.cons_append, List.map_cons, List.map_nil, Nat.reduceAdd, Nat.reduceLeDiff, Nat.zero_le, if_true, if_false, Bool.false_eq_true, Bool.not_true, Bool.not_false, decide_true, decide_false, and_self, true_and, and_true, e1, e2, e3, neG_str]
end
end K00

namespace K00
open PySem PySem.Spec PyProof.Rows L2 G
theorem okX_of {x : List Nat} (h : okY x) : okX x := ⟨h.1, by have := h.2; omega⟩
theorem cell_run {M : Mem} {S : Option D} {o : Nat} {odd : List D} (z : Int) (ho : M[o]? = some (.lst odd)) (hne : odd ≠ []) (hol : odd.length ≤ 1000) (hg : ∀ v ∈ odd, (∃ k, kdOf M v = some k) ∧ szD v = true) :
    ∃ a3 a4 a5 a6 a8 a9 a10 ν, ccB [S, some (.ref o), some (.int z), none, none, none, none, none, none, none, none, none, none, none] M = .nx [S, some (.ref o), some (.int z), a3, a4, a5, a6, none, a8, a9, a10, none, none, none] ν ∧ Ex M.length M ν := by
  have hoM : o < M.length := (List.getElem?_eq_some_iff.mp ho).1
  have hop : o ≠ M.length := by omega
  have hb : big = 1000000000 := rfl
  obtain ⟨ν0, s0, x0, p0⟩ := step0 (S := S) (Od := some (.ref o)) (M := M) z (b := none) (c := none) (d := none) (e := none) (f := none) (g := none) (h := none) (i := none) (j := none)
  obtain ⟨ev, ν1, s1, x1, p1, v1, v2, v3⟩ := step1 (S := S) (Od := some (.ref o)) (a := some (.int z)) (c := none) (d := none) (e := none) (f := none) (g := none) (h := none) (i := none) (j := none) p0 (by omega)
  obtain ⟨w0, w1, w2, w3, q, ν2, s2, x2, p2, hq, hqp, k0, k1, k2, k3⟩ := step2 (S := S) (Od := some (.ref o)) (a := some (.int z)) (c := none) (d := none) (e := none) (f := none) (g := none) (h := none) (i := none) (j := none) p1 (by omega) v1 v2 v3
  obtain ⟨q', ν3, s3, x3, p3, hq3, hqp3⟩ := step3 (S := S) (Od := some (.ref o)) (a := some (.int z)) (c := some (.str ev)) (e := none) (f := none) (g := none) (h := none) (i := none) (j := none) p2 hq k0
  have hok : ∀ x ∈ [w0, w1, w2, w3, tailW w0, [], w1], okX x := by
    intro x hx
    simp only [List.mem_cons, List.not_mem_nil, or_false] at hx
    rcases hx with rfl | rfl | rfl | rfl | rfl | rfl | rfl
    · exact okX_of k0
    · exact okX_of k1
    · exact okX_of k2
    · exact okX_of k3
    · exact tailW_ok k0
    · exact ⟨rfl, by simp⟩
    · exact okX_of k1
  obtain ⟨ν4, s4, x4, p4⟩ := step4 (S := S) (Od := some (.ref o)) (a := some (.int z)) (c := some (.str ev)) (e := none) (f := none) (g := none) (h := none) (i := none) (j := none) p3 hq3 hqp3 hok (by simp; omega)
  simp only [List.length_cons, List.length_nil] at p4
  obtain ⟨v, ν5, s5, x5, p5, n1, n2⟩ := step5 (S := S) (Od := some (.ref o)) (a := some (.int z)) (c := some (.str ev)) (d := some (.ref q')) (e := none) (f := none) (g := none) (h := none) (i := none) (j := none) p4 (by omega)
  have hq5 := x5.get (x4.get hq3 hqp3) hqp3
  have s6 := step6 (S := S) (Od := some (.ref o)) (a := some (.int z)) (b := some (.ref M.length)) (c := some (.str ev)) (e := some (.int v)) (f := none) (g := none) (h := none) (i := none) (j := none) hq5
  obtain ⟨G7, s7⟩ := step7 (S := S) (Od := some (.ref o)) (μ := ν5) (a := some (.int z)) (b := some (.ref M.length)) (c := some (.str ev)) (d := some (.ref q')) (f := none) (g := none) (h := some (.str w1)) (j := none) k0 n1 n2
  have s8 := step8 (S := S) (Od := some (.ref o)) (μ := ν5 ++ G7) (a := some (.int z)) (b := some (.ref M.length)) (c := some (.str ev)) (d := some (.ref q')) (f := none) (g := none) (h := some (.str w1)) (j := none) k0 n1 n2
  have x7 : Ex M.length ν5 (ν5 ++ G7) := Ex.app _ _ _
  have hq7 := x7.get hq5 hqp3
  have s9 := step9 (S := S) (Od := some (.ref o)) (a := some (.int z)) (b := some (.ref M.length)) (c := some (.str ev)) (e := some (.int v)) (f := none) (g := none) (j := none) hq7 k0 k1 k2
  have xAll : Ex M.length M (ν5 ++ G7) := x0.trans (x1.trans (x2.trans (x3.trans (x4.trans (x5.trans x7)))))
  obtain ⟨ν10, s10, x10, p10⟩ := step10 (S := S) (a := some (.int z)) (c := some (.str ev)) (e := some (.int v)) (g := none) (h := some (.str w1)) (p5.app G7) (by omega) hop hqp3 (xAll.get ho hop) hne hol hq7 (by simp) (by simp) hok
    (fun u hu ξ hξ => by
      obtain ⟨⟨k, hk⟩, hz⟩ := hg u hu
      exact ⟨⟨k, kd_ext hk (Nat.le_refl _) (xAll.trans hξ)⟩, hz⟩) (okX_of k0)
  obtain ⟨wr, ν11, s11, x11, p11, ⟨kk, hk⟩, h1, h2⟩ := step11 (S := S) (Od := some (.ref o)) (a := some (.int z)) (c := some (.str ev)) (d := some (.ref q')) (e := some (.int v)) (f := none) (h := some (.str w0)) (i := some (.str w1)) (j := none) p10 (by omega)
  have s12 := step12 (S := S) (Od := some (.ref o)) (a := some (.int z)) (b := some (.ref M.length)) (c := some (.str ev)) (d := some (.ref q')) (e := some (.int v)) (f := none) (h := some (.str w1)) (j := none) (okX_of k0) hk h1 h2
  refine ⟨some (.ref M.length), some (.str ev), some (.ref q'), some (.int v), some wr, some (.str w0), some (.str w1), ν11, ?_, xAll.trans (x10.trans x11)⟩
  unfold ccB
  rw [sSeq_nx s0, sSeq_nx s1, sSeq_nx s2, sSeq_nx s3, sSeq_nx s4, sSeq_nx s5, sSeq_nx s6, sSeq_nx s7, sSeq_nx s8, sSeq_nx s9, sSeq_nx s10, sSeq_nx s11]
  exact s12
theorem cells_loop {S : Option D} {o l : Nat} {odd cells : List D} (hne : odd ≠ []) (hol : odd.length ≤ 1000) : ∀ (zs : List Int) (M : Mem) (a2 a3 a4 a5 a6 a7 a8 a9 a10 a11 : Option D), M[o]? = some (.lst odd) → M[l]? = some (.lst cells) → (∀ v ∈ odd, (∃ k, kdOf M v = some k) ∧ szD v = true) →
    ∃ ν, forG (.name 2) ccB [2, 3, 4, 5, 6, 7, 8, 9, 10, 11] (some (l, cells)) (zs.map .int) [S, some (.ref o), a2, a3, a4, a5, a6, a7, a8, a9, a10, a11, none, none] M = .nx [S, some (.ref o), none, none, none, none, none, none, none, none, none, none, none, none] ν
  | [], M, a2, a3, a4, a5, a6, a7, a8, a9, a10, a11, ho, hl, hg => ⟨M, by rw [List.map_nil, forW_nil _ _ _ _ _ _ _ hl]; rfl⟩
  | z :: zs, M, a2, a3, a4, a5, a6, a7, a8, a9, a10, a11, ho, hl, hg => by
    obtain ⟨b3, b4, b5, b6, b8, b9, b10, ν, e1, x1⟩ := cell_run (S := S) z ho hne hol hg
    have hoM : o < M.length := (List.getElem?_eq_some_iff.mp ho).1
    have hlM : l < M.length := (List.getElem?_eq_some_iff.mp hl).1
    obtain ⟨ξ, e2⟩ := cells_loop hne hol zs ν (some (.int z)) b3 b4 b5 b6 none b8 b9 b10 none (x1.get ho (by omega)) (x1.get hl (by omega)) fun v hv => by
      obtain ⟨⟨k, hk⟩, hz⟩ := hg v hv
      exact ⟨⟨k, kd_ext hk (Nat.le_refl _) x1⟩, hz⟩
    refine ⟨ξ, ?_⟩
    rw [List.map_cons, forW_cons _ _ _ _ _ _ _ _ _ hl]
    simp only [wipeR, tgD, List.set_cons_succ, List.set_cons_zero]
    rw [e1]
    exact e2
def extra : List D := [.str [97, 98, 120], .str [101], .str [97, 32, 98], .str [69], .ref 3, .tup [.str [97], .str [98]]]
def M6 : Mem := [.lst [], .dct [], .lst (oddL 0), .lst [.str [97]], .lst extra, .lst (oddL 0 ++ extra)]
noncomputable def gLaw : Fn := runD N_law (m_law gOdd gPool gOneOf gWord gInv gLaid gNext gS2 gRed gPow gPower gInverse gProduct gLIs gIsWord gRefused)
theorem law_eq (ns : List Int) (hn : ns.length ≤ 1000) : ∃ ν, gLaw [.fl (ns.map .int)] [] = .ok (.bl true) ν := by
  have o1 := odd_eq []
  have a1 : addD (.ref 2) (.ref 4) [.lst [], .dct [], .lst (oddL 0), .lst [.str [97]], .lst extra] = .ok (.ref 5) M6 := by
    simp [addD, lstOf, M6, oddL, extra]
  have c1 : addD (.ref 6) (.fl (ns.map .int)) (M6 ++ [.lst [.int 501]]) = .ok (.ref 7) (M6 ++ [.lst [.int 501]] ++ [.lst ((501 :: ns).map .int)]) := by
    have : (M6 ++ [O.lst [.int 501]])[6]? = some (.lst [.int 501]) := rfl
    simp only [addD, lstOf, this]
    rw [if_pos (by simp; omega)]
    rfl
  have c2 : slD (.ref 7) none (some 6) (M6 ++ [.lst [.int 501]] ++ [.lst ((501 :: ns).map .int)]) = .ok (.ref 8) (M6 ++ [.lst [.int 501]] ++ [.lst ((501 :: ns).map .int)] ++ [.lst ((cutL (501 :: ns) none (some 6)).map .int)]) := by
    have : (M6 ++ [O.lst [.int 501]] ++ [O.lst ((501 :: ns).map .int)])[7]? = some (.lst ((501 :: ns).map .int)) := rfl
    simp only [slD, lstOf, this]
    have e : cutL ((501 :: ns).map D.int) none (some 6) = (cutL (501 :: ns) none (some 6)).map D.int := by
      unfold cutL
      rw [List.length_map, List.map_take, List.map_drop]
    rw [e]
    rfl
  obtain ⟨ν, e1⟩ := cells_loop (S := some (.fl (ns.map .int))) (o := 5) (l := 8) (odd := oddL 0 ++ extra) (cells := (cutL (501 :: ns) none (some 6)).map .int) (by simp [oddL]) (by simp [oddL, extra]) (cutL (501 :: ns) none (some 6))
    (M6 ++ [.lst [.int 501]] ++ [.lst ((501 :: ns).map .int)] ++ [.lst ((cutL (501 :: ns) none (some 6)).map .int)]) none none none none none none none none none none rfl rfl (by
      intro v hv
      simp only [oddL, extra, List.cons_append, List.nil_append, List.mem_cons, List.not_mem_nil, or_false] at hv
      rcases hv with rfl | rfl | rfl | rfl | rfl | rfl | rfl | rfl | rfl | rfl | rfl | rfl | rfl | rfl | rfl | rfl | rfl | rfl | rfl | rfl | rfl | rfl | rfl | rfl | rfl | rfl | rfl | rfl | rfl | rfl | rfl | rfl | rfl | rfl <;> exact ⟨⟨_, rfl⟩, rfl⟩)
  refine ⟨ν, runD_rt ?_⟩
  show m_law gOdd gPool gOneOf gWord gInv gLaid gNext gS2 gRed gPow gPower gInverse gProduct gLIs gIsWord gRefused [some (.fl (ns.map .int)), none, none, none, none, none, none, none, none, none, none, none, none, none] [] = _
  unfold m_law
  have t0 : sSet 1 (eBin addD (fun _ μ => gOdd [] μ) (eLst (aCons (eC (.str [97, 98, 120])) (aCons (eC (.str [101])) (aCons (eC (.str [97, 32, 98])) (aCons (eC (.str [69])) (aCons (eLst (aCons (eC (.str [97])) (aNil))) (aCons (eTup (aCons (eC (.str [97])) (aCons (eC (.str [98])) (aNil)))) (aNil))))))))) [some (.fl (ns.map .int)), none, none, none, none, none, none, none, none, none, none, none, none, none] [] = .nx [some (.fl (ns.map .int)), some (.ref 5), none, none, none, none, none, none, none, none, none, none, none, none] M6 := by
    simp only [sSeq, sSet, sIf, sRet, sExpr, sSkip, sBreak, sCont, tNotG, tB1, tAndG, tOrG, eBin, eVar, eC, eCall, eCallK, eLst, eTup, aNil, aCons, eAndG, eOrG, eNotG, eIfG, eCb, eMs, eMl, eNeg, eSl, oNone, oSome, eRev, iSeq, bind_okE, bind_exE, thn_ok, thn_ex, wipeR, tgD, List.getElem?_cons_zero, List.getElem?_cons_succ, List.set_cons_zero, List.set_cons_succ, List.length_cons, List.length_nil, List.nil_append, List.cons_append, List.map_cons, List.map_nil, Nat.reduceAdd, Nat.reduceLeDiff, Nat.zero_le, if_true, if_false, Bool.false_eq_true, Bool.not_true, Bool.not_false, decide_true, decide_false, and_self, true_and, and_true, o1]
    show (addD (.ref 2) (.ref 4) [.lst [], .dct [], .lst (oddL 0), .lst [.str [97]], .lst extra]).thn _ _ = _
    rw [a1]
    rfl
  rw [sSeq_nx t0]
  have t1 : sFor [2, 3, 4, 5, 6, 7, 8, 9, 10, 11] (.name 2) (iSeq (eSl (eBin addD (eLst (aCons (eC (.int 501)) (aNil))) (eVar 0)) (oNone) (oSome (eC (.int 6))))) ccB [some (.fl (ns.map .int)), some (.ref 5), none, none, none, none, none, none, none, none, none, none, none, none] M6 = .nx [some (.fl (ns.map .int)), some (.ref 5), none, none, none, none, none, none, none, none, none, none, none, none] ν := by
    have hs : iSeq (eSl (eBin addD (eLst (aCons (eC (.int 501)) (aNil))) (eVar 0)) (oNone) (oSome (eC (.int 6)))) [some (.fl (ns.map .int)), some (.ref 5), none, none, none, none, none, none, none, none, none, none, none, none] M6 = .ok ((cutL (501 :: ns) none (some 6)).map .int, some (8, (cutL (501 :: ns) none (some 6)).map .int)) (M6 ++ [.lst [.int 501]] ++ [.lst ((501 :: ns).map .int)] ++ [.lst ((cutL (501 :: ns) none (some 6)).map .int)]) := by
      simp only [sSeq, sSet, sIf, sRet, sExpr, sSkip, sBreak, sCont, tNotG, tB1, tAndG, tOrG, eBin, eVar, eC, eCall, eCallK, eLst, eTup, aNil, aCons, eAndG, eOrG, eNotG, eIfG, eCb, eMs, eMl, eNeg, eSl, oNone, oSome, eRev, iSeq, bind_okE, bind_exE, thn_ok, thn_ex, wipeR, tgD, List.getElem?_cons_zero, List.getElem?_cons_succ, List.set_cons_zero, List.set_cons_succ, List.length_cons, List.length_nil, List.nil_append, List.cons_append, List.map_cons, List.map_nil, Nat.reduceAdd, Nat.reduceLeDiff, Nat.zero_le, if_true, if_false, Bool.false_eq_true, Bool.not_true, Bool.not_false, decide_true, decide_false, and_self, true_and, and_true]
      show ((addD (.ref 6) (.fl (ns.map .int)) (M6 ++ [.lst [.int 501]])).bind _).bind _ = _
      rw [c1]
      show (slD (.ref 7) none (some 6) (M6 ++ [.lst [.int 501]] ++ [.lst ((501 :: ns).map .int)])).bind _ = _
      rw [c2]
      rfl
    unfold sFor
    rw [hs]
    exact e1
  have t1' := sSeq_nx (g := sRet (eC (.bl true))) t1
  exact t1'.trans rfl
end K00

namespace K00
open PySem PySem.Spec PyProof.Rows L2 G
structure Dfs (K : Fr0) (mg : Str → Option Value) : Prop where
  d_is_integer : Df K mg "is_integer" st_is_integer ps_is_integer
  d_is_word_in : Df K mg "is_word_in" st_is_word_in ps_is_word_in
  d_rank : Df K mg "rank" st_rank ps_rank
  d_word_key : Df K mg "word_key" st_word_key ps_word_key
  d_is_below : Df K mg "is_below" st_is_below ps_is_below
  d_inverted : Df K mg "inverted" st_inverted ps_inverted
  d_reduced_word : Df K mg "reduced_word" st_reduced_word ps_reduced_word
  d_power_of : Df K mg "power_of" st_power_of ps_power_of
  d_check_word : Df K mg "check_word" st_check_word ps_check_word
  d_check_two_words : Df K mg "check_two_words" st_check_two_words ps_check_two_words
  d_check_number : Df K mg "check_number" st_check_number ps_check_number
  d_is_word : Df K mg "is_word" st_is_word ps_is_word
  d_inverse : Df K mg "inverse" st_inverse ps_inverse
  d_reduced : Df K mg "reduced" st_reduced ps_reduced
  d_product : Df K mg "product" st_product ps_product
  d_power : Df K mg "power" st_power ps_power
  d_is_less : Df K mg "is_less" st_is_less ps_is_less
  d__law_pool : Df K mg "_law_pool" st__law_pool ps__law_pool
  d__law_next : Df K mg "_law_next" st__law_next ps__law_next
  d__law_one_of : Df K mg "_law_one_of" st__law_one_of ps__law_one_of
  d__law_same : Df K mg "_law_same" st__law_same ps__law_same
  d__law_odd : Df K mg "_law_odd" st__law_odd ps__law_odd
  d__law_inverse : Df K mg "_law_inverse" st__law_inverse ps__law_inverse
  d__law_reduced : Df K mg "_law_reduced" st__law_reduced ps__law_reduced
  d__law_key : Df K mg "_law_key" st__law_key ps__law_key
  d__law_less : Df K mg "_law_less" st__law_less ps__law_less
  d__law_word : Df K mg "_law_word" st__law_word ps__law_word
  d__law_is_word : Df K mg "_law_is_word" st__law_is_word ps__law_is_word
  d__law_power : Df K mg "_law_power" st__law_power ps__law_power
  d__law_left : Df K mg "_law_left" st__law_left ps__law_left
  d__law_laid_right : Df K mg "_law_laid_right" st__law_laid_right ps__law_laid_right
  d__law_refused : Df K mg "_law_refused" st__law_refused ps__law_refused
  d_law : Df K mg "law" st_law ps_law
theorem facts_mk {K : Fr0} {h : Heap} {mg : Str → Option Value} (X : K.In h) (G : h.Ns mainGlobals mg)
    {f_is_integer : Addr} {od_is_integer an_is_integer : Option Addr} {sl_is_integer : Array (Option Value)} {oc_is_integer kV_is_integer dc_is_integer pm_is_integer cd_is_integer ct_is_integer : Value}
    {f_is_word_in : Addr} {od_is_word_in an_is_word_in : Option Addr} {sl_is_word_in : Array (Option Value)} {oc_is_word_in kV_is_word_in dc_is_word_in pm_is_word_in cd_is_word_in ct_is_word_in : Value}
    {f_rank : Addr} {od_rank an_rank : Option Addr} {sl_rank : Array (Option Value)} {oc_rank kV_rank dc_rank pm_rank cd_rank ct_rank : Value}
    {f_word_key : Addr} {od_word_key an_word_key : Option Addr} {sl_word_key : Array (Option Value)} {oc_word_key kV_word_key dc_word_key pm_word_key cd_word_key ct_word_key : Value}
    {f_is_below : Addr} {od_is_below an_is_below : Option Addr} {sl_is_below : Array (Option Value)} {oc_is_below kV_is_below dc_is_below pm_is_below cd_is_below ct_is_below : Value}
    {f_inverted : Addr} {od_inverted an_inverted : Option Addr} {sl_inverted : Array (Option Value)} {oc_inverted kV_inverted dc_inverted pm_inverted cd_inverted ct_inverted : Value}
    {f_reduced_word : Addr} {od_reduced_word an_reduced_word : Option Addr} {sl_reduced_word : Array (Option Value)} {oc_reduced_word kV_reduced_word dc_reduced_word pm_reduced_word cd_reduced_word ct_reduced_word : Value}
    {f_power_of : Addr} {od_power_of an_power_of : Option Addr} {sl_power_of : Array (Option Value)} {oc_power_of kV_power_of dc_power_of pm_power_of cd_power_of ct_power_of : Value}
    {f_check_word : Addr} {od_check_word an_check_word : Option Addr} {sl_check_word : Array (Option Value)} {oc_check_word kV_check_word dc_check_word pm_check_word cd_check_word ct_check_word : Value}
    {f_check_two_words : Addr} {od_check_two_words an_check_two_words : Option Addr} {sl_check_two_words : Array (Option Value)} {oc_check_two_words kV_check_two_words dc_check_two_words pm_check_two_words cd_check_two_words ct_check_two_words : Value}
    {f_check_number : Addr} {od_check_number an_check_number : Option Addr} {sl_check_number : Array (Option Value)} {oc_check_number kV_check_number dc_check_number pm_check_number cd_check_number ct_check_number : Value}
    {f_is_word : Addr} {od_is_word an_is_word : Option Addr} {sl_is_word : Array (Option Value)} {oc_is_word kV_is_word dc_is_word pm_is_word cd_is_word ct_is_word : Value}
    {f_inverse : Addr} {od_inverse an_inverse : Option Addr} {sl_inverse : Array (Option Value)} {oc_inverse kV_inverse dc_inverse pm_inverse cd_inverse ct_inverse : Value}
    {f_reduced : Addr} {od_reduced an_reduced : Option Addr} {sl_reduced : Array (Option Value)} {oc_reduced kV_reduced dc_reduced pm_reduced cd_reduced ct_reduced : Value}
    {f_product : Addr} {od_product an_product : Option Addr} {sl_product : Array (Option Value)} {oc_product kV_product dc_product pm_product cd_product ct_product : Value}
    {f_power : Addr} {od_power an_power : Option Addr} {sl_power : Array (Option Value)} {oc_power kV_power dc_power pm_power cd_power ct_power : Value}
    {f_is_less : Addr} {od_is_less an_is_less : Option Addr} {sl_is_less : Array (Option Value)} {oc_is_less kV_is_less dc_is_less pm_is_less cd_is_less ct_is_less : Value}
    {f__law_pool : Addr} {od__law_pool an__law_pool : Option Addr} {sl__law_pool : Array (Option Value)} {oc__law_pool kV__law_pool dc__law_pool pm__law_pool cd__law_pool ct__law_pool : Value}
    {f__law_next : Addr} {od__law_next an__law_next : Option Addr} {sl__law_next : Array (Option Value)} {oc__law_next kV__law_next dc__law_next pm__law_next cd__law_next ct__law_next : Value}
    {f__law_one_of : Addr} {od__law_one_of an__law_one_of : Option Addr} {sl__law_one_of : Array (Option Value)} {oc__law_one_of kV__law_one_of dc__law_one_of pm__law_one_of cd__law_one_of ct__law_one_of : Value}
    {f__law_same : Addr} {od__law_same an__law_same : Option Addr} {sl__law_same : Array (Option Value)} {oc__law_same kV__law_same dc__law_same pm__law_same cd__law_same ct__law_same : Value}
    {f__law_odd : Addr} {od__law_odd an__law_odd : Option Addr} {sl__law_odd : Array (Option Value)} {oc__law_odd kV__law_odd dc__law_odd pm__law_odd cd__law_odd ct__law_odd : Value}
    {f__law_inverse : Addr} {od__law_inverse an__law_inverse : Option Addr} {sl__law_inverse : Array (Option Value)} {oc__law_inverse kV__law_inverse dc__law_inverse pm__law_inverse cd__law_inverse ct__law_inverse : Value}
    {f__law_reduced : Addr} {od__law_reduced an__law_reduced : Option Addr} {sl__law_reduced : Array (Option Value)} {oc__law_reduced kV__law_reduced dc__law_reduced pm__law_reduced cd__law_reduced ct__law_reduced : Value}
    {f__law_key : Addr} {od__law_key an__law_key : Option Addr} {sl__law_key : Array (Option Value)} {oc__law_key kV__law_key dc__law_key pm__law_key cd__law_key ct__law_key : Value}
    {f__law_less : Addr} {od__law_less an__law_less : Option Addr} {sl__law_less : Array (Option Value)} {oc__law_less kV__law_less dc__law_less pm__law_less cd__law_less ct__law_less : Value}
    {f__law_word : Addr} {od__law_word an__law_word : Option Addr} {sl__law_word : Array (Option Value)} {oc__law_word kV__law_word dc__law_word pm__law_word cd__law_word ct__law_word : Value}
    {f__law_is_word : Addr} {od__law_is_word an__law_is_word : Option Addr} {sl__law_is_word : Array (Option Value)} {oc__law_is_word kV__law_is_word dc__law_is_word pm__law_is_word cd__law_is_word ct__law_is_word : Value}
    {f__law_power : Addr} {od__law_power an__law_power : Option Addr} {sl__law_power : Array (Option Value)} {oc__law_power kV__law_power dc__law_power pm__law_power cd__law_power ct__law_power : Value}
    {f__law_left : Addr} {od__law_left an__law_left : Option Addr} {sl__law_left : Array (Option Value)} {oc__law_left kV__law_left dc__law_left pm__law_left cd__law_left ct__law_left : Value}
    {f__law_laid_right : Addr} {od__law_laid_right an__law_laid_right : Option Addr} {sl__law_laid_right : Array (Option Value)} {oc__law_laid_right kV__law_laid_right dc__law_laid_right pm__law_laid_right cd__law_laid_right ct__law_laid_right : Value}
    {f__law_refused : Addr} {od__law_refused an__law_refused : Option Addr} {sl__law_refused : Array (Option Value)} {oc__law_refused kV__law_refused dc__law_refused pm__law_refused cd__law_refused ct__law_refused : Value}
    {f_law : Addr} {od_law an_law : Option Addr} {sl_law : Array (Option Value)} {oc_law kV_law dc_law pm_law cd_law ct_law : Value}
    {t_LETTERS : Tok}
    {C_InvalidWord : Addr}
    {C_InvalidNumber : Addr}
    {B_GroupError : Addr}
    (a_is_integer : PySem.W.nsIn K mainGlobals "is_integer" = some (some (.ref f_is_integer)))
    (l_is_integer : K.lookup f_is_integer = some ⟨oc_is_integer, od_is_integer, .func (PySem.W.fnOf "is_integer" "is_integer" (defArgs st_is_integer) (defBody st_is_integer) (defScope st_is_integer) .none kV_is_integer dc_is_integer pm_is_integer an_is_integer cd_is_integer ct_is_integer), sl_is_integer⟩)
    (c_is_integer : PySem.W.codeIn K cd_is_integer "is_integer" = true)
    (k_is_integer : PySem.W.keepIn K (.ref f_is_integer) = true)
    (a_is_word_in : PySem.W.nsIn K mainGlobals "is_word_in" = some (some (.ref f_is_word_in)))
    (l_is_word_in : K.lookup f_is_word_in = some ⟨oc_is_word_in, od_is_word_in, .func (PySem.W.fnOf "is_word_in" "is_word_in" (defArgs st_is_word_in) (defBody st_is_word_in) (defScope st_is_word_in) .none kV_is_word_in dc_is_word_in pm_is_word_in an_is_word_in cd_is_word_in ct_is_word_in), sl_is_word_in⟩)
    (c_is_word_in : PySem.W.codeIn K cd_is_word_in "is_word_in" = true)
    (k_is_word_in : PySem.W.keepIn K (.ref f_is_word_in) = true)
    (a_rank : PySem.W.nsIn K mainGlobals "rank" = some (some (.ref f_rank)))
    (l_rank : K.lookup f_rank = some ⟨oc_rank, od_rank, .func (PySem.W.fnOf "rank" "rank" (defArgs st_rank) (defBody st_rank) (defScope st_rank) .none kV_rank dc_rank pm_rank an_rank cd_rank ct_rank), sl_rank⟩)
    (c_rank : PySem.W.codeIn K cd_rank "rank" = true)
    (k_rank : PySem.W.keepIn K (.ref f_rank) = true)
    (a_word_key : PySem.W.nsIn K mainGlobals "word_key" = some (some (.ref f_word_key)))
    (l_word_key : K.lookup f_word_key = some ⟨oc_word_key, od_word_key, .func (PySem.W.fnOf "word_key" "word_key" (defArgs st_word_key) (defBody st_word_key) (defScope st_word_key) .none kV_word_key dc_word_key pm_word_key an_word_key cd_word_key ct_word_key), sl_word_key⟩)
    (c_word_key : PySem.W.codeIn K cd_word_key "word_key" = true)
    (k_word_key : PySem.W.keepIn K (.ref f_word_key) = true)
    (a_is_below : PySem.W.nsIn K mainGlobals "is_below" = some (some (.ref f_is_below)))
    (l_is_below : K.lookup f_is_below = some ⟨oc_is_below, od_is_below, .func (PySem.W.fnOf "is_below" "is_below" (defArgs st_is_below) (defBody st_is_below) (defScope st_is_below) .none kV_is_below dc_is_below pm_is_below an_is_below cd_is_below ct_is_below), sl_is_below⟩)
    (c_is_below : PySem.W.codeIn K cd_is_below "is_below" = true)
    (k_is_below : PySem.W.keepIn K (.ref f_is_below) = true)
    (a_inverted : PySem.W.nsIn K mainGlobals "inverted" = some (some (.ref f_inverted)))
    (l_inverted : K.lookup f_inverted = some ⟨oc_inverted, od_inverted, .func (PySem.W.fnOf "inverted" "inverted" (defArgs st_inverted) (defBody st_inverted) (defScope st_inverted) .none kV_inverted dc_inverted pm_inverted an_inverted cd_inverted ct_inverted), sl_inverted⟩)
    (c_inverted : PySem.W.codeIn K cd_inverted "inverted" = true)
    (k_inverted : PySem.W.keepIn K (.ref f_inverted) = true)
    (a_reduced_word : PySem.W.nsIn K mainGlobals "reduced_word" = some (some (.ref f_reduced_word)))
    (l_reduced_word : K.lookup f_reduced_word = some ⟨oc_reduced_word, od_reduced_word, .func (PySem.W.fnOf "reduced_word" "reduced_word" (defArgs st_reduced_word) (defBody st_reduced_word) (defScope st_reduced_word) .none kV_reduced_word dc_reduced_word pm_reduced_word an_reduced_word cd_reduced_word ct_reduced_word), sl_reduced_word⟩)
    (c_reduced_word : PySem.W.codeIn K cd_reduced_word "reduced_word" = true)
    (k_reduced_word : PySem.W.keepIn K (.ref f_reduced_word) = true)
    (a_power_of : PySem.W.nsIn K mainGlobals "power_of" = some (some (.ref f_power_of)))
    (l_power_of : K.lookup f_power_of = some ⟨oc_power_of, od_power_of, .func (PySem.W.fnOf "power_of" "power_of" (defArgs st_power_of) (defBody st_power_of) (defScope st_power_of) .none kV_power_of dc_power_of pm_power_of an_power_of cd_power_of ct_power_of), sl_power_of⟩)
    (c_power_of : PySem.W.codeIn K cd_power_of "power_of" = true)
    (k_power_of : PySem.W.keepIn K (.ref f_power_of) = true)
    (a_check_word : PySem.W.nsIn K mainGlobals "check_word" = some (some (.ref f_check_word)))
    (l_check_word : K.lookup f_check_word = some ⟨oc_check_word, od_check_word, .func (PySem.W.fnOf "check_word" "check_word" (defArgs st_check_word) (defBody st_check_word) (defScope st_check_word) .none kV_check_word dc_check_word pm_check_word an_check_word cd_check_word ct_check_word), sl_check_word⟩)
    (c_check_word : PySem.W.codeIn K cd_check_word "check_word" = true)
    (k_check_word : PySem.W.keepIn K (.ref f_check_word) = true)
    (a_check_two_words : PySem.W.nsIn K mainGlobals "check_two_words" = some (some (.ref f_check_two_words)))
    (l_check_two_words : K.lookup f_check_two_words = some ⟨oc_check_two_words, od_check_two_words, .func (PySem.W.fnOf "check_two_words" "check_two_words" (defArgs st_check_two_words) (defBody st_check_two_words) (defScope st_check_two_words) .none kV_check_two_words dc_check_two_words pm_check_two_words an_check_two_words cd_check_two_words ct_check_two_words), sl_check_two_words⟩)
    (c_check_two_words : PySem.W.codeIn K cd_check_two_words "check_two_words" = true)
    (k_check_two_words : PySem.W.keepIn K (.ref f_check_two_words) = true)
    (a_check_number : PySem.W.nsIn K mainGlobals "check_number" = some (some (.ref f_check_number)))
    (l_check_number : K.lookup f_check_number = some ⟨oc_check_number, od_check_number, .func (PySem.W.fnOf "check_number" "check_number" (defArgs st_check_number) (defBody st_check_number) (defScope st_check_number) .none kV_check_number dc_check_number pm_check_number an_check_number cd_check_number ct_check_number), sl_check_number⟩)
    (c_check_number : PySem.W.codeIn K cd_check_number "check_number" = true)
    (k_check_number : PySem.W.keepIn K (.ref f_check_number) = true)
    (a_is_word : PySem.W.nsIn K mainGlobals "is_word" = some (some (.ref f_is_word)))
    (l_is_word : K.lookup f_is_word = some ⟨oc_is_word, od_is_word, .func (PySem.W.fnOf "is_word" "is_word" (defArgs st_is_word) (defBody st_is_word) (defScope st_is_word) .none kV_is_word dc_is_word pm_is_word an_is_word cd_is_word ct_is_word), sl_is_word⟩)
    (c_is_word : PySem.W.codeIn K cd_is_word "is_word" = true)
    (k_is_word : PySem.W.keepIn K (.ref f_is_word) = true)
    (a_inverse : PySem.W.nsIn K mainGlobals "inverse" = some (some (.ref f_inverse)))
    (l_inverse : K.lookup f_inverse = some ⟨oc_inverse, od_inverse, .func (PySem.W.fnOf "inverse" "inverse" (defArgs st_inverse) (defBody st_inverse) (defScope st_inverse) .none kV_inverse dc_inverse pm_inverse an_inverse cd_inverse ct_inverse), sl_inverse⟩)
    (c_inverse : PySem.W.codeIn K cd_inverse "inverse" = true)
    (k_inverse : PySem.W.keepIn K (.ref f_inverse) = true)
    (a_reduced : PySem.W.nsIn K mainGlobals "reduced" = some (some (.ref f_reduced)))
    (l_reduced : K.lookup f_reduced = some ⟨oc_reduced, od_reduced, .func (PySem.W.fnOf "reduced" "reduced" (defArgs st_reduced) (defBody st_reduced) (defScope st_reduced) .none kV_reduced dc_reduced pm_reduced an_reduced cd_reduced ct_reduced), sl_reduced⟩)
    (c_reduced : PySem.W.codeIn K cd_reduced "reduced" = true)
    (k_reduced : PySem.W.keepIn K (.ref f_reduced) = true)
    (a_product : PySem.W.nsIn K mainGlobals "product" = some (some (.ref f_product)))
    (l_product : K.lookup f_product = some ⟨oc_product, od_product, .func (PySem.W.fnOf "product" "product" (defArgs st_product) (defBody st_product) (defScope st_product) .none kV_product dc_product pm_product an_product cd_product ct_product), sl_product⟩)
    (c_product : PySem.W.codeIn K cd_product "product" = true)
    (k_product : PySem.W.keepIn K (.ref f_product) = true)
    (a_power : PySem.W.nsIn K mainGlobals "power" = some (some (.ref f_power)))
    (l_power : K.lookup f_power = some ⟨oc_power, od_power, .func (PySem.W.fnOf "power" "power" (defArgs st_power) (defBody st_power) (defScope st_power) .none kV_power dc_power pm_power an_power cd_power ct_power), sl_power⟩)
    (c_power : PySem.W.codeIn K cd_power "power" = true)
    (k_power : PySem.W.keepIn K (.ref f_power) = true)
    (a_is_less : PySem.W.nsIn K mainGlobals "is_less" = some (some (.ref f_is_less)))
    (l_is_less : K.lookup f_is_less = some ⟨oc_is_less, od_is_less, .func (PySem.W.fnOf "is_less" "is_less" (defArgs st_is_less) (defBody st_is_less) (defScope st_is_less) .none kV_is_less dc_is_less pm_is_less an_is_less cd_is_less ct_is_less), sl_is_less⟩)
    (c_is_less : PySem.W.codeIn K cd_is_less "is_less" = true)
    (k_is_less : PySem.W.keepIn K (.ref f_is_less) = true)
    (a__law_pool : PySem.W.nsIn K mainGlobals "_law_pool" = some (some (.ref f__law_pool)))
    (l__law_pool : K.lookup f__law_pool = some ⟨oc__law_pool, od__law_pool, .func (PySem.W.fnOf "_law_pool" "_law_pool" (defArgs st__law_pool) (defBody st__law_pool) (defScope st__law_pool) .none kV__law_pool dc__law_pool pm__law_pool an__law_pool cd__law_pool ct__law_pool), sl__law_pool⟩)
    (c__law_pool : PySem.W.codeIn K cd__law_pool "_law_pool" = true)
    (k__law_pool : PySem.W.keepIn K (.ref f__law_pool) = true)
    (a__law_next : PySem.W.nsIn K mainGlobals "_law_next" = some (some (.ref f__law_next)))
    (l__law_next : K.lookup f__law_next = some ⟨oc__law_next, od__law_next, .func (PySem.W.fnOf "_law_next" "_law_next" (defArgs st__law_next) (defBody st__law_next) (defScope st__law_next) .none kV__law_next dc__law_next pm__law_next an__law_next cd__law_next ct__law_next), sl__law_next⟩)
    (c__law_next : PySem.W.codeIn K cd__law_next "_law_next" = true)
    (k__law_next : PySem.W.keepIn K (.ref f__law_next) = true)
    (a__law_one_of : PySem.W.nsIn K mainGlobals "_law_one_of" = some (some (.ref f__law_one_of)))
    (l__law_one_of : K.lookup f__law_one_of = some ⟨oc__law_one_of, od__law_one_of, .func (PySem.W.fnOf "_law_one_of" "_law_one_of" (defArgs st__law_one_of) (defBody st__law_one_of) (defScope st__law_one_of) .none kV__law_one_of dc__law_one_of pm__law_one_of an__law_one_of cd__law_one_of ct__law_one_of), sl__law_one_of⟩)
    (c__law_one_of : PySem.W.codeIn K cd__law_one_of "_law_one_of" = true)
    (k__law_one_of : PySem.W.keepIn K (.ref f__law_one_of) = true)
    (a__law_same : PySem.W.nsIn K mainGlobals "_law_same" = some (some (.ref f__law_same)))
    (l__law_same : K.lookup f__law_same = some ⟨oc__law_same, od__law_same, .func (PySem.W.fnOf "_law_same" "_law_same" (defArgs st__law_same) (defBody st__law_same) (defScope st__law_same) .none kV__law_same dc__law_same pm__law_same an__law_same cd__law_same ct__law_same), sl__law_same⟩)
    (c__law_same : PySem.W.codeIn K cd__law_same "_law_same" = true)
    (k__law_same : PySem.W.keepIn K (.ref f__law_same) = true)
    (a__law_odd : PySem.W.nsIn K mainGlobals "_law_odd" = some (some (.ref f__law_odd)))
    (l__law_odd : K.lookup f__law_odd = some ⟨oc__law_odd, od__law_odd, .func (PySem.W.fnOf "_law_odd" "_law_odd" (defArgs st__law_odd) (defBody st__law_odd) (defScope st__law_odd) .none kV__law_odd dc__law_odd pm__law_odd an__law_odd cd__law_odd ct__law_odd), sl__law_odd⟩)
    (c__law_odd : PySem.W.codeIn K cd__law_odd "_law_odd" = true)
    (k__law_odd : PySem.W.keepIn K (.ref f__law_odd) = true)
    (a__law_inverse : PySem.W.nsIn K mainGlobals "_law_inverse" = some (some (.ref f__law_inverse)))
    (l__law_inverse : K.lookup f__law_inverse = some ⟨oc__law_inverse, od__law_inverse, .func (PySem.W.fnOf "_law_inverse" "_law_inverse" (defArgs st__law_inverse) (defBody st__law_inverse) (defScope st__law_inverse) .none kV__law_inverse dc__law_inverse pm__law_inverse an__law_inverse cd__law_inverse ct__law_inverse), sl__law_inverse⟩)
    (c__law_inverse : PySem.W.codeIn K cd__law_inverse "_law_inverse" = true)
    (k__law_inverse : PySem.W.keepIn K (.ref f__law_inverse) = true)
    (a__law_reduced : PySem.W.nsIn K mainGlobals "_law_reduced" = some (some (.ref f__law_reduced)))
    (l__law_reduced : K.lookup f__law_reduced = some ⟨oc__law_reduced, od__law_reduced, .func (PySem.W.fnOf "_law_reduced" "_law_reduced" (defArgs st__law_reduced) (defBody st__law_reduced) (defScope st__law_reduced) .none kV__law_reduced dc__law_reduced pm__law_reduced an__law_reduced cd__law_reduced ct__law_reduced), sl__law_reduced⟩)
    (c__law_reduced : PySem.W.codeIn K cd__law_reduced "_law_reduced" = true)
    (k__law_reduced : PySem.W.keepIn K (.ref f__law_reduced) = true)
    (a__law_key : PySem.W.nsIn K mainGlobals "_law_key" = some (some (.ref f__law_key)))
    (l__law_key : K.lookup f__law_key = some ⟨oc__law_key, od__law_key, .func (PySem.W.fnOf "_law_key" "_law_key" (defArgs st__law_key) (defBody st__law_key) (defScope st__law_key) .none kV__law_key dc__law_key pm__law_key an__law_key cd__law_key ct__law_key), sl__law_key⟩)
    (c__law_key : PySem.W.codeIn K cd__law_key "_law_key" = true)
    (k__law_key : PySem.W.keepIn K (.ref f__law_key) = true)
    (a__law_less : PySem.W.nsIn K mainGlobals "_law_less" = some (some (.ref f__law_less)))
    (l__law_less : K.lookup f__law_less = some ⟨oc__law_less, od__law_less, .func (PySem.W.fnOf "_law_less" "_law_less" (defArgs st__law_less) (defBody st__law_less) (defScope st__law_less) .none kV__law_less dc__law_less pm__law_less an__law_less cd__law_less ct__law_less), sl__law_less⟩)
    (c__law_less : PySem.W.codeIn K cd__law_less "_law_less" = true)
    (k__law_less : PySem.W.keepIn K (.ref f__law_less) = true)
    (a__law_word : PySem.W.nsIn K mainGlobals "_law_word" = some (some (.ref f__law_word)))
    (l__law_word : K.lookup f__law_word = some ⟨oc__law_word, od__law_word, .func (PySem.W.fnOf "_law_word" "_law_word" (defArgs st__law_word) (defBody st__law_word) (defScope st__law_word) .none kV__law_word dc__law_word pm__law_word an__law_word cd__law_word ct__law_word), sl__law_word⟩)
    (c__law_word : PySem.W.codeIn K cd__law_word "_law_word" = true)
    (k__law_word : PySem.W.keepIn K (.ref f__law_word) = true)
    (a__law_is_word : PySem.W.nsIn K mainGlobals "_law_is_word" = some (some (.ref f__law_is_word)))
    (l__law_is_word : K.lookup f__law_is_word = some ⟨oc__law_is_word, od__law_is_word, .func (PySem.W.fnOf "_law_is_word" "_law_is_word" (defArgs st__law_is_word) (defBody st__law_is_word) (defScope st__law_is_word) .none kV__law_is_word dc__law_is_word pm__law_is_word an__law_is_word cd__law_is_word ct__law_is_word), sl__law_is_word⟩)
    (c__law_is_word : PySem.W.codeIn K cd__law_is_word "_law_is_word" = true)
    (k__law_is_word : PySem.W.keepIn K (.ref f__law_is_word) = true)
    (a__law_power : PySem.W.nsIn K mainGlobals "_law_power" = some (some (.ref f__law_power)))
    (l__law_power : K.lookup f__law_power = some ⟨oc__law_power, od__law_power, .func (PySem.W.fnOf "_law_power" "_law_power" (defArgs st__law_power) (defBody st__law_power) (defScope st__law_power) .none kV__law_power dc__law_power pm__law_power an__law_power cd__law_power ct__law_power), sl__law_power⟩)
    (c__law_power : PySem.W.codeIn K cd__law_power "_law_power" = true)
    (k__law_power : PySem.W.keepIn K (.ref f__law_power) = true)
    (a__law_left : PySem.W.nsIn K mainGlobals "_law_left" = some (some (.ref f__law_left)))
    (l__law_left : K.lookup f__law_left = some ⟨oc__law_left, od__law_left, .func (PySem.W.fnOf "_law_left" "_law_left" (defArgs st__law_left) (defBody st__law_left) (defScope st__law_left) .none kV__law_left dc__law_left pm__law_left an__law_left cd__law_left ct__law_left), sl__law_left⟩)
    (c__law_left : PySem.W.codeIn K cd__law_left "_law_left" = true)
    (k__law_left : PySem.W.keepIn K (.ref f__law_left) = true)
    (a__law_laid_right : PySem.W.nsIn K mainGlobals "_law_laid_right" = some (some (.ref f__law_laid_right)))
    (l__law_laid_right : K.lookup f__law_laid_right = some ⟨oc__law_laid_right, od__law_laid_right, .func (PySem.W.fnOf "_law_laid_right" "_law_laid_right" (defArgs st__law_laid_right) (defBody st__law_laid_right) (defScope st__law_laid_right) .none kV__law_laid_right dc__law_laid_right pm__law_laid_right an__law_laid_right cd__law_laid_right ct__law_laid_right), sl__law_laid_right⟩)
    (c__law_laid_right : PySem.W.codeIn K cd__law_laid_right "_law_laid_right" = true)
    (k__law_laid_right : PySem.W.keepIn K (.ref f__law_laid_right) = true)
    (a__law_refused : PySem.W.nsIn K mainGlobals "_law_refused" = some (some (.ref f__law_refused)))
    (l__law_refused : K.lookup f__law_refused = some ⟨oc__law_refused, od__law_refused, .func (PySem.W.fnOf "_law_refused" "_law_refused" (defArgs st__law_refused) (defBody st__law_refused) (defScope st__law_refused) .none kV__law_refused dc__law_refused pm__law_refused an__law_refused cd__law_refused ct__law_refused), sl__law_refused⟩)
    (c__law_refused : PySem.W.codeIn K cd__law_refused "_law_refused" = true)
    (k__law_refused : PySem.W.keepIn K (.ref f__law_refused) = true)
    (a_law : PySem.W.nsIn K mainGlobals "law" = some (some (.ref f_law)))
    (l_law : K.lookup f_law = some ⟨oc_law, od_law, .func (PySem.W.fnOf "law" "law" (defArgs st_law) (defBody st_law) (defScope st_law) .none kV_law dc_law pm_law an_law cd_law ct_law), sl_law⟩)
    (c_law : PySem.W.codeIn K cd_law "law" = true)
    (k_law : PySem.W.keepIn K (.ref f_law) = true)
    (z_isinstance : PySem.W.nsIn K mainGlobals "isinstance" = some none)
    (z_int : PySem.W.nsIn K mainGlobals "int" = some none)
    (z_bool : PySem.W.nsIn K mainGlobals "bool" = some none)
    (z_str : PySem.W.nsIn K mainGlobals "str" = some none)
    (z_all : PySem.W.nsIn K mainGlobals "all" = some none)
    (z_LETTERS : PySem.W.nsIn K mainGlobals "LETTERS" = some (some (.str "aAbBcCdD" t_LETTERS)))
    (z_len : PySem.W.nsIn K mainGlobals "len" = some none)
    (ge_InvalidWord : PySem.W.nsIn K mainGlobals "InvalidWord" = some (some (.ref C_InvalidWord)))
    (xe_InvalidWord : PySem.W.excIn K C_InvalidWord [.type "Exception", .type "BaseException", .type "object"] "Exception.__new__" = true)
    (pe_InvalidWord : PySem.W.keepIn K (.ref C_InvalidWord) = true)
    (se_InvalidWord : PySem.W.subIn K (.ref C_InvalidWord) (.type "BaseException") = some true)
    (te_InvalidWord : PySem.W.typeIn K (.ref C_InvalidWord) = some (.type "type"))
    (he_InvalidWord : PySem.W.hasDictIn K C_InvalidWord = true)
    (ge_InvalidNumber : PySem.W.nsIn K mainGlobals "InvalidNumber" = some (some (.ref C_InvalidNumber)))
    (xe_InvalidNumber : PySem.W.excIn K C_InvalidNumber [.type "Exception", .type "BaseException", .type "object"] "Exception.__new__" = true)
    (pe_InvalidNumber : PySem.W.keepIn K (.ref C_InvalidNumber) = true)
    (se_InvalidNumber : PySem.W.subIn K (.ref C_InvalidNumber) (.type "BaseException") = some true)
    (te_InvalidNumber : PySem.W.typeIn K (.ref C_InvalidNumber) = some (.type "type"))
    (he_InvalidNumber : PySem.W.hasDictIn K C_InvalidNumber = true)
    (z_max : PySem.W.nsIn K mainGlobals "max" = some none)
    (z_tuple : PySem.W.nsIn K mainGlobals "tuple" = some none)
    (z_list : PySem.W.nsIn K mainGlobals "list" = some none)
    (z_range : PySem.W.nsIn K mainGlobals "range" = some none)
    (gb_GroupError : PySem.W.nsIn K mainGlobals "GroupError" = some (some (.ref B_GroupError)))
    (ss_InvalidWord_InvalidWord : PySem.W.subIn K (.ref C_InvalidWord) (.ref C_InvalidWord) = some true)
    (ss_InvalidWord_InvalidNumber : PySem.W.subIn K (.ref C_InvalidWord) (.ref C_InvalidNumber) = some false)
    (ss_InvalidNumber_InvalidWord : PySem.W.subIn K (.ref C_InvalidNumber) (.ref C_InvalidWord) = some false)
    (ss_InvalidNumber_InvalidNumber : PySem.W.subIn K (.ref C_InvalidNumber) (.ref C_InvalidNumber) = some true)
    (x1_InvalidWord : PySem.W.findIn K (.ref C_InvalidWord) "__getattribute__" = some (some (.builtin "BaseException.__getattribute__")))
    (x2_InvalidWord : PySem.W.findIn K (.ref C_InvalidWord) "__getattr__" = some none)
    (x3_InvalidWord : PySem.W.findIn K (.ref C_InvalidWord) "__class__" = some (some (.builtin "object.__class__")))
    (x4_InvalidWord : PySem.W.specialIn K (.builtin "object.__class__") "__get__" = some (some (.builtin "getset_descriptor.__get__")))
    (x5_InvalidWord : PySem.W.takesIn K (.builtin "object.__class__") = some true)
    (x6_InvalidWord : PySem.W.mroIn K C_InvalidWord (.type "object") = some true)
    (bt_GroupError : PySem.W.typeIn K (.ref B_GroupError) = some (.type "type"))
    (bh_GroupError : PySem.W.hasDictIn K B_GroupError = true)
    (kit_InvalidWord_GroupError : PySem.W.subIn K (.ref C_InvalidWord) (.ref B_GroupError) = some true) : Txt K mg ∧ Dfs K mg :=
  ⟨{
    n_isinstance := PySem.W.mg_none_of X G z_isinstance
    n_int := PySem.W.mg_none_of X G z_int
    n_bool := PySem.W.mg_none_of X G z_bool
    n_str := PySem.W.mg_none_of X G z_str
    n_all := PySem.W.mg_none_of X G z_all
    g_LETTERS := ⟨_, PySem.W.mg_of X G z_LETTERS⟩
    n_len := PySem.W.mg_none_of X G z_len
    e_InvalidWord := ⟨C_InvalidWord, PySem.W.mg_of X G ge_InvalidWord, xe_InvalidWord, pe_InvalidWord, se_InvalidWord, te_InvalidWord, he_InvalidWord⟩
    e_InvalidNumber := ⟨C_InvalidNumber, PySem.W.mg_of X G ge_InvalidNumber, xe_InvalidNumber, pe_InvalidNumber, se_InvalidNumber, te_InvalidNumber, he_InvalidNumber⟩
    n_max := PySem.W.mg_none_of X G z_max
    n_tuple := PySem.W.mg_none_of X G z_tuple
    n_list := PySem.W.mg_none_of X G z_list
    n_range := PySem.W.mg_none_of X G z_range
    S := ⟨fun x hx y hy Cx Cy h1 h2 => by
      simp only [List.mem_cons, List.not_mem_nil, or_false] at hx hy
      rcases hx with rfl | rfl <;> rcases hy with rfl | rfl
      · exact sub_at (PySem.W.mg_of X G ge_InvalidWord) (PySem.W.mg_of X G ge_InvalidWord) h1 h2 (ss_InvalidWord_InvalidWord.trans (by decide +kernel))
      · exact sub_at (PySem.W.mg_of X G ge_InvalidWord) (PySem.W.mg_of X G ge_InvalidNumber) h1 h2 (ss_InvalidWord_InvalidNumber.trans (by decide +kernel))
      · exact sub_at (PySem.W.mg_of X G ge_InvalidNumber) (PySem.W.mg_of X G ge_InvalidWord) h1 h2 (ss_InvalidNumber_InvalidWord.trans (by decide +kernel))
      · exact sub_at (PySem.W.mg_of X G ge_InvalidNumber) (PySem.W.mg_of X G ge_InvalidNumber) h1 h2 (ss_InvalidNumber_InvalidNumber.trans (by decide +kernel)),
      fun x hx => by
      simp only [List.mem_cons, List.not_mem_nil, or_false] at hx
      rcases hx with rfl | rfl
      · exact ⟨C_InvalidWord, PySem.W.mg_of X G ge_InvalidWord, se_InvalidWord, he_InvalidWord, te_InvalidWord⟩
      · exact ⟨C_InvalidNumber, PySem.W.mg_of X G ge_InvalidNumber, se_InvalidNumber, he_InvalidNumber, te_InvalidNumber⟩⟩
    i_InvalidWord_GroupError := ⟨C_InvalidWord, B_GroupError, ⟨PySem.W.mg_of X G ge_InvalidWord, xe_InvalidWord, pe_InvalidWord, se_InvalidWord, te_InvalidWord, he_InvalidWord⟩, ⟨x1_InvalidWord, x2_InvalidWord, se_InvalidWord, he_InvalidWord, x3_InvalidWord, x4_InvalidWord, x5_InvalidWord, x6_InvalidWord⟩, PySem.W.mg_of X G gb_GroupError, kit_ref bh_GroupError bt_GroupError kit_InvalidWord_GroupError⟩ }, {
    d_is_integer := df_mk X G a_is_integer l_is_integer c_is_integer k_is_integer (fun _ _ _ _ _ _ us hl => match us, hl with | [_], _ => rfl)
    d_is_word_in := df_mk X G a_is_word_in l_is_word_in c_is_word_in k_is_word_in (fun _ _ _ _ _ _ us hl => match us, hl with | [_, _], _ => rfl)
    d_rank := df_mk X G a_rank l_rank c_rank k_rank (fun _ _ _ _ _ _ us hl => match us, hl with | [_], _ => rfl)
    d_word_key := df_mk X G a_word_key l_word_key c_word_key k_word_key (fun _ _ _ _ _ _ us hl => match us, hl with | [_], _ => rfl)
    d_is_below := df_mk X G a_is_below l_is_below c_is_below k_is_below (fun _ _ _ _ _ _ us hl => match us, hl with | [_, _], _ => rfl)
    d_inverted := df_mk X G a_inverted l_inverted c_inverted k_inverted (fun _ _ _ _ _ _ us hl => match us, hl with | [_], _ => rfl)
    d_reduced_word := df_mk X G a_reduced_word l_reduced_word c_reduced_word k_reduced_word (fun _ _ _ _ _ _ us hl => match us, hl with | [_], _ => rfl)
    d_power_of := df_mk X G a_power_of l_power_of c_power_of k_power_of (fun _ _ _ _ _ _ us hl => match us, hl with | [_, _], _ => rfl)
    d_check_word := df_mk X G a_check_word l_check_word c_check_word k_check_word (fun _ _ _ _ _ _ us hl => match us, hl with | [_], _ => rfl)
    d_check_two_words := df_mk X G a_check_two_words l_check_two_words c_check_two_words k_check_two_words (fun _ _ _ _ _ _ us hl => match us, hl with | [_, _], _ => rfl)
    d_check_number := df_mk X G a_check_number l_check_number c_check_number k_check_number (fun _ _ _ _ _ _ us hl => match us, hl with | [_], _ => rfl)
    d_is_word := df_mk X G a_is_word l_is_word c_is_word k_is_word (fun _ _ _ _ _ _ us hl => match us, hl with | [_], _ => rfl)
    d_inverse := df_mk X G a_inverse l_inverse c_inverse k_inverse (fun _ _ _ _ _ _ us hl => match us, hl with | [_], _ => rfl)
    d_reduced := df_mk X G a_reduced l_reduced c_reduced k_reduced (fun _ _ _ _ _ _ us hl => match us, hl with | [_], _ => rfl)
    d_product := df_mk X G a_product l_product c_product k_product (fun _ _ _ _ _ _ us hl => match us, hl with | [_, _], _ => rfl)
    d_power := df_mk X G a_power l_power c_power k_power (fun _ _ _ _ _ _ us hl => match us, hl with | [_, _], _ => rfl)
    d_is_less := df_mk X G a_is_less l_is_less c_is_less k_is_less (fun _ _ _ _ _ _ us hl => match us, hl with | [_, _], _ => rfl)
    d__law_pool := df_mk X G a__law_pool l__law_pool c__law_pool k__law_pool (fun _ _ _ _ _ _ us hl => match us, hl with | [_], _ => rfl)
    d__law_next := df_mk X G a__law_next l__law_next c__law_next k__law_next (fun _ _ _ _ _ _ us hl => match us, hl with | [_, _], _ => rfl)
    d__law_one_of := df_mk X G a__law_one_of l__law_one_of c__law_one_of k__law_one_of (fun _ _ _ _ _ _ us hl => match us, hl with | [_, _], _ => rfl)
    d__law_same := df_mk X G a__law_same l__law_same c__law_same k__law_same (fun _ _ _ _ _ _ us hl => match us, hl with | [_, _], _ => rfl)
    d__law_odd := df_mk X G a__law_odd l__law_odd c__law_odd k__law_odd (fun _ _ _ _ _ _ us hl => match us, hl with | [], _ => rfl)
    d__law_inverse := df_mk X G a__law_inverse l__law_inverse c__law_inverse k__law_inverse (fun _ _ _ _ _ _ us hl => match us, hl with | [_], _ => rfl)
    d__law_reduced := df_mk X G a__law_reduced l__law_reduced c__law_reduced k__law_reduced (fun _ _ _ _ _ _ us hl => match us, hl with | [_], _ => rfl)
    d__law_key := df_mk X G a__law_key l__law_key c__law_key k__law_key (fun _ _ _ _ _ _ us hl => match us, hl with | [_], _ => rfl)
    d__law_less := df_mk X G a__law_less l__law_less c__law_less k__law_less (fun _ _ _ _ _ _ us hl => match us, hl with | [_, _], _ => rfl)
    d__law_word := df_mk X G a__law_word l__law_word c__law_word k__law_word (fun _ _ _ _ _ _ us hl => match us, hl with | [_, _, _], _ => rfl)
    d__law_is_word := df_mk X G a__law_is_word l__law_is_word c__law_is_word k__law_is_word (fun _ _ _ _ _ _ us hl => match us, hl with | [_, _], _ => rfl)
    d__law_power := df_mk X G a__law_power l__law_power c__law_power k__law_power (fun _ _ _ _ _ _ us hl => match us, hl with | [_, _], _ => rfl)
    d__law_left := df_mk X G a__law_left l__law_left c__law_left k__law_left (fun _ _ _ _ _ _ us hl => match us, hl with | [_, _], _ => rfl)
    d__law_laid_right := df_mk X G a__law_laid_right l__law_laid_right c__law_laid_right k__law_laid_right (fun _ _ _ _ _ _ us hl => match us, hl with | [_, _], _ => rfl)
    d__law_refused := df_mk X G a__law_refused l__law_refused c__law_refused k__law_refused (fun _ _ _ _ _ _ us hl => match us, hl with | [_, _, _], _ => rfl)
    d_law := df_mk X G a_law l_law c_law k_law (fun _ _ _ _ _ _ us hl => match us, hl with | [_], _ => rfl) }⟩
section
variable {P : Program} {w : World} {K : Fr0} {mg : Str → Option Value} {base : Heap}
/-- the whole chain of defs -/
theorem law_ok (T : Txt K mg) (F : Dfs K mg) : Cal P w K mg base 7 "law" st_law ps_law gLaw := by
  have int1 := ok_is_integer (P := P) (w := w) (base := base) (k := 0) T F.d_is_integer
  have win1 := ok_is_word_in (P := P) (w := w) (base := base) (k := 0) T F.d_is_word_in
  have rnk1 := ok_rank (P := P) (w := w) (base := base) (k := 0) T F.d_rank
  have key2 := ok_word_key T F.d_word_key rnk1
  have blw3 := ok_is_below T F.d_is_below key2
  have inv1 := ok_inverted (P := P) (w := w) (base := base) (k := 0) T F.d_inverted
  have red2 := ok_reduced_word T F.d_reduced_word inv1
  have pow3 := ok_power_of T F.d_power_of red2 (inv1.mono (by decide))
  have chk2 := ok_check_word T F.d_check_word win1
  have two3 := ok_check_two_words T F.d_check_two_words chk2
  have num2 := ok_check_number T F.d_check_number int1
  have isw2 := ok_is_word T F.d_is_word win1
  have inverse3 := ok_inverse T F.d_inverse chk2 (inv1.mono (by decide))
  have reduced3 := ok_reduced T F.d_reduced chk2 red2
  have product4 := ok_product T F.d_product two3 (red2.mono (by decide))
  have power4 := ok_power T F.d_power (chk2.mono (by decide)) (num2.mono (by decide)) pow3
  have less4 := ok_is_less T F.d_is_less two3 blw3
  have pool1 : Cal P w K mg base 1 "_law_pool" st__law_pool ps__law_pool gPool := c__law_pool T F.d__law_pool
  have next1 : Cal P w K mg base 1 "_law_next" st__law_next ps__law_next gNext := (c__law_next T F.d__law_next).clean
  have one2 : Cal P w K mg base 2 "_law_one_of" st__law_one_of ps__law_one_of gOneOf := (c__law_one_of T F.d__law_one_of next1).clean
  have same1 : Cal P w K mg base 1 "_law_same" st__law_same ps__law_same gS1 := (c__law_same T F.d__law_same (cal_bad (k := 0) F.d__law_same)).clean
  have same2 : Cal P w K mg base 2 "_law_same" st__law_same ps__law_same gS2 := (c__law_same T F.d__law_same same1).clean
  have odd1 : Cal P w K mg base 1 "_law_odd" st__law_odd ps__law_odd gOdd := c__law_odd T F.d__law_odd
  have linv1 := ok__law_inverse (P := P) (w := w) (base := base) (k := 0) T F.d__law_inverse
  have lred2 := ok__law_reduced T F.d__law_reduced linv1
  have lkey1 := ok__law_key (P := P) (w := w) (base := base) (k := 0) T F.d__law_key
  have lless2 := ok__law_less T F.d__law_less lkey1
  have word3 : Cal P w K mg base 3 "_law_word" st__law_word ps__law_word gWord := (c__law_word T F.d__law_word (next1.mono (by decide)) one2).clean
  have lis1 : Cal P w K mg base 1 "_law_is_word" st__law_is_word ps__law_is_word gLIs := (c__law_is_word T F.d__law_is_word).clean
  have lpow3 := ok__law_power T F.d__law_power lred2 (linv1.mono (by decide))
  have left3 : Cal P w K mg base 3 "_law_left" st__law_left ps__law_left gLeft := (c__law_left T F.d__law_left (linv1.mono (by decide)) one2).clean
  have laid5 : Cal P w K mg base 5 "_law_laid_right" st__law_laid_right ps__law_laid_right gLaid := (c__law_laid_right T F.d__law_laid_right (left3.mono (by decide)) (same2.mono (by decide)) (linv1.mono (by decide)) (inverse3.mono (by decide)) (reduced3.mono (by decide)) (lred2.mono (by decide)) (lless2.mono (by decide)) less4 product4).clean
  have refused5 : Cal P w K mg base 5 "_law_refused" st__law_refused ps__law_refused gRefused := (c__law_refused T F.d__law_refused (inverse3.mono (by decide)) (reduced3.mono (by decide)) product4 power4 less4).clean
  exact (c_law (k := 6) T F.d_law (odd1.mono (by decide)) (pool1.mono (by decide)) (one2.mono (by decide)) (word3.mono (by decide)) (linv1.mono (by decide)) (laid5.mono (by decide)) (next1.mono (by decide)) (same2.mono (by decide)) (lred2.mono (by decide)) (lpow3.mono (by decide)) (power4.mono (by decide)) (inverse3.mono (by decide)) (product4.mono (by decide)) (lis1.mono (by decide)) (isw2.mono (by decide)) (refused5.mono (by decide)))
theorem fin {h : Heap} {fa : Addr} (X : K.In h) (G0 : h.Ns mainGlobals mg) (hfa : mg "law" = some (.ref fa)) (F : Txt K mg ∧ Dfs K mg) :
    ∃ fd : FuncData, (∀ (s : Shared) (v : Value), BindsTo s fd ⟨[v], []⟩ [("script", v)]) ∧ ∀ base : Heap, K.In base → base.Ns mainGlobals mg → FnOk P w K mg base (L2.CX P w) 7 fa fd ["script"] (spLaw K) := by
  obtain ⟨f, fd, h1, h2, h3⟩ := F.2.d_law.ex
  rw [hfa] at h1
  cases h1
  exact law_fn hfa h2 (fun base => law_ok F.1 F.2) law_eq (fun _ _ _ _ _ _ _ => rfl)
end
end K00
open PySem PySem.W PyProof.Rows
set_option maxRecDepth 100000 in
set_option maxHeartbeats 0 in
theorem PySem.Challenge.cw_grownbyone_k00_words_holds : PySem.Challenge.rw_grownbyone_k00_words.Holds := by
  w_on; o_law; k_head; (case hw => w_witness2)
  k_fill
  refine L2.walk_of (l := PySem.Challenge.rw_grownbyone_k00_words) (n := 63) (k := 7) (x := "script") (CX := fun w => L2.CX PySem.Challenge.rw_grownbyone_k00_words.prog w) (sp := fun w => G.spLaw _) rfl (by decide) rfl ⟨rfl, by decide, by decide⟩ (fun w h Y => PySem.W.kIn_of Y) ?F (fun _ _ a ns hl ho hS => ⟨a, ns, rfl, G.fz_only ho hS, hl, fun _ => rfl⟩) (fun _ _ _ _ _ h => G.no_cx h)
  case F =>
    intro w mg fa h KX G hmg
    refine' K00.fin KX G hmg (K00.facts_mk KX G ?a_is_integer ?l_is_integer ?c_is_integer ?k_is_integer ?a_is_word_in ?l_is_word_in ?c_is_word_in ?k_is_word_in ?a_rank ?l_rank ?c_rank ?k_rank ?a_word_key ?l_word_key ?c_word_key ?k_word_key ?a_is_below ?l_is_below ?c_is_below ?k_is_below ?a_inverted ?l_inverted ?c_inverted ?k_inverted ?a_reduced_word ?l_reduced_word ?c_reduced_word ?k_reduced_word ?a_power_of ?l_power_of ?c_power_of ?k_power_of ?a_check_word ?l_check_word ?c_check_word ?k_check_word ?a_check_two_words ?l_check_two_words ?c_check_two_words ?k_check_two_words ?a_check_number ?l_check_number ?c_check_number ?k_check_number ?a_is_word ?l_is_word ?c_is_word ?k_is_word ?a_inverse ?l_inverse ?c_inverse ?k_inverse ?a_reduced ?l_reduced ?c_reduced ?k_reduced ?a_product ?l_product ?c_product ?k_product ?a_power ?l_power ?c_power ?k_power ?a_is_less ?l_is_less ?c_is_less ?k_is_less ?a__law_pool ?l__law_pool ?c__law_pool ?k__law_pool ?a__law_next ?l__law_next ?c__law_next ?k__law_next ?a__law_one_of ?l__law_one_of ?c__law_one_of ?k__law_one_of ?a__law_same ?l__law_same ?c__law_same ?k__law_same ?a__law_odd ?l__law_odd ?c__law_odd ?k__law_odd ?a__law_inverse ?l__law_inverse ?c__law_inverse ?k__law_inverse ?a__law_reduced ?l__law_reduced ?c__law_reduced ?k__law_reduced ?a__law_key ?l__law_key ?c__law_key ?k__law_key ?a__law_less ?l__law_less ?c__law_less ?k__law_less ?a__law_word ?l__law_word ?c__law_word ?k__law_word ?a__law_is_word ?l__law_is_word ?c__law_is_word ?k__law_is_word ?a__law_power ?l__law_power ?c__law_power ?k__law_power ?a__law_left ?l__law_left ?c__law_left ?k__law_left ?a__law_laid_right ?l__law_laid_right ?c__law_laid_right ?k__law_laid_right ?a__law_refused ?l__law_refused ?c__law_refused ?k__law_refused ?a_law ?l_law ?c_law ?k_law ?z_isinstance ?z_int ?z_bool ?z_str ?z_all ?z_LETTERS ?z_len ?ge_InvalidWord ?xe_InvalidWord ?pe_InvalidWord ?se_InvalidWord ?te_InvalidWord ?he_InvalidWord ?ge_InvalidNumber ?xe_InvalidNumber ?pe_InvalidNumber ?se_InvalidNumber ?te_InvalidNumber ?he_InvalidNumber ?z_max ?z_tuple ?z_list ?z_range ?gb_GroupError ?ss_InvalidWord_InvalidWord ?ss_InvalidWord_InvalidNumber ?ss_InvalidNumber_InvalidWord ?ss_InvalidNumber_InvalidNumber ?x1_InvalidWord ?x2_InvalidWord ?x3_InvalidWord ?x4_InvalidWord ?x5_InvalidWord ?x6_InvalidWord ?bt_GroupError ?bh_GroupError ?kit_InvalidWord_GroupError)
    (case a_is_integer => k_is)
    (case l_is_integer => k_is)
    (case c_is_integer => k_is)
    (case k_is_integer => k_is)
    (case a_is_word_in => k_is)
    (case l_is_word_in => k_is)
    (case c_is_word_in => k_is)
    (case k_is_word_in => k_is)
    (case a_rank => k_is)
    (case l_rank => k_is)
    (case c_rank => k_is)
    (case k_rank => k_is)
    (case a_word_key => k_is)
    (case l_word_key => k_is)
    (case c_word_key => k_is)
    (case k_word_key => k_is)
    (case a_is_below => k_is)
    (case l_is_below => k_is)
    (case c_is_below => k_is)
    (case k_is_below => k_is)
    (case a_inverted => k_is)
    (case l_inverted => k_is)
    (case c_inverted => k_is)
    (case k_inverted => k_is)
    (case a_reduced_word => k_is)
    (case l_reduced_word => k_is)
    (case c_reduced_word => k_is)
    (case k_reduced_word => k_is)
    (case a_power_of => k_is)
    (case l_power_of => k_is)
    (case c_power_of => k_is)
    (case k_power_of => k_is)
    (case a_check_word => k_is)
    (case l_check_word => k_is)
    (case c_check_word => k_is)
    (case k_check_word => k_is)
    (case a_check_two_words => k_is)
    (case l_check_two_words => k_is)
    (case c_check_two_words => k_is)
    (case k_check_two_words => k_is)
    (case a_check_number => k_is)
    (case l_check_number => k_is)
    (case c_check_number => k_is)
    (case k_check_number => k_is)
    (case a_is_word => k_is)
    (case l_is_word => k_is)
    (case c_is_word => k_is)
    (case k_is_word => k_is)
    (case a_inverse => k_is)
    (case l_inverse => k_is)
    (case c_inverse => k_is)
    (case k_inverse => k_is)
    (case a_reduced => k_is)
    (case l_reduced => k_is)
    (case c_reduced => k_is)
    (case k_reduced => k_is)
    (case a_product => k_is)
    (case l_product => k_is)
    (case c_product => k_is)
    (case k_product => k_is)
    (case a_power => k_is)
    (case l_power => k_is)
    (case c_power => k_is)
    (case k_power => k_is)
    (case a_is_less => k_is)
    (case l_is_less => k_is)
    (case c_is_less => k_is)
    (case k_is_less => k_is)
    (case a__law_pool => k_is)
    (case l__law_pool => k_is)
    (case c__law_pool => k_is)
    (case k__law_pool => k_is)
    (case a__law_next => k_is)
    (case l__law_next => k_is)
    (case c__law_next => k_is)
    (case k__law_next => k_is)
    (case a__law_one_of => k_is)
    (case l__law_one_of => k_is)
    (case c__law_one_of => k_is)
    (case k__law_one_of => k_is)
    (case a__law_same => k_is)
    (case l__law_same => k_is)
    (case c__law_same => k_is)
    (case k__law_same => k_is)
    (case a__law_odd => k_is)
    (case l__law_odd => k_is)
    (case c__law_odd => k_is)
    (case k__law_odd => k_is)
    (case a__law_inverse => k_is)
    (case l__law_inverse => k_is)
    (case c__law_inverse => k_is)
    (case k__law_inverse => k_is)
    (case a__law_reduced => k_is)
    (case l__law_reduced => k_is)
    (case c__law_reduced => k_is)
    (case k__law_reduced => k_is)
    (case a__law_key => k_is)
    (case l__law_key => k_is)
    (case c__law_key => k_is)
    (case k__law_key => k_is)
    (case a__law_less => k_is)
    (case l__law_less => k_is)
    (case c__law_less => k_is)
    (case k__law_less => k_is)
    (case a__law_word => k_is)
    (case l__law_word => k_is)
    (case c__law_word => k_is)
    (case k__law_word => k_is)
    (case a__law_is_word => k_is)
    (case l__law_is_word => k_is)
    (case c__law_is_word => k_is)
    (case k__law_is_word => k_is)
    (case a__law_power => k_is)
    (case l__law_power => k_is)
    (case c__law_power => k_is)
    (case k__law_power => k_is)
    (case a__law_left => k_is)
    (case l__law_left => k_is)
    (case c__law_left => k_is)
    (case k__law_left => k_is)
    (case a__law_laid_right => k_is)
    (case l__law_laid_right => k_is)
    (case c__law_laid_right => k_is)
    (case k__law_laid_right => k_is)
    (case a__law_refused => k_is)
    (case l__law_refused => k_is)
    (case c__law_refused => k_is)
    (case k__law_refused => k_is)
    (case a_law => k_is)
    (case l_law => k_is)
    (case c_law => k_is)
    (case k_law => k_is)
    (case z_isinstance => k_is)
    (case z_int => k_is)
    (case z_bool => k_is)
    (case z_str => k_is)
    (case z_all => k_is)
    (case z_LETTERS => k_is)
    (case z_len => k_is)
    (case ge_InvalidWord => k_is)
    (case xe_InvalidWord => k_exc)
    (case pe_InvalidWord => k_is)
    (case se_InvalidWord => k_is)
    (case te_InvalidWord => k_is)
    (case he_InvalidWord => k_is)
    (case ge_InvalidNumber => k_is)
    (case xe_InvalidNumber => k_exc)
    (case pe_InvalidNumber => k_is)
    (case se_InvalidNumber => k_is)
    (case te_InvalidNumber => k_is)
    (case he_InvalidNumber => k_is)
    (case z_max => k_is)
    (case z_tuple => k_is)
    (case z_list => k_is)
    (case z_range => k_is)
    (case gb_GroupError => k_is)
    (case ss_InvalidWord_InvalidWord => k_is)
    (case ss_InvalidWord_InvalidNumber => k_is)
    (case ss_InvalidNumber_InvalidWord => k_is)
    (case ss_InvalidNumber_InvalidNumber => k_is)
    (case x1_InvalidWord => k_is)
    (case x2_InvalidWord => k_is)
    (case x3_InvalidWord => k_is)
    (case x4_InvalidWord => k_is)
    (case x5_InvalidWord => k_is)
    (case x6_InvalidWord => k_is)
    (case bt_GroupError => k_is)
    (case bh_GroupError => k_is)
    (case kit_InvalidWord_GroupError => k_is)
#print axioms PySem.Challenge.cw_grownbyone_k00_words_holds

