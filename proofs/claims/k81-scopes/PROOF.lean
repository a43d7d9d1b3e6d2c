import PyProof.Rows.All
import Wide.All
import OpenK.AllK
import Wide.FinOn
import HandS.ForMost
import HandS.Exc
import HandS.Rev
import HandS.Zip
import HandS.More
import HandS.TupMul
import HandS.TupAny
import HandS.Wide
import HandS.Deep
import HandS.Text
import HandS.IsInst
import HandS.Replace
import PyProof.CollectStr
import HandS.ExcOwn
import HandS.ExcCtx
import HandS.Hot
import HandS.HotCalls
import HandS.Walk
import HandS.Dict
import HandS.RevTup
import HandS.DeepEq
import HandS.Style
import HandS.ExcInit
import HandS.ExcField
import HandS.ExcIs
import HandS.ExcInitHot
import HandS.Codes
import HandS.ReplaceLit
import HandS.Words
import HandS.WordsExc
import PySem.Challenge.RW_sealpress_k81_scopes
set_option Elab.async false
set_option linter.all false
set_option maxRecDepth 100000
set_option maxHeartbeats 4000000
set_option exponentiation.threshold 5000
/-! Pv0: plain data, their place in the heap, the state's relation. -/
namespace Pv
open PySem PySem.Spec L2
/-- a proof that simp takes for no mere computation: the kernel is not asked to compute -/
theorem nr {α : Sort _} {a b : α} (h : a = b) : a = b := h
/-- plain data: immutable trees, frozen lists, references to cells -/
inductive D where
  | non | bl (b : Bool) | int (i : Int) | str (s : List Nat) | tup (xs : List D) | lst (xs : List D) | lk (xs : List D) | ref (n : Nat)
  deriving Inhabited
/-- a name's slot -/
inductive Slot where
  | un | va (d : D) | ac (xs : List D) | ex (c : Str) (fs : List (Str × D))
  deriving Inhabited
/-- a mutable object that several hold -/
inductive Cell where
  | lst (xs : List D) | dct (kvs : List (Key × D)) | ins (c : Str) (fs : List (Str × D))
  deriving Inhabited
structure ES where
  sl : List Slot
  mu : List Cell
  deriving Inhabited
structure Exc where
  c : Str
  fs : List (Str × D)
  deriving Inhabited
inductive R (α : Type) where
  | ok (a : α) (s : ES) | er (e : Exc) (s : ES) | bad
  deriving Inhabited
abbrev M (α : Type) := ES → R α
def R.bind {α β : Type} : R α → (α → ES → R β) → R β
  | .ok a s, f => f a s
  | .er e s, _ => .er e s
  | .bad, _ => .bad
@[simp] theorem R.bind_ok {α β : Type} (a : α) (s : ES) (f : α → ES → R β) : (R.ok a s).bind f = f a s := nr rfl
@[simp] theorem R.bind_er {α β : Type} (e : Exc) (s : ES) (f : α → ES → R β) : (R.er e s).bind f = .er e s := nr rfl
@[simp] theorem R.bind_bad {α β : Type} (f : α → ES → R β) : (R.bad : R α).bind f = .bad := nr rfl
/-! ### data in the heap -/
def KT (K : W.Frag) (a : Addr) (xs : List V) : Prop :=
  ∃ (o : Obj) (its : Array Value) (n : Nat), K.lookup a = some o ∧ o.cls = .type "tuple" ∧ o.data = .seq its n ∧ its.size ≤ sizeLine ∧ Vals xs its.toList
def KL (K : W.Frag) (a : Addr) (xs : List V) : Prop :=
  ∃ (o : Obj) (its : Array Value) (n : Nat), K.lookup a = some o ∧ o.cls = .type "list" ∧ o.dict = none ∧ o.data = .seq its n ∧ its.size ≤ sizeLine ∧ Vals xs its.toList
def TupAt (K : W.Frag) (H : Hp) (Mt : Addr → Prop) (a : Addr) (vs : List V) : Prop := (Rd H a (.tup vs) ∧ ¬ Mt a) ∨ KT K a vs
def LkAt (K : W.Frag) (H : Hp) (Mt : Addr → Prop) (a : Addr) (vs : List V) : Prop := (Rd H a (.lst vs) ∧ ¬ Mt a) ∨ KL K a vs
/-- who owns a mutable object: a slot, a cell -/
abbrev Own := Sum Nat Nat
abbrev Io := Own → Option Addr
def Ow (ι : Io) (a : Addr) : Prop := ∃ w, ι w = some a
def Mt (Fx : Addr → Prop) (ι : Io) (a : Addr) : Prop := Fx a ∨ Ow ι a
/-- how long a text may be; its signs -/
def lim : Nat := 16000000
structure OkS (s : List Nat) : Prop where
  len : s.length ≤ lim
  cps : ∀ c ∈ s, c < 1114112
mutual
def Rep (K : W.Frag) (H : Hp) (Fx : Addr → Prop) (ι : Io) : D → V → Prop
  | .non, v => v = .non
  | .bl b, v => v = .bl b
  | .int i, v => v = .int i
  | .str s, v => v = .str ⟨s.toArray⟩ ∧ OkS s
  | .tup ds, v => ∃ a vs, v = .ref a ∧ TupAt K H (Mt Fx ι) a vs ∧ RepAll K H Fx ι ds vs
  | .lst ds, v => ∃ a vs, v = .ref a ∧ H a = some (.lst vs) ∧ ¬ Mt Fx ι a ∧ RepAll K H Fx ι ds vs
  | .lk ds, v => ∃ a vs, v = .ref a ∧ LkAt K H (Mt Fx ι) a vs ∧ RepAll K H Fx ι ds vs
  | .ref n, v => ∃ a, v = .ref a ∧ ι (.inr n) = some a
def RepAll (K : W.Frag) (H : Hp) (Fx : Addr → Prop) (ι : Io) : List D → List V → Prop
  | [], vs => vs = []
  | d :: ds, vs => ∃ v r, vs = v :: r ∧ Rep K H Fx ι d v ∧ RepAll K H Fx ι ds r
end
/-- from one heap to a later one: what is not owned stays; new owners own new objects; cells stay where they are -/
structure Step (ι : Io) (H : Hp) (ι' : Io) (H' : Hp) : Prop where
  keep : ∀ b o, H b = some o → ¬ Ow ι b → H' b = some o
  ow : ∀ b, Ow ι' b → Ow ι b ∨ H b = none
  ce : ∀ n a, ι (.inr n) = some a → ι' (.inr n) = some a
  th : ∀ b o, H b = some o → ∃ o', H' b = some o'
theorem Step.none {ι ι' : Io} {H H' : Hp} (s : Step ι H ι' H') {b : Addr} (h : H' b = none) : H b = none := by
  cases e : H b with
  | none => rfl
  | some o =>
    obtain ⟨o', q⟩ := s.th b o e
    rw [h] at q
    cases q
theorem Step.refl {ι : Io} {H : Hp} : Step ι H ι H := ⟨fun _ _ h _ => h, fun _ h => .inl h, fun _ _ h => h, fun _ o h => ⟨o, h⟩⟩
theorem Step.trans {ι ι' ι'' : Io} {H H' H'' : Hp} (a : Step ι H ι' H') (b : Step ι' H' ι'' H'') : Step ι H ι'' H'' where
  keep := fun c o h n => b.keep c o (a.keep c o h n) fun z => (a.ow c z).elim n fun q => by rw [h] at q; cases q
  ow := fun c h => (b.ow c h).elim (fun z => a.ow c z) fun q => .inr (a.none q)
  ce := fun n c h => b.ce n c (a.ce n c h)
  th := fun c o h => let ⟨o', q⟩ := a.th c o h; b.th c o' q
/-- what is needed to carry data over -/
structure Car (Fx : Addr → Prop) (ι : Io) (H : Hp) (Fx' : Addr → Prop) (ι' : Io) (H' : Hp) : Prop where
  keep : ∀ b o, H b = some o → ¬ Mt Fx ι b → H' b = some o
  mt : ∀ b, Mt Fx' ι' b → Mt Fx ι b ∨ H b = none
  ce : ∀ n a, ι (.inr n) = some a → ι' (.inr n) = some a
theorem Step.car {Fx : Addr → Prop} {ι ι' : Io} {H H' : Hp} (s : Step ι H ι' H') : Car Fx ι H Fx ι' H' where
  keep := fun b o h n => s.keep b o h fun z => n (.inr z)
  mt := fun b h => h.elim (fun z => .inl (.inl z)) fun z => (s.ow b z).elim (fun q => .inl (.inr q)) .inr
  ce := s.ce
section
variable {K : W.Frag} {Fx Fx' : Addr → Prop} {ι ι' : Io} {H H' : Hp}
theorem Car.rd (c : Car Fx ι H Fx' ι' H') {a : Addr} {u : HO} (h : Rd H a u) (n : ¬ Mt Fx ι a) : Rd H' a u ∧ ¬ Mt Fx' ι' a := by
  have e : ∃ o, H a = some o := by
    rcases h with h | ⟨o, h⟩
    · exact ⟨_, h⟩
    · exact ⟨_, h⟩
  refine ⟨?_, fun z => ?_⟩
  · rcases h with h | ⟨o, h⟩
    · exact .inl (c.keep a _ h n)
    · exact .inr ⟨o, c.keep a _ h n⟩
  · rcases c.mt a z with z | z
    · exact n z
    · obtain ⟨o, e⟩ := e
      rw [e] at z
      cases z
theorem TupAt.car (c : Car Fx ι H Fx' ι' H') {a : Addr} {vs : List V} (h : TupAt K H (Mt Fx ι) a vs) : TupAt K H' (Mt Fx' ι') a vs := by
  rcases h with ⟨h, n⟩ | h
  · exact .inl (c.rd h n)
  · exact .inr h
theorem LkAt.car (c : Car Fx ι H Fx' ι' H') {a : Addr} {vs : List V} (h : LkAt K H (Mt Fx ι) a vs) : LkAt K H' (Mt Fx' ι') a vs := by
  rcases h with ⟨h, n⟩ | h
  · exact .inl (c.rd h n)
  · exact .inr h
mutual
theorem Rep.car (c : Car Fx ι H Fx' ι' H') : ∀ (d : D) (v : V), Rep K H Fx ι d v → Rep K H' Fx' ι' d v
  | .non, v, h => by simpa only [Rep] using h
  | .bl b, v, h => by simpa only [Rep] using h
  | .int i, v, h => by simpa only [Rep] using h
  | .str s, v, h => by simpa only [Rep] using h
  | .tup ds, v, h => by
    simp only [Rep] at h ⊢
    obtain ⟨a, vs, e, t, r⟩ := h
    exact ⟨a, vs, e, t.car c, RepAll.car c ds vs r⟩
  | .lst ds, v, h => by
    simp only [Rep] at h ⊢
    obtain ⟨a, vs, e, t, n, r⟩ := h
    refine ⟨a, vs, e, c.keep a _ t n, (c.rd (.inl t) n).2, RepAll.car c ds vs r⟩
  | .lk ds, v, h => by
    simp only [Rep] at h ⊢
    obtain ⟨a, vs, e, t, r⟩ := h
    exact ⟨a, vs, e, t.car c, RepAll.car c ds vs r⟩
  | .ref n, v, h => by
    simp only [Rep] at h ⊢
    obtain ⟨a, e, t⟩ := h
    exact ⟨a, e, c.ce n a t⟩
theorem RepAll.car (c : Car Fx ι H Fx' ι' H') : ∀ (ds : List D) (vs : List V), RepAll K H Fx ι ds vs → RepAll K H' Fx' ι' ds vs
  | [], vs, h => by simpa only [RepAll] using h
  | d :: ds, vs, h => by
    simp only [RepAll] at h ⊢
    obtain ⟨v, r, e, h1, h2⟩ := h
    exact ⟨v, r, e, Rep.car c d v h1, RepAll.car c ds r h2⟩
end
theorem RepAll.length : ∀ {ds : List D} {vs : List V}, RepAll K H Fx ι ds vs → ds.length = vs.length
  | [], vs, h => by
    simp only [RepAll] at h
    subst h
    rfl
  | d :: ds, vs, h => by
    simp only [RepAll] at h
    obtain ⟨v, r, e, h1, h2⟩ := h
    subst e
    rw [List.length_cons, List.length_cons, RepAll.length h2]
theorem RepAll.nil : RepAll K H Fx ι [] [] := by simp only [RepAll]
theorem RepAll.cons {d : D} {ds : List D} {v : V} {vs : List V} (h : Rep K H Fx ι d v) (r : RepAll K H Fx ι ds vs) : RepAll K H Fx ι (d :: ds) (v :: vs) := by
  simp only [RepAll]
  exact ⟨v, vs, rfl, h, r⟩
theorem RepAll.append : ∀ {ds es : List D} {vs ws : List V}, RepAll K H Fx ι ds vs → RepAll K H Fx ι es ws → RepAll K H Fx ι (ds ++ es) (vs ++ ws)
  | [], es, vs, ws, h, g => by
    simp only [RepAll] at h
    subst h
    exact g
  | d :: ds, es, vs, ws, h, g => by
    simp only [RepAll] at h
    obtain ⟨v, r, e, h1, h2⟩ := h
    subst e
    exact .cons h1 (RepAll.append h2 g)
theorem RepAll.get : ∀ {ds : List D} {vs : List V} {i : Nat} {d : D}, RepAll K H Fx ι ds vs → ds[i]? = some d → ∃ v, vs[i]? = some v ∧ Rep K H Fx ι d v
  | [], vs, i, d, h, e => by simp at e
  | d' :: ds, vs, i, d, h, e => by
    simp only [RepAll] at h
    obtain ⟨v, r, e', h1, h2⟩ := h
    subst e'
    cases i with
    | zero =>
      simp at e
      subst e
      exact ⟨v, by simp, h1⟩
    | succ i =>
      simp at e
      obtain ⟨v', q1, q2⟩ := RepAll.get (i := i) h2 e
      exact ⟨v', by simpa using q1, q2⟩
theorem RepAll.get' {ds : List D} {vs : List V} {i : Nat} {v : V} (h : RepAll K H Fx ι ds vs) (e : vs[i]? = some v) : ∃ d, ds[i]? = some d ∧ Rep K H Fx ι d v := by
  have hl := h.length
  obtain ⟨hi, e1⟩ := List.getElem?_eq_some_iff.mp e
  have hi' : i < ds.length := by omega
  obtain ⟨v', q1, q2⟩ := h.get (i := i) (d := ds[i]) (by simp [hi'])
  rw [e] at q1
  cases q1
  exact ⟨_, by simp [hi'], q2⟩
theorem RepAll.take : ∀ (n : Nat) {ds : List D} {vs : List V}, RepAll K H Fx ι ds vs → RepAll K H Fx ι (ds.take n) (vs.take n)
  | 0, ds, vs, h => by simpa using RepAll.nil
  | n + 1, [], vs, h => by
    simp only [RepAll] at h
    subst h
    simpa using RepAll.nil
  | n + 1, d :: ds, vs, h => by
    simp only [RepAll] at h
    obtain ⟨v, r, e, h1, h2⟩ := h
    subst e
    exact .cons h1 (RepAll.take n h2)
theorem RepAll.drop : ∀ (n : Nat) {ds : List D} {vs : List V}, RepAll K H Fx ι ds vs → RepAll K H Fx ι (ds.drop n) (vs.drop n)
  | 0, ds, vs, h => by simpa using h
  | n + 1, [], vs, h => by
    simp only [RepAll] at h
    subst h
    simpa using RepAll.nil
  | n + 1, d :: ds, vs, h => by
    simp only [RepAll] at h
    obtain ⟨v, r, e, h1, h2⟩ := h
    subst e
    exact RepAll.drop n h2
theorem RepAll.set {d : D} {v : V} (h : Rep K H Fx ι d v) : ∀ (i : Nat) {ds : List D} {vs : List V}, RepAll K H Fx ι ds vs → RepAll K H Fx ι (ds.set i d) (vs.set i v)
  | i, [], vs, g => by
    simp only [RepAll] at g
    subst g
    simpa using RepAll.nil
  | 0, d' :: ds, vs, g => by
    simp only [RepAll] at g
    obtain ⟨v', r, e, h1, h2⟩ := g
    subst e
    exact .cons h h2
  | i + 1, d' :: ds, vs, g => by
    simp only [RepAll] at g
    obtain ⟨v', r, e, h1, h2⟩ := g
    subst e
    exact .cons h1 (RepAll.set h i h2)
theorem RepAll.dropLast : ∀ {ds : List D} {vs : List V}, RepAll K H Fx ι ds vs → RepAll K H Fx ι ds.dropLast vs.dropLast := fun {ds vs} h => by
  have hl := h.length
  rw [List.dropLast_eq_take, List.dropLast_eq_take, hl]
  exact h.take _
end
/-! ### the state -/
/-- attributes, keyed things -/
def RepK {κ : Type} (K : W.Frag) (H : Hp) (Fx : Addr → Prop) (ι : Io) (ds : List (κ × D)) (vs : List (κ × V)) : Prop := ds.map (·.1) = vs.map (·.1) ∧ RepAll K H Fx ι (ds.map (·.2)) (vs.map (·.2))
theorem RepK.car {κ : Type} {K : W.Frag} {Fx Fx' : Addr → Prop} {ι ι' : Io} {H H' : Hp} (c : Car Fx ι H Fx' ι' H') {ds : List (κ × D)} {vs : List (κ × V)} (h : RepK K H Fx ι ds vs) : RepK K H' Fx' ι' ds vs := ⟨h.1, RepAll.car c _ _ h.2⟩
/-- the surroundings: the written part, what module names hold -/
structure Gx where
  K : W.Frag
  mg : Str → Option Value
def CellAt (g : Gx) (H : Hp) (Fx : Addr → Prop) (ι : Io) (a : Addr) : Cell → Prop
  | .lst ds => ∃ vs, H a = some (.lst vs) ∧ RepAll g.K H Fx ι ds vs
  | .dct ds => ∃ vs, H a = some (.dK vs) ∧ RepK g.K H Fx ι ds vs
  | .ins c ds => ∃ C dx vs, g.mg c = some (.ref C) ∧ H a = some (.ins C dx vs) ∧ RepK g.K H Fx ι ds vs
structure SRel (g : Gx) (Fx : Addr → Prop) (ι : Io) (H : Hp) (σ : L2.St) (st : ES) : Prop where
  len : σ.length = st.sl.length
  va : ∀ (i : Nat) (d : D), st.sl[i]? = some (.va d) → ∃ v, σ[i]? = some (some v) ∧ Rep g.K H Fx ι d v
  ac : ∀ (i : Nat) (xs : List D), st.sl[i]? = some (.ac xs) → ∃ a vs, ι (.inl i) = some a ∧ σ[i]? = some (some (.ref a)) ∧ H a = some (.lst vs) ∧ RepAll g.K H Fx ι xs vs
  ce : ∀ (n : Nat) (c : Cell), st.mu[n]? = some c → ∃ a, ι (.inr n) = some a ∧ CellAt g H Fx ι a c
  dom : ∀ i a, ι (.inl i) = some a → ∃ xs, st.sl[i]? = some (.ac xs)
  domc : ∀ n a, ι (.inr n) = some a → n < st.mu.length
  inj : ∀ w w' a, ι w = some a → ι w' = some a → w = w'
  fx : ∀ a, Fx a → ¬ Ow ι a
  fxt : ∀ a, Fx a → ∃ o, H a = some o
  owt : ∀ a, Ow ι a → ∃ o, H a = some o
end Pv
/-! Pv1: how the state's relation goes on; judgements. -/
namespace Pv
open PySem PySem.Spec L2
/-- a slot's owner let go -/
def cut (ι : Io) (i : Nat) : Io := fun w => if w = .inl i then none else ι w
def cells (ι : Io) : Io := fun w => match w with
  | .inl _ => none
  | .inr n => ι (.inr n)
def own (ι : Io) (w₀ : Own) (a : Addr) : Io := fun w => if w = w₀ then some a else ι w
theorem ow_cut {ι : Io} {i : Nat} {a : Addr} (h : Ow (cut ι i) a) : Ow ι a := by
  obtain ⟨w, h⟩ := h
  unfold cut at h
  split at h
  · cases h
  · exact ⟨w, h⟩
theorem ow_cells {ι : Io} {a : Addr} (h : Ow (cells ι) a) : Ow ι a := by
  obtain ⟨w, h⟩ := h
  cases w with
  | inl _ => cases h
  | inr n => exact ⟨_, h⟩
theorem ow_own {ι : Io} {w₀ : Own} {a b : Addr} (h : Ow (own ι w₀ a) b) : b = a ∨ Ow ι b := by
  obtain ⟨w, h⟩ := h
  unfold own at h
  split at h
  · cases h
    exact .inl rfl
  · exact .inr ⟨w, h⟩
theorem step_cut {ι : Io} {H : Hp} {i : Nat} : Step ι H (cut ι i) H := ⟨fun _ _ h _ => h, fun _ h => .inl (ow_cut h), fun n a h => by unfold cut; rw [if_neg (by intro z; cases z)]; exact h, fun _ o h => ⟨o, h⟩⟩
theorem step_cells {ι : Io} {H : Hp} : Step ι H (cells ι) H := ⟨fun _ _ h _ => h, fun _ h => .inl (ow_cells h), fun n a h => h, fun _ o h => ⟨o, h⟩⟩
theorem upd_th {H : Hp} {p : Addr} {o : HO} (b : Addr) (u : HO) (h : H b = some u) : ∃ o', (upd H p o) b = some o' := by
  by_cases e : b = p
  · rw [e]
    exact ⟨_, upd_same⟩
  · exact ⟨u, by rw [upd_ne e]; exact h⟩
theorem step_new {ι : Io} {H : Hp} {p : Addr} {o : HO} (h : H p = none) : Step ι H ι (upd H p o) := ⟨fun b u e _ => by rw [upd_ne (ne_of_none e h)]; exact e, fun _ h => .inl h, fun _ _ h => h, upd_th⟩
theorem step_upd {ι : Io} {H : Hp} {p : Addr} {o : HO} (h : Ow ι p) : Step ι H ι (upd H p o) :=
  ⟨fun b u e n => by rw [upd_ne (fun z => n (by rw [z]; exact h))]; exact e, fun _ h => .inl h, fun _ _ h => h, upd_th⟩
/-- fewer owners: what is told stays -/
theorem car_le {Fx Fx' : Addr → Prop} {ι ι' : Io} {H : Hp} (h : ∀ b, Mt Fx' ι' b → Mt Fx ι b) (c : ∀ n a, ι (.inr n) = some a → ι' (.inr n) = some a) : Car Fx ι H Fx' ι' H := ⟨fun _ _ h _ => h, fun b z => .inl (h b z), c⟩
section
variable {g : Gx} {Fx Fx' : Addr → Prop} {ι ι' : Io} {H H' : Hp} {σ : L2.St} {st : ES}
theorem CellAt.car' {a : Addr} {c : Cell} (k : Car Fx ι H Fx' ι' H') (h : CellAt g H Fx ι a c) (e : ∀ o, H a = some o → H' a = some o) : CellAt g H' Fx' ι' a c := by
  cases c with
  | lst ds =>
    obtain ⟨vs, h1, h2⟩ := h
    exact ⟨vs, e _ h1, RepAll.car k _ _ h2⟩
  | dct ds =>
    obtain ⟨vs, h1, h2⟩ := h
    exact ⟨vs, e _ h1, h2.car k⟩
  | ins c ds =>
    obtain ⟨C, dx, vs, h0, h1, h2⟩ := h
    exact ⟨C, dx, vs, h0, e _ h1, h2.car k⟩
theorem CellAt.there {a : Addr} {c : Cell} (h : CellAt g H Fx ι a c) : ∃ o, H a = some o := by
  cases c with
  | lst ds => obtain ⟨vs, h1, h2⟩ := h; exact ⟨_, h1⟩
  | dct ds => obtain ⟨vs, h1, h2⟩ := h; exact ⟨_, h1⟩
  | ins c ds => obtain ⟨C, dx, vs, h0, h1, h2⟩ := h; exact ⟨_, h1⟩
/-- fewer strangers -/
theorem SRel.fxle (r : SRel g Fx ι H σ st) (h : ∀ a, Fx' a → Fx a) : SRel g Fx' ι H σ st := by
  have k : Car Fx ι H Fx' ι H := car_le (fun b z => z.elim (fun q => .inl (h b q)) .inr) fun _ _ z => z
  exact ⟨r.len, fun i d e => let ⟨v, h1, h2⟩ := r.va i d e; ⟨v, h1, Rep.car k _ _ h2⟩, fun i xs e => let ⟨a, vs, h1, h2, h3, h4⟩ := r.ac i xs e; ⟨a, vs, h1, h2, h3, RepAll.car k _ _ h4⟩,
    fun n c e => let ⟨a, h1, h2⟩ := r.ce n c e; ⟨a, h1, h2.car' k fun _ z => z⟩, r.dom, r.domc, r.inj, fun a z => r.fx a (h a z), fun a z => r.fxt a (h a z), r.owt⟩
/-- a later heap in which all stays -/
theorem SRel.same (r : SRel g Fx ι H σ st) (h : ∀ b o, H b = some o → H' b = some o) : SRel g Fx ι H' σ st := by
  have k : Car Fx ι H Fx ι H' := ⟨fun b o e _ => h b o e, fun b z => .inl z, fun _ _ z => z⟩
  exact ⟨r.len, fun i d e => let ⟨v, h1, h2⟩ := r.va i d e; ⟨v, h1, Rep.car k _ _ h2⟩, fun i xs e => let ⟨a, vs, h1, h2, h3, h4⟩ := r.ac i xs e; ⟨a, vs, h1, h2, h _ _ h3, RepAll.car k _ _ h4⟩,
    fun n c e => let ⟨a, h1, h2⟩ := r.ce n c e; ⟨a, h1, h2.car' k (h a)⟩, r.dom, r.domc, r.inj, r.fx, fun a z => let ⟨o, e⟩ := r.fxt a z; ⟨o, h a o e⟩, fun a z => let ⟨o, e⟩ := r.owt a z; ⟨o, h a o e⟩⟩
theorem SRel.new (r : SRel g Fx ι H σ st) {p : Addr} {o : HO} (h : H p = none) : SRel g Fx ι (upd H p o) σ st := r.same fun b u e => by
  rw [upd_ne (ne_of_none e h)]
  exact e
theorem SRel.fresh (r : SRel g Fx ι H σ st) {p : Addr} (h : H p = none) : ¬ Mt Fx ι p := fun z => by
  rcases z with z | z
  · obtain ⟨o, e⟩ := r.fxt p z
    rw [h] at e
    cases e
  · obtain ⟨o, e⟩ := r.owt p z
    rw [h] at e
    cases e
/-- a new object that stands apart for now -/
theorem SRel.apart (r : SRel g Fx ι H σ st) {p : Addr} {o : HO} (h : H p = none) : SRel g (fun a => Fx a ∨ a = p) ι (upd H p o) σ st := by
  have s : ∀ b u, H b = some u → (upd H p o) b = some u := fun b u e => by
    rw [upd_ne (ne_of_none e h)]
    exact e
  have k : Car Fx ι H (fun a => Fx a ∨ a = p) ι (upd H p o) := ⟨fun b u e _ => s b u e, fun b z => by
    rcases z with (z | z) | z
    · exact .inl (.inl z)
    · rw [z]
      exact .inr h
    · exact .inl (.inr z), fun _ _ z => z⟩
  exact ⟨r.len, fun i d e => let ⟨v, h1, h2⟩ := r.va i d e; ⟨v, h1, Rep.car k _ _ h2⟩, fun i xs e => let ⟨a, vs, h1, h2, h3, h4⟩ := r.ac i xs e; ⟨a, vs, h1, h2, s _ _ h3, RepAll.car k _ _ h4⟩,
    fun n c e => let ⟨a, h1, h2⟩ := r.ce n c e; ⟨a, h1, h2.car' k (s a)⟩, r.dom, r.domc, r.inj, fun a z q => by
      rcases z with z | z
      · exact r.fx a z q
      · rw [z] at q
        exact r.fresh h (.inr q), fun a z => by
      rcases z with z | z
      · obtain ⟨u, e⟩ := r.fxt a z
        exact ⟨u, s a u e⟩
      · rw [z]
        exact ⟨o, upd_same⟩, fun a z => let ⟨u, e⟩ := r.owt a z; ⟨u, s a u e⟩⟩
theorem get_set_self {α : Type} {l : List α} {i : Nat} {x y : α} (h : (l.set i x)[i]? = some y) : y = x := by
  rw [List.getElem?_set] at h
  simp at h
  exact h.2.symm
theorem get_set_ne {α : Type} {l : List α} {i j : Nat} {x y : α} (hij : j ≠ i) (h : (l.set i x)[j]? = some y) : l[j]? = some y := by
  rw [List.getElem?_set_ne (Ne.symm hij)] at h
  exact h
/-- a slot's list is frozen -/
theorem SRel.freeze (r : SRel g Fx ι H σ st) {i : Nat} {xs : List D} (h : st.sl[i]? = some (.ac xs)) : ∃ v, σ[i]? = some (some v) ∧ Rep g.K H Fx (cut ι i) (.lst xs) v ∧ SRel g Fx (cut ι i) H σ { st with sl := st.sl.set i (.va (.lst xs)) } := by
  obtain ⟨a, vs, h1, h2, h3, h4⟩ := r.ac i xs h
  have k : Car Fx ι H Fx (cut ι i) H := step_cut.car
  have na : ¬ Mt Fx (cut ι i) a := fun z => by
    rcases z with z | ⟨w, z⟩
    · exact r.fx a z ⟨_, h1⟩
    · unfold cut at z
      split at z
      · cases z
      · rename_i q
        exact q (r.inj _ _ a z h1)
  have rp : Rep g.K H Fx (cut ι i) (.lst xs) (.ref a) := by
    simp only [Rep]
    exact ⟨a, vs, rfl, h3, na, RepAll.car k _ _ h4⟩
  refine ⟨.ref a, h2, rp, by simpa using r.len, fun j d e => ?_, fun j ys e => ?_, fun n c e => ?_, fun j b e => ?_, fun n b e => ?_, fun w w' b e e' => ?_, fun b z q => r.fx b z (ow_cut q), r.fxt, fun b z => r.owt b (ow_cut z)⟩
  · by_cases hj : j = i
    · subst hj
      have q := get_set_self e
      cases q
      exact ⟨_, h2, rp⟩
    · obtain ⟨v, q1, q2⟩ := r.va j d (get_set_ne hj e)
      exact ⟨v, q1, Rep.car k _ _ q2⟩
  · by_cases hj : j = i
    · subst hj
      have q := get_set_self e
      cases q
    · obtain ⟨b, ws, q1, q2, q3, q4⟩ := r.ac j ys (get_set_ne hj e)
      refine ⟨b, ws, ?_, q2, q3, RepAll.car k _ _ q4⟩
      unfold cut
      rw [if_neg (fun z => hj (Sum.inl.inj z))]
      exact q1
  · obtain ⟨b, q1, q2⟩ := r.ce n c e
    exact ⟨b, k.ce n b q1, q2.car' k fun _ z => z⟩
  · unfold cut at e
    split at e
    · cases e
    · rename_i q
      obtain ⟨ys, e'⟩ := r.dom j b e
      have hj : j ≠ i := fun z => q (by rw [z])
      exact ⟨ys, by show (st.sl.set i _)[j]? = _; rw [List.getElem?_set_ne (Ne.symm hj)]; exact e'⟩
  · exact r.domc n b (by unfold cut at e; rw [if_neg (by intro z; cases z)] at e; exact e)
  · unfold cut at e e'
    split at e
    · cases e
    · split at e'
      · cases e'
      · exact r.inj w w' b e e'
/-- a slot set to plain data -/
theorem SRel.put (r : SRel g Fx ι H σ st) (i : Nat) {d : D} {v : V} (h : Rep g.K H Fx ι d v) : SRel g Fx (cut ι i) H (σ.set i (some v)) { st with sl := st.sl.set i (.va d) } := by
  have k : Car Fx ι H Fx (cut ι i) H := step_cut.car
  refine ⟨by simpa using r.len, fun j d' e => ?_, fun j ys e => ?_, fun n c e => ?_, fun j b e => ?_, fun n b e => ?_, fun w w' b e e' => ?_, fun b z q => r.fx b z (ow_cut q), r.fxt, fun b z => r.owt b (ow_cut z)⟩
  · by_cases hj : j = i
    · subst hj
      have q := get_set_self e
      cases q
      have hl : j < σ.length := by
        rw [r.len]
        have := (List.getElem?_eq_some_iff.mp e).1
        simpa using this
      exact ⟨v, by simp [hl], Rep.car k _ _ h⟩
    · obtain ⟨w, q1, q2⟩ := r.va j d' (get_set_ne hj e)
      exact ⟨w, by rw [List.getElem?_set_ne (Ne.symm hj)]; exact q1, Rep.car k _ _ q2⟩
  · by_cases hj : j = i
    · subst hj
      have q := get_set_self e
      cases q
    · obtain ⟨b, ws, q1, q2, q3, q4⟩ := r.ac j ys (get_set_ne hj e)
      refine ⟨b, ws, ?_, by rw [List.getElem?_set_ne (Ne.symm hj)]; exact q2, q3, RepAll.car k _ _ q4⟩
      unfold cut
      rw [if_neg (fun z => hj (Sum.inl.inj z))]
      exact q1
  · obtain ⟨b, q1, q2⟩ := r.ce n c e
    exact ⟨b, k.ce n b q1, q2.car' k fun _ z => z⟩
  · unfold cut at e
    split at e
    · cases e
    · rename_i q
      obtain ⟨ys, e'⟩ := r.dom j b e
      have hj : j ≠ i := fun z => q (by rw [z])
      exact ⟨ys, by show (st.sl.set i _)[j]? = _; rw [List.getElem?_set_ne (Ne.symm hj)]; exact e'⟩
  · exact r.domc n b (by unfold cut at e; rw [if_neg (by intro z; cases z)] at e; exact e)
  · unfold cut at e e'
    split at e
    · cases e
    · split at e'
      · cases e'
      · exact r.inj w w' b e e'
/-- a slot becomes unset, or an exception's, or forgotten: nothing is told of it -/
theorem SRel.drop (r : SRel g Fx ι H σ st) (i : Nat) (v : Option V) (x : Slot) (hx : ∀ d, x ≠ .va d) (hx2 : ∀ d, x ≠ .ac d) : SRel g Fx (cut ι i) H (σ.set i v) { st with sl := st.sl.set i x } := by
  have k : Car Fx ι H Fx (cut ι i) H := step_cut.car
  refine ⟨by simpa using r.len, fun j d' e => ?_, fun j ys e => ?_, fun n c e => ?_, fun j b e => ?_, fun n b e => ?_, fun w w' b e e' => ?_, fun b z q => r.fx b z (ow_cut q), r.fxt, fun b z => r.owt b (ow_cut z)⟩
  · by_cases hj : j = i
    · subst hj
      exact absurd (get_set_self e).symm (hx d')
    · obtain ⟨w, q1, q2⟩ := r.va j d' (get_set_ne hj e)
      exact ⟨w, by rw [List.getElem?_set_ne (Ne.symm hj)]; exact q1, Rep.car k _ _ q2⟩
  · by_cases hj : j = i
    · subst hj
      exact absurd (get_set_self e).symm (hx2 ys)
    · obtain ⟨b, ws, q1, q2, q3, q4⟩ := r.ac j ys (get_set_ne hj e)
      refine ⟨b, ws, ?_, by rw [List.getElem?_set_ne (Ne.symm hj)]; exact q2, q3, RepAll.car k _ _ q4⟩
      unfold cut
      rw [if_neg (fun z => hj (Sum.inl.inj z))]
      exact q1
  · obtain ⟨b, q1, q2⟩ := r.ce n c e
    exact ⟨b, k.ce n b q1, q2.car' k fun _ z => z⟩
  · unfold cut at e
    split at e
    · cases e
    · rename_i q
      obtain ⟨ys, e'⟩ := r.dom j b e
      have hj : j ≠ i := fun z => q (by rw [z])
      exact ⟨ys, by show (st.sl.set i _)[j]? = _; rw [List.getElem?_set_ne (Ne.symm hj)]; exact e'⟩
  · exact r.domc n b (by unfold cut at e; rw [if_neg (by intro z; cases z)] at e; exact e)
  · unfold cut at e e'
    split at e
    · cases e
    · split at e'
      · cases e'
      · exact r.inj w w' b e e'
/-- a list that stands apart becomes a slot's own -/
theorem SRel.take {a : Addr} {vs : List V} {xs : List D} (r : SRel g (fun b => Fx b ∨ b = a) ι H σ st) (i : Nat) (ha : H a = some (.lst vs)) (hf : ¬ Fx a) (h : RepAll g.K H (fun b => Fx b ∨ b = a) ι xs vs) :
    SRel g Fx (own ι (.inl i) a) H (σ.set i (some (.ref a))) { st with sl := st.sl.set i (.ac xs) } ∨ st.sl.length ≤ i := by
  by_cases hi : i < st.sl.length
  · left
    have nO : ¬ Ow ι a := r.fx a (.inr rfl)
    have mt : ∀ b, Mt Fx (own ι (.inl i) a) b → Mt (fun b => Fx b ∨ b = a) ι b := fun b z => by
      rcases z with z | z
      · exact .inl (.inl z)
      · rcases ow_own z with z | z
        · exact .inl (.inr z)
        · exact .inr z
    have hr : ∀ n b, ι (.inr n) = some b → own ι (.inl i) a (.inr n) = some b := fun n b z => by
      unfold own
      rw [if_neg (by intro z; cases z)]
      exact z
    have hself : own ι (.inl i) a (.inl i) = some a := by
      unfold own
      rw [if_pos rfl]
    have hne : ∀ j, j ≠ i → own ι (.inl i) a (.inl j) = ι (.inl j) := fun j hj => by
      unfold own
      rw [if_neg (fun z => hj (Sum.inl.inj z))]
    have k : Car (fun b => Fx b ∨ b = a) ι H Fx (own ι (.inl i) a) H := car_le mt hr
    have hl : i < σ.length := by rw [r.len]; exact hi
    refine ⟨by simpa using r.len, fun j d e => ?_, fun j ys e => ?_, fun n c e => ?_, fun j b e => ?_, fun n b e => ?_, fun w w' b e e' => ?_, fun b z q => ?_, fun b z => r.fxt b (.inl z), fun b z => ?_⟩
    · by_cases hj : j = i
      · subst hj
        have q := get_set_self e
        cases q
      · obtain ⟨v, q1, q2⟩ := r.va j d (get_set_ne hj e)
        exact ⟨v, by rw [List.getElem?_set_ne (Ne.symm hj)]; exact q1, Rep.car k _ _ q2⟩
    · by_cases hj : j = i
      · subst hj
        have q := get_set_self e
        cases q
        exact ⟨a, vs, hself, by simp [hl], ha, RepAll.car k _ _ h⟩
      · obtain ⟨b, ws, q1, q2, q3, q4⟩ := r.ac j ys (get_set_ne hj e)
        exact ⟨b, ws, by rw [hne j hj]; exact q1, by rw [List.getElem?_set_ne (Ne.symm hj)]; exact q2, q3, RepAll.car k _ _ q4⟩
    · obtain ⟨b, q1, q2⟩ := r.ce n c e
      exact ⟨b, hr n b q1, q2.car' k fun _ z => z⟩
    · by_cases hj : j = i
      · subst hj
        exact ⟨xs, by simp [hi]⟩
      · rw [hne j hj] at e
        obtain ⟨ys, e'⟩ := r.dom j b e
        exact ⟨ys, by show (st.sl.set i _)[j]? = _; rw [List.getElem?_set_ne (Ne.symm hj)]; exact e'⟩
    · refine r.domc n b ?_
      unfold own at e
      rw [if_neg (by intro z; cases z)] at e
      exact e
    · unfold own at e e'
      split at e
      · split at e'
        · rename_i q1 q2
          rw [q1, q2]
        · cases e
          exact absurd ⟨_, e'⟩ nO
      · split at e'
        · cases e'
          exact absurd ⟨_, e⟩ nO
        · exact r.inj w w' b e e'
    · rcases ow_own q with q | q
      · rw [q] at z
        exact hf z
      · exact r.fx b (.inl z) q
    · rcases ow_own z with z | z
      · rw [z]
        exact ⟨_, ha⟩
      · exact r.owt b z
  · exact .inr (by omega)
/-- a slot's own list is changed -/
theorem SRel.acset (r : SRel g Fx ι H σ st) {i : Nat} {xs ys : List D} {a : Addr} {ws : List V} (h : st.sl[i]? = some (.ac xs)) (ha : ι (.inl i) = some a) (hw : RepAll g.K H Fx ι ys ws) :
    SRel g Fx ι (upd H a (.lst ws)) σ { st with sl := st.sl.set i (.ac ys) } := by
  have oa : Ow ι a := ⟨_, ha⟩
  have k : Car Fx ι H Fx ι (upd H a (.lst ws)) := (step_upd oa).car
  have hi : i < st.sl.length := (List.getElem?_eq_some_iff.mp h).1
  obtain ⟨a', vs', g1, g2, g3, g4⟩ := r.ac i xs h
  obtain rfl : a' = a := Option.some.inj (g1.symm.trans ha)
  have nb : ∀ w b, ι w = some b → w ≠ .inl i → b ≠ a' := fun w b e hw z => hw (r.inj _ _ b e (by rw [z]; exact ha))
  refine ⟨by simpa using r.len, fun j d e => ?_, fun j zs e => ?_, fun n c e => ?_, fun j b e => ?_, r.domc, r.inj, r.fx, fun b z => ?_, fun b z => ?_⟩
  · by_cases hj : j = i
    · subst hj
      have q := get_set_self e
      cases q
    · obtain ⟨v, q1, q2⟩ := r.va j d (get_set_ne hj e)
      exact ⟨v, q1, Rep.car k _ _ q2⟩
  · by_cases hj : j = i
    · subst hj
      have q := get_set_self e
      cases q
      exact ⟨a', ws, ha, g2, upd_same, RepAll.car k _ _ hw⟩
    · obtain ⟨b, us, q1, q2, q3, q4⟩ := r.ac j zs (get_set_ne hj e)
      exact ⟨b, us, q1, q2, by rw [upd_ne (nb _ b q1 fun z => hj (Sum.inl.inj z))]; exact q3, RepAll.car k _ _ q4⟩
  · obtain ⟨b, q1, q2⟩ := r.ce n c e
    exact ⟨b, q1, q2.car' k fun o z => by rw [upd_ne (nb _ b q1 fun z => by cases z)]; exact z⟩
  · by_cases hj : j = i
    · subst hj
      exact ⟨ys, by simp [hi]⟩
    · obtain ⟨us, e'⟩ := r.dom j b e
      exact ⟨us, by show (st.sl.set i _)[j]? = _; rw [List.getElem?_set_ne (Ne.symm hj)]; exact e'⟩
  · obtain ⟨o, e⟩ := r.fxt b z
    exact ⟨o, by rw [upd_ne (fun q => r.fx b z (by rw [q]; exact oa))]; exact e⟩
  · by_cases hb : b = a'
    · rw [hb]
      exact ⟨_, upd_same⟩
    · obtain ⟨o, e⟩ := r.owt b z
      exact ⟨o, by rw [upd_ne hb]; exact e⟩
/-- a cell is changed -/
theorem SRel.ceset (r : SRel g Fx ι H σ st) {n : Nat} {c : Cell} {a : Addr} {o : HO} (h : n < st.mu.length) (ha : ι (.inr n) = some a) (hc : CellAt g (upd H a o) Fx ι a c) :
    SRel g Fx ι (upd H a o) σ { st with mu := st.mu.set n c } := by
  have oa : Ow ι a := ⟨_, ha⟩
  have k : Car Fx ι H Fx ι (upd H a o) := (step_upd oa).car
  have nb : ∀ w b, ι w = some b → w ≠ .inr n → b ≠ a := fun w b e hw z => hw (r.inj _ _ b e (by rw [z]; exact ha))
  refine ⟨r.len, fun j d e => ?_, fun j zs e => ?_, fun m c' e => ?_, r.dom, fun m b e => by simpa using r.domc m b e, r.inj, r.fx, fun b z => ?_, fun b z => ?_⟩
  · obtain ⟨v, q1, q2⟩ := r.va j d e
    exact ⟨v, q1, Rep.car k _ _ q2⟩
  · obtain ⟨b, us, q1, q2, q3, q4⟩ := r.ac j zs e
    exact ⟨b, us, q1, q2, by rw [upd_ne (nb _ b q1 fun z => by cases z)]; exact q3, RepAll.car k _ _ q4⟩
  · by_cases hm : m = n
    · subst hm
      have q := get_set_self e
      cases q
      exact ⟨a, ha, hc⟩
    · obtain ⟨b, q1, q2⟩ := r.ce m c' (get_set_ne hm e)
      exact ⟨b, q1, q2.car' k fun o z => by rw [upd_ne (nb _ b q1 fun z => hm (Sum.inr.inj z))]; exact z⟩
  · obtain ⟨o, e⟩ := r.fxt b z
    exact ⟨o, by rw [upd_ne (fun q => r.fx b z (by rw [q]; exact oa))]; exact e⟩
  · by_cases hb : b = a
    · rw [hb]
      exact ⟨_, upd_same⟩
    · obtain ⟨o, e⟩ := r.owt b z
      exact ⟨o, by rw [upd_ne hb]; exact e⟩
/-- an object that stands apart becomes a new cell -/
theorem SRel.cell {a : Addr} {c : Cell} (r : SRel g (fun b => Fx b ∨ b = a) ι H σ st) (hf : ¬ Fx a) (hc : CellAt g H (fun b => Fx b ∨ b = a) ι a c) :
    SRel g Fx (own ι (.inr st.mu.length) a) H σ { st with mu := st.mu ++ [c] } := by
  have nO : ¬ Ow ι a := r.fx a (.inr rfl)
  have mt : ∀ b, Mt Fx (own ι (.inr st.mu.length) a) b → Mt (fun b => Fx b ∨ b = a) ι b := fun b z => by
    rcases z with z | z
    · exact .inl (.inl z)
    · rcases ow_own z with z | z
      · exact .inl (.inr z)
      · exact .inr z
  have hr : ∀ n b, ι (.inr n) = some b → own ι (.inr st.mu.length) a (.inr n) = some b := fun n b z => by
    have := r.domc n b z
    unfold own
    rw [if_neg (fun z => by have := Sum.inr.inj z; omega)]
    exact z
  have hl : ∀ i, own ι (.inr st.mu.length) a (.inl i) = ι (.inl i) := fun i => by
    unfold own
    rw [if_neg (by intro z; cases z)]
  have k : Car (fun b => Fx b ∨ b = a) ι H Fx (own ι (.inr st.mu.length) a) H := car_le mt hr
  refine ⟨r.len, fun j d e => ?_, fun j ys e => ?_, fun n c' e => ?_, fun j b e => ?_, fun n b e => ?_, fun w w' b e e' => ?_, fun b z q => ?_, fun b z => r.fxt b (.inl z), fun b z => ?_⟩
  · obtain ⟨v, q1, q2⟩ := r.va j d e
    exact ⟨v, q1, Rep.car k _ _ q2⟩
  · obtain ⟨b, ws, q1, q2, q3, q4⟩ := r.ac j ys e
    exact ⟨b, ws, by rw [hl]; exact q1, q2, q3, RepAll.car k _ _ q4⟩
  · by_cases hn : n < st.mu.length
    · have e' : st.mu[n]? = some c' := by
        have e2 : (st.mu ++ [c])[n]? = some c' := e
        rw [List.getElem?_append_left hn] at e2
        exact e2
      obtain ⟨b, q1, q2⟩ := r.ce n c' e'
      exact ⟨b, hr n b q1, q2.car' k fun _ z => z⟩
    · have e2 : (st.mu ++ [c])[n]? = some c' := e
      rw [List.getElem?_append_right (by omega)] at e2
      have hz : n - st.mu.length = 0 := by
        by_cases hz : n - st.mu.length = 0
        · exact hz
        · rw [List.getElem?_eq_none (by simp; omega)] at e2
          cases e2
      rw [hz] at e2
      have e3 : c = c' := by simpa using e2
      subst e3
      have en : n = st.mu.length := by omega
      subst en
      exact ⟨a, by unfold own; rw [if_pos rfl], hc.car' k fun _ z => z⟩
  · rw [hl] at e
    exact r.dom j b e
  · unfold own at e
    split at e
    · rename_i q
      have := Sum.inr.inj q
      simp
      omega
    · have := r.domc n b e
      simp
      omega
  · unfold own at e e'
    split at e
    · split at e'
      · rename_i q1 q2
        rw [q1, q2]
      · cases e
        exact absurd ⟨_, e'⟩ nO
    · split at e'
      · cases e'
        exact absurd ⟨_, e⟩ nO
      · exact r.inj w w' b e e'
  · rcases ow_own q with q | q
    · rw [q] at z
      exact hf z
    · exact r.fx b (.inl z) q
  · rcases ow_own z with z | z
    · rw [z]
      obtain ⟨o, e⟩ := hc.there
      exact ⟨o, e⟩
    · exact r.owt b z
/-- the cells alone -/
theorem SRel.alone (r : SRel g Fx ι H σ st) : SRel g Fx (cells ι) H [] ⟨[], st.mu⟩ := by
  have k : Car Fx ι H Fx (cells ι) H := step_cells.car
  refine ⟨rfl, fun j d e => (by simp at e), fun j ys e => (by simp at e), fun n c e => ?_, fun j b e => (by cases e), fun n b e => r.domc n b e, fun w w' b e e' => ?_, fun b z q => r.fx b z (ow_cells q), r.fxt, fun b z => r.owt b (ow_cells z)⟩
  · obtain ⟨b, q1, q2⟩ := r.ce n c e
    exact ⟨b, q1, q2.car' k fun _ z => z⟩
  · cases w with
    | inl _ => cases e
    | inr n =>
      cases w' with
      | inl _ => cases e'
      | inr m => exact r.inj _ _ b e e'
/-- for a callee: the slots' lists are strangers -/
def strange (Fx : Addr → Prop) (ι : Io) (a : Addr) : Prop := Fx a ∨ ∃ i, ι (.inl i) = some a
theorem mt_strange (b : Addr) : Mt (strange Fx ι) (cells ι) b ↔ Mt Fx ι b := by
  constructor
  · rintro ((z | ⟨i, z⟩) | z)
    · exact .inl z
    · exact .inr ⟨_, z⟩
    · exact .inr (ow_cells z)
  · rintro (z | ⟨w, z⟩)
    · exact .inl (.inl z)
    · cases w with
      | inl i => exact .inl (.inr ⟨i, z⟩)
      | inr n => exact .inr ⟨.inr n, z⟩
theorem car_callee : Car Fx ι H (strange Fx ι) (cells ι) H := ⟨fun _ _ h _ => h, fun b z => .inl ((mt_strange b).mp z), fun _ _ z => z⟩
theorem SRel.callee (r : SRel g Fx ι H σ st) : SRel g (strange Fx ι) (cells ι) H [] ⟨[], st.mu⟩ := by
  have k : Car Fx ι H (strange Fx ι) (cells ι) H := car_callee
  refine ⟨rfl, fun j d e => (by simp at e), fun j ys e => (by simp at e), fun n c e => ?_, fun j b e => (by cases e), fun n b e => r.domc n b e, fun w w' b e e' => ?_, fun b z q => ?_, fun b z => ?_, fun b z => r.owt b (ow_cells z)⟩
  · obtain ⟨b, q1, q2⟩ := r.ce n c e
    exact ⟨b, q1, q2.car' k fun _ z => z⟩
  · cases w with
    | inl _ => cases e
    | inr n =>
      cases w' with
      | inl _ => cases e'
      | inr m => exact r.inj _ _ b e e'
  · rcases z with z | ⟨i, z⟩
    · exact r.fx b z (ow_cells q)
    · obtain ⟨w, q⟩ := q
      cases w with
      | inl _ => cases q
      | inr n =>
        have := r.inj (.inl i) (.inr n) b z q
        cases this
  · rcases z with z | ⟨i, z⟩
    · exact r.fxt b z
    · exact r.owt b ⟨_, z⟩
/-- behind a call -/
def join (ι ι' : Io) : Io := fun w => match w with
  | .inl i => ι (.inl i)
  | .inr n => ι' (.inr n)
theorem join_step (s : Step (cells ι) H ι' H') : Step ι H (join ι ι') H' where
  keep := fun b o e n => s.keep b o e fun z => n (ow_cells z)
  ow := fun b ⟨w, e⟩ => by
    cases w with
    | inl i => exact .inl ⟨.inl i, e⟩
    | inr n =>
      rcases s.ow b ⟨.inr n, e⟩ with z | z
      · exact .inl (ow_cells z)
      · exact .inr z
  ce := fun n a e => s.ce n a e
  th := s.th
theorem SRel.called {st' : ES} (r : SRel g Fx ι H σ st) (s : Step (cells ι) H ι' H') (r' : SRel g (strange Fx ι) ι' H' [] st') : SRel g Fx (join ι ι') H' σ ⟨st.sl, st'.mu⟩ := by
  have k : Car Fx ι H Fx (join ι ι') H' := (join_step s).car
  have mt : ∀ b, Mt Fx (join ι ι') b → Mt (strange Fx ι) ι' b := fun b z => by
    rcases z with z | ⟨w, z⟩
    · exact .inl (.inl z)
    · cases w with
      | inl i => exact .inl (.inr ⟨i, z⟩)
      | inr n => exact .inr ⟨.inr n, z⟩
  have k' : Car (strange Fx ι) ι' H' Fx (join ι ι') H' := car_le mt fun n a z => z
  have st0 : ∀ i a, ι (.inl i) = some a → ¬ Ow ι' a := fun i a z q => r'.fx a (.inr ⟨i, z⟩) q
  refine ⟨r.len, fun j d e => ?_, fun j ys e => ?_, fun n c e => ?_, fun j b e => r.dom j b e, fun n b e => r'.domc n b e, fun w w' b e e' => ?_, fun b z q => ?_, fun b z => r'.fxt b (.inl z), fun b z => ?_⟩
  · obtain ⟨v, q1, q2⟩ := r.va j d e
    exact ⟨v, q1, Rep.car k _ _ q2⟩
  · obtain ⟨b, ws, q1, q2, q3, q4⟩ := r.ac j ys e
    refine ⟨b, ws, q1, q2, s.keep b _ q3 fun z => ?_, RepAll.car k _ _ q4⟩
    obtain ⟨w, z⟩ := z
    cases w with
    | inl _ => cases z
    | inr n =>
      have := r.inj (.inl j) (.inr n) b q1 z
      cases this
  · obtain ⟨b, q1, q2⟩ := r'.ce n c e
    exact ⟨b, q1, q2.car' k' fun _ z => z⟩
  · cases w with
    | inl i =>
      cases w' with
      | inl j => exact r.inj _ _ b e e'
      | inr n => exact absurd ⟨_, e'⟩ (st0 i b e)
    | inr n =>
      cases w' with
      | inl j => exact absurd ⟨_, e⟩ (st0 j b e')
      | inr m => exact r'.inj _ _ b e e'
  · obtain ⟨w, q⟩ := q
    cases w with
    | inl i => exact r.fx b z ⟨_, q⟩
    | inr n => exact r'.fx b (.inl z) ⟨_, q⟩
  · obtain ⟨w, z⟩ := z
    cases w with
    | inl i => exact r'.fxt b (.inr ⟨i, z⟩)
    | inr n => exact r'.owt b ⟨_, z⟩
theorem car_back (h : ∀ b, Mt Fx (join ι ι') b → Mt (strange Fx ι) ι' b) : Car (strange Fx ι) ι' H' Fx (join ι ι') H' := car_le h fun n a z => z
theorem mt_join (b : Addr) (z : Mt Fx (join ι ι') b) : Mt (strange Fx ι) ι' b := by
  rcases z with z | ⟨w, z⟩
  · exact .inl (.inl z)
  · cases w with
    | inl i => exact .inl (.inr ⟨i, z⟩)
    | inr n => exact .inr ⟨.inr n, z⟩
end
end Pv
/-! Pv2: judgements over plain data; operations. -/
namespace Pv
open PySem PySem.Spec L2
/-- behind a run of the plain machine -/
def Aft {α : Type} (g : Gx) (W : WX) (Fx : Addr → Prop) (ι : Io) (H : Hp) (σ : L2.St) (r : R α) (Q : α → Io → Hp → ES → Prop) : Prop :=
  match r with
  | .ok a st' => ∀ ι' H', Step ι H ι' H' → SRel g Fx ι' H' σ st' → Q a ι' H' st'
  | .er e st' => ∀ ι' H' cls d, Step ι H ι' H' → SRel g Fx ι' H' σ st' → (∃ C, cls = .ref C ∧ g.mg e.c = some (.ref C) ∧ ((e.fs = [] ∧ d = none) ∨ ∃ a fv, d = some a ∧ H' a = some (.xd fv) ∧ ∀ f x, e.fs.lookup f = some x → ∃ v, fv.lookup f = some v ∧ Rep g.K H' Fx ι' x v)) → W cls d σ H'
  | .bad => False
section
variable {α β : Type} {g : Gx} {W : WX} {Fx : Addr → Prop} {ι ι' : Io} {H H' : Hp} {σ : L2.St} {r : R α} {Q Q' : α → Io → Hp → ES → Prop}
theorem Aft.later (s : Step ι H ι' H') (h : Aft g W Fx ι H σ r Q) : Aft g W Fx ι' H' σ r Q := by
  cases r with
  | ok a st' => exact fun ι2 H2 s2 r2 => h ι2 H2 (s.trans s2) r2
  | er e st' => exact fun ι2 H2 cls d s2 r2 x => h ι2 H2 cls d (s.trans s2) r2 x
  | bad => exact h
theorem Aft.imp (h : Aft g W Fx ι H σ r Q) (k : ∀ a ι' H' st', Step ι H ι' H' → SRel g Fx ι' H' σ st' → Q a ι' H' st' → Q' a ι' H' st') : Aft g W Fx ι H σ r Q' := by
  cases r with
  | ok a st' => exact fun ι2 H2 s2 r2 => k a ι2 H2 st' s2 r2 (h ι2 H2 s2 r2)
  | er e st' => exact h
  | bad => exact h
theorem Aft.bind {k : α → ES → R β} {Q : β → Io → Hp → ES → Prop} (h : Aft g W Fx ι H σ (r.bind k) Q) : Aft g W Fx ι H σ r fun a ι1 H1 st1 => Aft g W Fx ι1 H1 σ (k a st1) Q := by
  cases r with
  | ok a st' => exact fun ι2 H2 s2 r2 => Aft.later s2 h
  | er e st' => exact h
  | bad => exact h
theorem Aft.ok {a : α} {st : ES} (h : Aft g W Fx ι H σ (.ok a st) Q) (r : SRel g Fx ι H σ st) : Q a ι H st := h ι H Step.refl r
end
abbrev gx (X : Cx) : Gx := ⟨X.K, X.mg⟩
/-- an expression's reading over plain data -/
def tE (g : Gx) (W : WX) (f : M D) : TE := fun σ H Q => ∃ Fx ι st, SRel g Fx ι H σ st ∧ Aft g W Fx ι H σ (f st) fun d ι' H' _ => ∀ v, Rep g.K H' Fx ι' d v → Q v H'
/-- .. that gives a new list, apart from all -/
def tF (g : Gx) (W : WX) (f : M (List D)) : TE := fun σ H Q => ∃ Fx ι st, SRel g Fx ι H σ st ∧
  Aft g W Fx ι H σ (f st) fun xs ι' H' st' => ∀ a vs, H a = none → H' a = some (.lst vs) → SRel g (fun b => Fx b ∨ b = a) ι' H' σ st' → RepAll g.K H' (fun b => Fx b ∨ b = a) ι' xs vs → Q (.ref a) H'
def tT (g : Gx) (W : WX) (f : M Bool) : TT := fun σ H Q => ∃ Fx ι st, SRel g Fx ι H σ st ∧ Aft g W Fx ι H σ (f st) fun b _ H' _ => Q b H'
def tAs (g : Gx) (W : WX) (f : M (List D)) : TA := fun σ H Q => ∃ Fx ι st, SRel g Fx ι H σ st ∧ Aft g W Fx ι H σ (f st) fun ds ι' H' _ => ∀ vs, RepAll g.K H' Fx ι' ds vs → Q vs H'
theorem PE.imp {X : Cx} {e : Expr} {t t' : TE} (h : PE X e t) (k : ∀ σ H Q, t' σ H Q → t σ H Q) : PE X e t' := ⟨fun pins s σ H Q I q => h.run pins s σ H Q I (k σ H Q q)⟩
theorem PT.imp {X : Cx} {e : Expr} {t t' : TT} (h : PT X e t) (k : ∀ σ H Q, t' σ H Q → t σ H Q) : PT X e t' := ⟨fun pins s σ H Q I q => h.run pins s σ H Q I (k σ H Q q)⟩
theorem PW.imp {X : Cx} {e : Expr} {t t' : TT} (h : PW X e t) (k : ∀ σ H Q, t' σ H Q → t σ H Q) : PW X e t' := ⟨fun w pins s σ H Q I q => h.run w pins s σ H Q I (k σ H Q q)⟩
theorem PA.imp {X : Cx} {es : List Expr} {t t' : TA} (h : PA X es t) (k : ∀ σ H Q, t' σ H Q → t σ H Q) : PA X es t' := ⟨fun p pins s σ H Q I q => h.run p pins s σ H Q I (k σ H Q q)⟩
theorem PS.imp {X : Cx} {e : Stmt} {t t' : TS} (h : PS X e t) (k : ∀ D σ H, t' D σ H → t D σ H) : PS X e t' := ⟨fun pins s σ H D I q => h.run pins s σ H D I (k D σ H q)⟩
theorem PSs.imp {X : Cx} {e : List Stmt} {t t' : TS} (h : PSs X e t) (k : ∀ D σ H, t' D σ H → t D σ H) : PSs X e t' := ⟨fun pins s σ H D I q => h.run pins s σ H D I (k D σ H q)⟩
def PEd (X : Cx) (W : WX) (e : Expr) (f : M D) : Prop := PE X e (tE (gx X) W f)
def PFd (X : Cx) (W : WX) (e : Expr) (f : M (List D)) : Prop := PE X e (tF (gx X) W f)
def PTd (X : Cx) (W : WX) (e : Expr) (f : M Bool) : Prop := PT X e (tT (gx X) W f)
def PWd (X : Cx) (W : WX) (e : Expr) (f : M Bool) : Prop := PW X e (tT (gx X) W f)
def PAd (X : Cx) (W : WX) (es : List Expr) (f : M (List D)) : Prop := PA X es (tAs (gx X) W f)
/-! ### the plain machine's words -/
def mPure (d : D) : M D := fun st => .ok d st
/-- a slot's value; a list of one's own is frozen by being told -/
def mVar (i : Nat) : M D := fun st => match st.sl[i]? with
  | some (.va d) => .ok d st
  | some (.ac xs) => .ok (.lst xs) { st with sl := st.sl.set i (.va (.lst xs)) }
  | _ => .bad
def mSeq2 (f g : M D) (k : D → D → M D) : M D := fun st => (f st).bind fun x st1 => (g st1).bind fun y st2 => k x y st2
def mThen (f : M D) (k : D → M D) : M D := fun st => (f st).bind k
def mNil : M (List D) := fun st => .ok [] st
def mCons (f : M D) (r : M (List D)) : M (List D) := fun st => (f st).bind fun x st1 => (r st1).bind fun xs st2 => .ok (x :: xs) st2
def mBool (f : M D) : M Bool := fun st => (f st).bind fun x st1 => match x with
  | .bl b => .ok b st1
  | _ => .bad
def mAnd (f g : M Bool) : M Bool := fun st => (f st).bind fun b st1 => if b then g st1 else .ok false st1
def mOr (f g : M Bool) : M Bool := fun st => (f st).bind fun b st1 => if b then .ok true st1 else g st1
def mNot (f : M Bool) : M Bool := fun st => (f st).bind fun b st1 => .ok (!b) st1
def mIte {α : Type} (c : M Bool) (f g : M α) : M α := fun st => (c st).bind fun b st1 => if b then f st1 else g st1
def mVal (f : M Bool) : M D := fun st => (f st).bind fun b st1 => .ok (.bl b) st1
def mLst (f : M (List D)) : M D := fun st => (f st).bind fun xs st1 => .ok (.lst xs) st1
def mTup (f : M (List D)) : M D := fun st => (f st).bind fun xs st1 => if xs.length ≤ lim then .ok (.tup xs) st1 else .bad
/-- a pure step on values -/
def mPur (o : Option D) : M D := fun st => match o with
  | some d => .ok d st
  | none => .bad
section
variable {X : Cx} {W : WX} {e a b c : Expr} {f fa fb : M D} {pos : Pos}
/-- what is told of a slot -/
theorem tE_var {i : Nat} {g : Gx} {σ : L2.St} {H : Hp} {Q : VK} (h : tE g W (mVar i) σ H Q) : tVar i σ H Q := by
  obtain ⟨Fx, ι, st, r, q⟩ := h
  unfold mVar at q
  split at q
  · rename_i d e
    obtain ⟨v, e1, rp⟩ := r.va i d e
    exact ⟨v, e1, q.ok r v rp⟩
  · rename_i xs e
    obtain ⟨v, e1, rp, r'⟩ := r.freeze e
    exact ⟨v, e1, q _ _ step_cut r' v rp⟩
  · exact q.elim
theorem PEd.var {i : Nat} {x : Str} (hN : X.N[i]? = some x) (hv : Vis X.env.scope x) (hd : (x == ("__debug__" : Str)) = false) (hcd : (x == ("__classdict__" : Str)) = false) : PEd X W (.Name x pos) (mVar i) :=
  PE.imp (pe_var hN hv hd hcd) fun _ _ _ h => tE_var h
theorem tE_pure {g : Gx} {σ : L2.St} {H : Hp} {Q : VK} {d : D} {v : V} (h : tE g W (mPure d) σ H Q) (hr : ∀ Fx ι, Rep g.K H Fx ι d v) : Q v H := by
  obtain ⟨Fx, ι, st, r, q⟩ := h
  exact q.ok r v (hr _ _)
theorem PEd.int {i : Int} {j pos} : PEd X W (.Constant (.int i) j pos) (mPure (.int i)) := PE.imp pe_int fun _ _ _ h => tE_pure h fun _ _ => by simp only [Rep]
theorem PEd.bl {i : Bool} {j pos} : PEd X W (.Constant (.bool i) j pos) (mPure (.bl i)) := PE.imp pe_bl fun _ _ _ h => tE_pure h fun _ _ => by simp only [Rep]
theorem PEd.non {j pos} : PEd X W (.Constant .none j pos) (mPure .non) := PE.imp pe_non fun _ _ _ h => tE_pure h fun _ _ => by simp only [Rep]
def okSb (s : List Nat) : Bool := decide (s.length ≤ lim) && s.all (· < 1114112)
theorem OkS.of {s : List Nat} (h : okSb s = true) : OkS s := by
  unfold okSb at h
  simp only [Bool.and_eq_true, decide_eq_true_eq, List.all_eq_true] at h
  exact ⟨h.1, h.2⟩
theorem PEd.str {x : Str} {j pos} (h : okSb x.cps.toList = true) : PEd X W (.Constant (.str x) j pos) (mPure (.str x.cps.toList)) :=
  PE.imp pe_str fun _ _ _ q => tE_pure q fun _ _ => by
    simp only [Rep]
    exact ⟨by simp, OkS.of h⟩
/-- all that stood stands -/
def Grow (H H' : Hp) : Prop := ∀ b o, H b = some o → H' b = some o
theorem Grow.refl (H : Hp) : Grow H H := fun _ _ h => h
theorem Grow.new {H : Hp} {p : Addr} {o : HO} (h : H p = none) : Grow H (upd H p o) := fun b u e => by
  rw [upd_ne (ne_of_none e h)]
  exact e
theorem Grow.step {H H' : Hp} {ι : Io} (h : Grow H H') : Step ι H ι H' := ⟨fun b o e _ => h b o e, fun _ z => .inl z, fun _ _ z => z, fun b o e => ⟨o, h b o e⟩⟩
/-- operations on values: two, a list of them; they may make new objects -/
def Op2 (X : Cx) (f : Value → Value → Sem Value) (k : List Cell → D → D → Option D) : Prop :=
  OpR X f fun x y H Q => ∃ Fx ι σ st dx dy d, SRel (gx X) Fx ι H σ st ∧ Rep X.K H Fx ι dx x ∧ Rep X.K H Fx ι dy y ∧ k st.mu dx dy = some d ∧ ∀ v H', Grow H H' → Rep X.K H' Fx ι d v → Q v H'
def mOp2 (k : List Cell → D → D → Option D) (f g : M D) : M D := fun st => (f st).bind fun x st1 => (g st1).bind fun y st2 => match k st2.mu x y with
  | some d => .ok d st2
  | none => .bad
theorem tE_op {g : Gx} {σ : L2.St} {H : Hp} {Q : VK} {k : List Cell → D → D → Option D} (h : tE g W (mOp2 k fa fb) σ H Q) :
    tOp (fun x y H Q => ∃ Fx ι σ st dx dy d, SRel g Fx ι H σ st ∧ Rep g.K H Fx ι dx x ∧ Rep g.K H Fx ι dy y ∧ k st.mu dx dy = some d ∧ ∀ v H', Grow H H' → Rep g.K H' Fx ι d v → Q v H') (tE g W fa) (tE g W fb) σ H Q := by
  obtain ⟨Fx, ι, st, r, q⟩ := h
  refine ⟨Fx, ι, st, r, q.bind.imp fun dx ι1 H1 st1 s1 r1 q1 x rx => ⟨Fx, ι1, st1, r1, q1.bind.imp fun dy ι2 H2 st2 s2 r2 q2 y ry => ?_⟩⟩
  cases e : k st2.mu dx dy with
  | none =>
    simp only [e] at q2
    exact q2.elim
  | some d =>
    simp only [e] at q2
    exact ⟨Fx, ι2, σ, st2, dx, dy, d, r2, Rep.car s2.car _ _ rx, ry, e, fun v H' gr rp => q2 ι2 H' gr.step (r2.same gr) v rp⟩
theorem PEd.op {op : Operator} {k : List Cell → D → D → Option D} (ho : Op2 X (binaryOp op) k) (ha : PEd X W a fa) (hb : PEd X W b fb) : PEd X W (.BinOp a op b pos) (mOp2 k fa fb) :=
  PE.imp (pe_op ho ha hb) fun _ _ _ h => tE_op h
theorem PEd.cmp {op : CmpOp} {k : List Cell → D → D → Option D} (ho : Op2 X (compareOp op) k) (ha : PEd X W a fa) (hb : PEd X W b fb) (hm : behindInMarks op b = false) : PEd X W (.Compare a [op] [b] pos) (mOp2 k fa fb) :=
  PE.imp (pe_cmpR ho ha hb hm) fun _ _ _ h => tE_op h
/-- a truth among values -/
theorem rep_bl {K : PySem.W.Frag} {H : Hp} {Fx : Addr → Prop} {ι : Io} {b : Bool} {v : V} (h : Rep K H Fx ι (.bl b) v) : v = .bl b := by simpa only [Rep] using h
theorem tT_bool {g : Gx} {σ : L2.St} {H : Hp} {Q : Bool → Hp → Prop} (h : tT g W (mBool f) σ H Q) : tTest (tE g W f) σ H Q := by
  obtain ⟨Fx, ι, st, r, q⟩ := h
  refine ⟨Fx, ι, st, r, q.bind.imp fun d ι1 H1 st1 s1 r1 q1 v rv => ?_⟩
  split at q1
  · rename_i b
    exact ⟨b, rep_bl rv, q1.ok r1⟩
  · exact q1.elim
theorem PTd.cmp {op : CmpOp} {k : List Cell → D → D → Option D} (ho : Op2 X (compareOp op) k) (ha : PEd X W a fa) (hb : PEd X W b fb) (hm : behindInMarks op b = false) : PTd X W (.Compare a [op] [b] pos) (mBool (mOp2 k fa fb)) :=
  PT.imp (pt_cmpR ho ha hb hm) fun σ H Q h => by
    obtain ⟨Fx, ι, st, r, q⟩ := tT_bool h
    exact tE_op ⟨Fx, ι, st, r, q⟩
theorem PTd.val (h : PEd X W e f) (he : ∀ whole, isTrue e X.env whole = (do let v ← whole; standAt e.pos; holding [v] (truthy v))) : PTd X W e (mBool f) :=
  PT.imp (pt_val h he) fun _ _ _ h => tT_bool h
/-! ### and, or, not, if -/
variable {tA tB : M Bool} {rest : List Expr}
theorem PWd.and1 (ha : PTd X W a tA) : PWd X W (.BoolOp .And [a] pos) tA := PW.imp (pw_and1 ha) fun _ _ _ h => h
theorem PWd.or1 (ha : PTd X W a tA) : PWd X W (.BoolOp .Or [a] pos) tA := PW.imp (pw_or1 ha) fun _ _ _ h => h
theorem PWd.and (ha : PTd X W a tA) (hb : PWd X W (.BoolOp .And (b :: rest) pos) tB) : PWd X W (.BoolOp .And (a :: b :: rest) pos) (mAnd tA tB) := PW.imp (pw_and ha hb) fun σ H Q h => by
  obtain ⟨Fx, ι, st, r, q⟩ := h
  refine ⟨Fx, ι, st, r, q.bind.imp fun b ι1 H1 st1 s1 r1 q1 => ?_⟩
  cases b with
  | true => exact ⟨Fx, ι1, st1, r1, q1⟩
  | false => exact q1.ok r1
theorem PWd.or (ha : PTd X W a tA) (hb : PWd X W (.BoolOp .Or (b :: rest) pos) tB) : PWd X W (.BoolOp .Or (a :: b :: rest) pos) (mOr tA tB) := PW.imp (pw_or ha hb) fun σ H Q h => by
  obtain ⟨Fx, ι, st, r, q⟩ := h
  refine ⟨Fx, ι, st, r, q.bind.imp fun b ι1 H1 st1 s1 r1 q1 => ?_⟩
  cases b with
  | true => exact q1.ok r1
  | false => exact ⟨Fx, ι1, st1, r1, q1⟩
theorem PTd.not (ha : PTd X W a tA) : PTd X W (.UnaryOp .Not a pos) (mNot tA) := PT.imp (pt_not ha) fun σ H Q h => by
  obtain ⟨Fx, ι, st, r, q⟩ := h
  exact ⟨Fx, ι, st, r, q.bind.imp fun b ι1 H1 st1 s1 r1 q1 => q1.ok r1⟩
/-- as values -/
theorem PEd.one {op} (ha : PEd X W a fa) : PEd X W (.BoolOp op [a] pos) fa := PE.imp (pe_one ha) fun _ _ _ h => h
theorem tE_bool {g : Gx} {σ : L2.St} {H : Hp} {Q : VK} {k : Bool → M D} {K' : Bool → Hp → Prop} (h : tE g W (fun st => (mBool fa st).bind k) σ H Q)
    (hk : ∀ b Fx ι H1 st1, SRel g Fx ι H1 σ st1 → (Aft g W Fx ι H1 σ (k b st1) fun d ι' H' _ => ∀ v, Rep g.K H' Fx ι' d v → Q v H') → K' b H1) : tE g W fa σ H fun x H1 => ∃ c, x = .bl c ∧ K' c H1 := by
  obtain ⟨Fx, ι, st, r, q⟩ := h
  have q2 : Aft g W Fx ι H σ ((mBool fa st).bind k) fun d ι' H' _ => ∀ v, Rep g.K H' Fx ι' d v → Q v H' := q
  refine ⟨Fx, ι, st, r, (q2.bind : Aft g W Fx ι H σ (mBool fa st) _).bind.imp fun d ι1 H1 st1 s1 r1 q1 v rv => ?_⟩
  split at q1
  · rename_i b
    exact ⟨b, rep_bl rv, hk b Fx ι1 H1 st1 r1 (q1.ok r1)⟩
  · exact q1.elim
theorem PEd.and (ha : PEd X W a fa) (hb : PEd X W (.BoolOp .And (b :: rest) pos) fb) : PEd X W (.BoolOp .And (a :: b :: rest) pos) (fun st => (mBool fa st).bind fun c st1 => if c then fb st1 else .ok (.bl false) st1) :=
  PE.imp (pe_and ha hb) fun σ H Q h => tE_bool h fun c Fx ι H1 st1 r1 q1 => by
    cases c with
    | true => exact ⟨Fx, ι, st1, r1, q1⟩
    | false => exact q1.ok r1 _ (by simp only [Rep])
theorem PEd.or (ha : PEd X W a fa) (hb : PEd X W (.BoolOp .Or (b :: rest) pos) fb) : PEd X W (.BoolOp .Or (a :: b :: rest) pos) (fun st => (mBool fa st).bind fun c st1 => if c then .ok (.bl true) st1 else fb st1) :=
  PE.imp (pe_or ha hb) fun σ H Q h => tE_bool h fun c Fx ι H1 st1 r1 q1 => by
    cases c with
    | true => exact q1.ok r1 _ (by simp only [Rep])
    | false => exact ⟨Fx, ι, st1, r1, q1⟩
theorem PEd.not (ha : PEd X W a fa) : PEd X W (.UnaryOp .Not a pos) (fun st => (mBool fa st).bind fun c st1 => .ok (.bl (!c)) st1) :=
  PE.imp (pe_not ha) fun σ H Q h => tE_bool h fun c Fx ι H1 st1 r1 q1 => q1.ok r1 _ (by simp only [Rep])
theorem PEd.ifExp (hc : PTd X W c tA) (ha : PEd X W a fa) (hb : PEd X W b fb) : PEd X W (.IfExp c a b pos) (mIte tA fa fb) := PE.imp (pe_ifExp hc ha hb) fun σ H Q h => by
  obtain ⟨Fx, ι, st, r, q⟩ := h
  refine ⟨Fx, ι, st, r, q.bind.imp fun b ι1 H1 st1 s1 r1 q1 => ?_⟩
  cases b with
  | true => exact ⟨Fx, ι1, st1, r1, q1⟩
  | false => exact ⟨Fx, ι1, st1, r1, q1⟩
/-! ### argument lists, displays -/
theorem PAd.nil : PAd X W [] mNil := PA.imp pa_nil fun σ H Q h => by
  obtain ⟨Fx, ι, st, r, q⟩ := h
  exact q.ok r _ .nil
variable {es : List Expr} {fs : M (List D)}
theorem PAd.cons (ha : PEd X W e f) (hr : PAd X W es fs) (hs : starEach (e :: es) X.env = (false, eval e X.env) :: starEach es X.env) : PAd X W (e :: es) (mCons f fs) := PA.imp (pa_cons ha hr hs) fun σ H Q h => by
  obtain ⟨Fx, ι, st, r, q⟩ := h
  refine ⟨Fx, ι, st, r, q.bind.imp fun d ι1 H1 st1 s1 r1 q1 x rx => ⟨Fx, ι1, st1, r1, q1.bind.imp fun ds ι2 H2 st2 s2 r2 q2 xs rxs => ?_⟩⟩
  exact q2.ok r2 _ (.cons (Rep.car s2.car _ _ rx) rxs)
theorem lim_line : lim ≤ sizeLine := by
  show (16000000 : Nat) ≤ 2 ^ 24
  decide
theorem PEd.tup {k : Nat} (h : PAd X W es fs) : PEd X W (.Tuple es k pos) (mTup fs) := PE.imp (pe_tup h) fun σ H Q h => by
  obtain ⟨Fx, ι, st, r, q⟩ := h
  refine ⟨Fx, ι, st, r, q.bind.imp fun ds ι1 H1 st1 s1 r1 q1 xs rxs => ?_⟩
  by_cases hl : ds.length ≤ lim
  · rw [if_pos hl] at q1
    refine ⟨by rw [← rxs.length]; exact Nat.le_trans hl lim_line, fun p hp => ?_⟩
    refine q1 ι1 _ (step_new hp) (r1.new hp) _ ?_
    simp only [Rep]
    exact ⟨p, xs, rfl, .inl ⟨.inl upd_same, r1.fresh hp⟩, RepAll.car (step_new hp).car _ _ rxs⟩
  · rw [if_neg hl] at q1
    exact q1.elim
def mDisp (f : M (List D)) : M (List D) := fun st => (f st).bind fun xs st1 => if xs.length ≤ lim then .ok xs st1 else .bad
theorem PFd.lst (h : PAd X W es fs) : PFd X W (.List es pos) (mDisp fs) := PE.imp (pe_lst h) fun σ H Q h => by
  obtain ⟨Fx, ι, st, r, q⟩ := h
  refine ⟨Fx, ι, st, r, q.bind.imp fun ds ι1 H1 st1 s1 r1 q1 xs rxs => ?_⟩
  by_cases hl : ds.length ≤ lim
  · rw [if_pos hl] at q1
    refine ⟨by rw [← rxs.length]; exact Nat.le_trans hl lim_line, fun p hp => ?_⟩
    have k : Car Fx ι1 H1 (fun b => Fx b ∨ b = p) ι1 (upd H1 p (.lst xs)) := ⟨fun b u e _ => Grow.new hp b u e, fun b z => by
      rcases z with (z | z) | z
      · exact .inl (.inl z)
      · rw [z]
        exact .inr hp
      · exact .inl (.inr z), fun _ _ z => z⟩
    have hn : H p = none := s1.none hp
    exact q1 ι1 _ (step_new hp) (r1.new hp) p xs hn upd_same (r1.apart hp) (RepAll.car k _ _ rxs)
  · rw [if_neg hl] at q1
    exact q1.elim
end
end Pv
/-! Pv3: operations on plain data. -/
namespace Pv
open PySem PySem.Spec L2
section
variable {K : PySem.W.Frag} {H H' : Hp} {Fx : Addr → Prop} {ι : Io} {v : V}
theorem rep_int {i : Int} (h : Rep K H Fx ι (.int i) v) : v = .int i := by simpa only [Rep] using h
theorem rep_non (h : Rep K H Fx ι .non v) : v = .non := by simpa only [Rep] using h
theorem rep_str {s : List Nat} (h : Rep K H Fx ι (.str s) v) : v = .str ⟨s.toArray⟩ ∧ OkS s := by simpa only [Rep] using h
theorem rep_tup {ds : List D} (h : Rep K H Fx ι (.tup ds) v) : ∃ a vs, v = .ref a ∧ TupAt K H (Mt Fx ι) a vs ∧ RepAll K H Fx ι ds vs := by simpa only [Rep] using h
theorem rep_lst {ds : List D} (h : Rep K H Fx ι (.lst ds) v) : ∃ a vs, v = .ref a ∧ H a = some (.lst vs) ∧ ¬ Mt Fx ι a ∧ RepAll K H Fx ι ds vs := by simpa only [Rep] using h
theorem rep_lk {ds : List D} (h : Rep K H Fx ι (.lk ds) v) : ∃ a vs, v = .ref a ∧ LkAt K H (Mt Fx ι) a vs ∧ RepAll K H Fx ι ds vs := by simpa only [Rep] using h
theorem rep_ref {n : Nat} (h : Rep K H Fx ι (.ref n) v) : ∃ a, v = .ref a ∧ ι (.inr n) = some a := by simpa only [Rep] using h
theorem mk_int {i : Int} : Rep K H Fx ι (.int i) (.int i) := by simp only [Rep]
theorem mk_bl {b : Bool} : Rep K H Fx ι (.bl b) (.bl b) := by simp only [Rep]
theorem mk_non : Rep K H Fx ι .non .non := by simp only [Rep]
theorem mk_str {s : List Nat} (h : OkS s) : Rep K H Fx ι (.str s) (.str ⟨s.toArray⟩) := by simp only [Rep]; exact ⟨trivial, h⟩
theorem TupAt.sq {a : Addr} {vs : List V} {M : Addr → Prop} (h : TupAt K H M a vs) : SqT K H a vs := h.elim (fun z => .inl z.1) .inr
theorem LkAt.sq {a : Addr} {vs : List V} {M : Addr → Prop} (h : LkAt K H M a vs) : SqL K H a vs := h.elim (fun z => .inl z.1) .inr
/-- a new tuple, a new list -/
theorem SRel.newTup {g : Gx} {σ : L2.St} {st : ES} (r : SRel g Fx ι H σ st) {p : Addr} {vs : List V} {ds : List D} (hp : H p = none) (h : RepAll g.K H Fx ι ds vs) : Rep g.K (upd H p (.tup vs)) Fx ι (.tup ds) (.ref p) := by
  simp only [Rep]
  exact ⟨p, vs, rfl, .inl ⟨.inl upd_same, r.fresh hp⟩, RepAll.car (step_new hp).car _ _ h⟩
theorem SRel.newLst {g : Gx} {σ : L2.St} {st : ES} (r : SRel g Fx ι H σ st) {p : Addr} {vs : List V} {ds : List D} (hp : H p = none) (h : RepAll g.K H Fx ι ds vs) : Rep g.K (upd H p (.lst vs)) Fx ι (.lst ds) (.ref p) := by
  simp only [Rep]
  exact ⟨p, vs, rfl, upd_same, r.fresh hp, RepAll.car (step_new hp).car _ _ h⟩
end
theorem str_app (s t : List Nat) : (⟨s.toArray⟩ : Str) ++ ⟨t.toArray⟩ = ⟨(s ++ t).toArray⟩ := by
  show Str.append _ _ = _
  unfold Str.append
  simp
theorem str_len (s : List Nat) : (⟨s.toArray⟩ : Str).length = s.length := by
  show (s.toArray).size = _
  simp
theorem OkS.app {s t : List Nat} (a : OkS s) (b : OkS t) (h : s.length + t.length ≤ lim) : OkS (s ++ t) := ⟨by rw [List.length_append]; exact h, fun c hc => (List.mem_append.mp hc).elim (a.cps c) (b.cps c)⟩
theorem OkS.sub {s t : List Nat} (a : OkS s) (hl : t.length ≤ s.length) (h : ∀ c ∈ t, c ∈ s) : OkS t := ⟨Nat.le_trans hl a.len, fun c hc => a.cps c (h c hc)⟩
theorem OkS.line {s : List Nat} (a : OkS s) : (⟨s.toArray⟩ : Str).length ≤ sizeLine := by
  rw [str_len]
  exact Nat.le_trans a.len lim_line
/-- ints of a size that is multiplied -/
def big : Nat := 2 ^ 4000
theorem big_log {i : Int} (h : i.natAbs < big) : i.natAbs.log2 < 4000 := PySem.Flt.log2_lt_of (by decide) h
def dAdd (_ : List Cell) : D → D → Option D
  | .int i, .int j => some (.int (i + j))
  | .str s, .str t => if s.length + t.length ≤ lim then some (.str (s ++ t)) else none
  | .tup s, .tup t => if s.length + t.length ≤ lim then some (.tup (s ++ t)) else none
  | .lst s, .lst t => if s.length + t.length ≤ lim then some (.lst (s ++ t)) else none
  | _, _ => none
def dSub (_ : List Cell) : D → D → Option D
  | .int i, .int j => some (.int (i - j))
  | _, _ => none
def dMulI (_ : List Cell) : D → D → Option D
  | .int i, .int j => if i.natAbs < big ∧ j.natAbs < big then some (.int (i * j)) else none
  | _, _ => none
def dMul (mu : List Cell) (x y : D) : Option D := match x, y with
  | .str s, .int n => if 0 ≤ n ∧ n ≤ 1000000 ∧ s.length * n.toNat ≤ lim then some (.str (List.replicate n.toNat s).flatten) else none
  | .lst xs, .int n => if 0 ≤ n ∧ n ≤ 1000000 ∧ xs.length * n.toNat ≤ lim then some (.lst (List.replicate n.toNat xs).flatten) else none
  | .tup xs, .int n => if 2 ≤ n ∧ n ≤ 1000 ∧ xs.length ≤ 1000 ∧ xs.length ≠ 0 then some (.tup (List.replicate n.toNat xs).flatten) else none
  | x, y => dMulI mu x y
def dDiv (_ : List Cell) : D → D → Option D
  | .int i, .int j => if 0 < j ∧ j.natAbs < big then some (.int (i / j)) else none
  | _, _ => none
def dMod (_ : List Cell) : D → D → Option D
  | .int i, .int j => if 0 < j then some (.int (i % j)) else none
  | _, _ => none
def dPow (_ : List Cell) : D → D → Option D
  | .int i, .int j => if 0 ≤ j ∧ j ≤ 1000000 ∧ i.natAbs < 2 ^ 64 then some (.int (i ^ j.toNat)) else none
  | _, _ => none
def dShr (_ : List Cell) : D → D → Option D
  | .int i, .int j => if 0 ≤ j then some (.int (i / 2 ^ j.toNat)) else none
  | _, _ => none
def noOp (_ : List Cell) (_ _ : D) : Option D := none
def dBin : Operator → List Cell → D → D → Option D
  | .Add => dAdd
  | .Sub => dSub
  | .Mult => dMul
  | .FloorDiv => dDiv
  | .Mod => dMod
  | .Pow => dPow
  | .RShift => dShr
  | _ => noOp
section
variable {X : Cx}
theorem op_none {f : Value → Value → Sem Value} : Op2 X f noOp := by
  intro pins s σ H x y v u Q I rx ry h
  obtain ⟨Fx, ι, σ', st, dx, dy, d, r, hx, hy, e, q⟩ := h
  cases e
theorem opAdd : Op2 X (binaryOp .Add) dAdd := by
  intro pins s σ H x y v u Q I rx ry h
  obtain ⟨Fx, ι, σ', st, dx, dy, d, r, hx, hy, e, q⟩ := h
  unfold dAdd at e
  split at e
  · rename_i i j
    cases e
    cases rep_int hx
    cases rep_int hy
    exact op_add pins s σ H _ _ v u Q I rx ry ⟨i, j, rfl, rfl, q _ H (Grow.refl H) mk_int⟩
  · rename_i a b
    split at e
    · rename_i hl
      cases e
      obtain ⟨ex, ox⟩ := rep_str hx
      obtain ⟨ey, oy⟩ := rep_str hy
      subst ex ey
      refine op_add_str pins s σ H _ _ v u Q I rx ry ⟨_, _, rfl, rfl, by rw [str_len, str_len]; exact Nat.le_trans hl lim_line, ?_⟩
      rw [str_app]
      exact q _ H (Grow.refl H) (mk_str (ox.app oy hl))
    · cases e
  · rename_i a b
    split at e
    · rename_i hl
      cases e
      obtain ⟨a1, v1, e1, t1, p1⟩ := rep_tup hx
      obtain ⟨a2, v2, e2, t2, p2⟩ := rep_tup hy
      subst e1 e2
      refine op_catA pins s σ H _ _ v u Q I rx ry ⟨a1, a2, v1, v2, rfl, rfl, t1.sq, t2.sq, by rw [← p1.length, ← p2.length]; exact Nat.le_trans hl lim_line, fun z => ?_, fun z1 z2 => ?_, fun z1 z2 p hp => ?_⟩
      · refine q _ H (Grow.refl H) ?_
        have hz : a = [] := List.length_eq_zero_iff.mp (by rw [p1.length, z]; rfl)
        subst hz
        exact hy
      · refine q _ H (Grow.refl H) ?_
        have hz : b = [] := List.length_eq_zero_iff.mp (by rw [p2.length, z2]; rfl)
        subst hz
        rw [List.append_nil]
        exact hx
      · exact q _ _ (Grow.new hp) (r.newTup hp (p1.append p2))
    · cases e
  · rename_i a b
    split at e
    · rename_i hl
      cases e
      obtain ⟨a1, v1, e1, t1, n1, p1⟩ := rep_lst hx
      obtain ⟨a2, v2, e2, t2, n2, p2⟩ := rep_lst hy
      subst e1 e2
      refine op_cat pins s σ H _ _ v u Q I rx ry ⟨a1, a2, v1, v2, rfl, rfl, t1, t2, by rw [← p1.length, ← p2.length]; exact Nat.le_trans hl lim_line, fun p hp => ?_⟩
      exact q _ _ (Grow.new hp) (r.newLst hp (p1.append p2))
    · cases e
  · cases e
theorem opInt {f : Value → Value → Sem Value} {C : Int → Int → Prop} [DecidableRel C] {k : Int → Int → Int} {C' : Int → Int → Prop} (h : OpR X f (rI C' fun i j => .int (k i j))) (hc : ∀ i j, C i j → C' i j) {F : List Cell → D → D → Option D}
    (hF : ∀ mu x y d, F mu x y = some d → ∃ i j, x = .int i ∧ y = .int j ∧ C i j ∧ d = .int (k i j)) : Op2 X f F := by
  intro pins s σ H x y v u Q I rx ry h'
  obtain ⟨Fx, ι, σ', st, dx, dy, d, r, hx, hy, e, q⟩ := h'
  obtain ⟨i, j, rfl, rfl, hij, rfl⟩ := hF _ _ _ _ e
  cases rep_int hx
  cases rep_int hy
  exact h pins s σ H _ _ v u Q I rx ry ⟨i, j, rfl, rfl, hc _ _ hij, q _ H (Grow.refl H) mk_int⟩
theorem opSub : Op2 X (binaryOp .Sub) dSub := by
  intro pins s σ H x y v u Q I rx ry h'
  obtain ⟨Fx, ι, σ', st, dx, dy, d, r, hx, hy, e, q⟩ := h'
  unfold dSub at e
  split at e
  · rename_i i j
    cases e
    cases rep_int hx
    cases rep_int hy
    exact op_sub pins s σ H _ _ v u Q I rx ry ⟨i, j, rfl, rfl, q _ H (Grow.refl H) mk_int⟩
  · cases e
theorem rep_flat (s : List Nat) (n : Nat) : (List.replicate n s.toArray).foldl (· ++ ·) #[] = ((List.replicate n s).flatten).toArray := by
  have key : ∀ (n : Nat) (acc : Array Nat), (List.replicate n s.toArray).foldl (· ++ ·) acc = acc ++ ((List.replicate n s).flatten).toArray := fun n => by
    induction n with
    | zero => intro acc; simp
    | succ n ih => intro acc; rw [List.replicate_succ, List.foldl_cons, ih, List.replicate_succ, List.flatten_cons]; simp
  rw [key]
  simp
theorem rep_flat_len (s : List Nat) (n : Nat) : ((List.replicate n s).flatten).length = s.length * n := by
  induction n with
  | zero => simp
  | succ n ih => rw [List.replicate_succ, List.flatten_cons, List.length_append, ih, Nat.mul_succ]; omega
theorem OkS.reps {s : List Nat} (a : OkS s) {n : Nat} (h : s.length * n ≤ lim) : OkS (List.replicate n s).flatten := ⟨by rw [rep_flat_len]; exact h, fun c hc => by
  obtain ⟨l, hl, hc⟩ := List.mem_flatten.mp hc
  rw [(List.mem_replicate.mp hl).2] at hc
  exact a.cps c hc⟩
theorem opMulI : Op2 X (binaryOp .Mult) dMulI := opInt (C := fun i j => i.natAbs < big ∧ j.natAbs < big) (k := fun i j => i * j) op_mulW (fun i j h => by have := big_log h.1; have := big_log h.2; unfold CMulW; omega) fun mu x y d e => by
  unfold dMulI at e
  split at e
  · rename_i i j
    split at e
    · rename_i hc
      cases e
      exact ⟨i, j, rfl, rfl, hc, rfl⟩
    · cases e
  · cases e
theorem repAll_rep {K : PySem.W.Frag} {H : Hp} {Fx : Addr → Prop} {ι : Io} {xs : List D} {vs : List V} (h : RepAll K H Fx ι xs vs) : ∀ n : Nat, RepAll K H Fx ι (List.replicate n xs).flatten (List.replicate n vs).flatten
  | 0 => .nil
  | n + 1 => by
    rw [List.replicate_succ, List.replicate_succ, List.flatten_cons, List.flatten_cons]
    exact h.append (repAll_rep h n)
theorem opMul : Op2 X (binaryOp .Mult) dMul := by
  intro pins s σ H x y v u Q I rx ry h'
  obtain ⟨Fx, ι, σ', st, dx, dy, d, r, hx, hy, e, q⟩ := h'
  unfold dMul at e
  split at e
  · rename_i t n
    split at e
    · rename_i hc
      cases e
      obtain ⟨rfl, ok⟩ := rep_str hx
      cases rep_int hy
      obtain ⟨t1, rfl⟩ := (show ∃ t', v = Value.str _ t' from rx)
      obtain ⟨t2, rfl⟩ := (show ∃ t', u = Value.int n t' from ry)
      have hn0 := hc.1
      have hn1 := hc.2.1
      have hl := hc.2.2
      have ok2 := ok.reps hl
      have tl : ∀ k, k ≤ lim → Builtin.Str.tooLong k = false := fun k hk => by
        have := Nat.le_trans hk lim_line
        unfold Builtin.Str.tooLong
        exact decide_eq_false (by omega)
      have fin : ∀ {z : Value} {s2 : Shared}, Inv X pins σ H s2 → (∃ t', z = .str ⟨((List.replicate n.toNat t).flatten).toArray⟩ t') → EP X pins σ Q z s2 := fun {z s2} J hz =>
        ⟨.str ⟨((List.replicate n.toNat t).flatten).toArray⟩, H, J, hz, q _ H (Grow.refl H) (mk_str ok2)⟩
      refine PySem.P.mul_str (by rw [decide_eq_false (by omega), decide_eq_false (by omega)]; rfl) (fun h1 h2 => ?_) (fun h1 h2 => ?_) ?_
      · rw [str_len]
        have h3 : (1 : Int) ≤ n := by omega
        have h4 := ok.len
        have h5 : (2 ^ 63 - 1) / (1000001 : Int) ≤ (2 ^ 63 - 1) / n := Int.le_ediv_of_mul_le (by omega) (by
          have h6 : (2 ^ 63 - 1) / (1000001 : Int) * n ≤ (2 ^ 63 - 1) / (1000001 : Int) * 1000001 := Int.mul_le_mul_of_nonneg_left (by omega) (by decide)
          have h7 : (2 ^ 63 - 1) / (1000001 : Int) * 1000001 ≤ 2 ^ 63 - 1 := by decide
          omega)
        have h8 : ((2 ^ 63 - 1) / (1000001 : Int)) = 9223362813491 := by decide
        have h9 : lim = 16000000 := rfl
        omega
      · rw [str_len]
        exact tl _ hl
      · split
        · rename_i h1
          have h2 : n.toNat = 0 := by omega
          rw [h2] at fin
          exact ⟨by decide, fin (I.tok _) ⟨_, rfl⟩⟩
        · split
          · rename_i h1 h2
            simp only [Bool.or_eq_true, beq_iff_eq] at h2
            have h3 : (List.replicate n.toNat t).flatten = t := by
              rcases h2 with h2 | h2
              · rw [h2]
                simp
              · rw [str_len] at h2
                have : t = [] := List.length_eq_zero_iff.mp h2
                subst this
                simp
            rw [h3] at fin
            exact fin I ⟨_, rfl⟩
          · rename_i h1 h2
            rw [rep_flat]
            refine ⟨?_, fin (I.tok _) ⟨_, rfl⟩⟩
            exact ok2.line
    · cases e
  · rename_i xs n
    split at e
    · rename_i hc
      cases e
      obtain ⟨a1, v1, e1, t1, n1, p1⟩ := rep_lst hx
      subst e1
      cases rep_int hy
      refine op_rep pins s σ H _ _ v u Q I rx ry ⟨a1, n, v1, rfl, rfl, t1, by omega, by omega, by rw [← p1.length]; exact Nat.le_trans hc.2.2 lim_line, fun p hp => ?_⟩
      exact q _ _ (Grow.new hp) (r.newLst hp (repAll_rep p1 _))
    · cases e
  · rename_i xs n
    split at e
    · rename_i hc
      cases e
      obtain ⟨a1, v1, e1, t1, p1⟩ := rep_tup hx
      subst e1
      cases rep_int hy
      refine op_repT pins s σ H _ _ v u Q I rx ry ⟨a1, n, v1, rfl, rfl, t1.sq, fun z => hc.2.2.2 (by rw [p1.length, z]; rfl), hc.1, hc.2.1, by rw [← p1.length]; exact hc.2.2.1, fun p hp => ?_⟩
      exact q _ _ (Grow.new hp) (r.newTup hp (repAll_rep p1 _))
    · cases e
  · exact opMulI pins s σ H _ _ v u Q I rx ry ⟨Fx, ι, σ', st, dx, dy, d, r, hx, hy, e, q⟩
theorem opDiv : Op2 X (binaryOp .FloorDiv) dDiv := opInt (C := fun i j => 0 < j ∧ j.natAbs < big) (k := fun i j => i / j) op_fdivW (fun i j h => ⟨h.1, by have := big_log h.2; omega⟩) fun mu x y d e => by
  unfold dDiv at e
  split at e
  · rename_i i j
    split at e
    · rename_i hc
      cases e
      exact ⟨i, j, rfl, rfl, hc, rfl⟩
    · cases e
  · cases e
theorem opMod : Op2 X (binaryOp .Mod) dMod := opInt (C := fun i j => 0 < j) (k := fun i j => i % j) op_mod (fun i j h => h) fun mu x y d e => by
  unfold dMod at e
  split at e
  · rename_i i j
    split at e
    · rename_i hc
      cases e
      exact ⟨i, j, rfl, rfl, hc, rfl⟩
    · cases e
  · cases e
theorem opPow : Op2 X (binaryOp .Pow) dPow := opInt (C := fun i j => 0 ≤ j ∧ j ≤ 1000000 ∧ i.natAbs < 2 ^ 64) (k := fun i j => i ^ j.toNat) op_pow (fun i j h => h) fun mu x y d e => by
  unfold dPow at e
  split at e
  · rename_i i j
    split at e
    · rename_i hc
      cases e
      exact ⟨i, j, rfl, rfl, hc, rfl⟩
    · cases e
  · cases e
theorem opShr : Op2 X (binaryOp .RShift) dShr := opInt (C := fun i j => 0 ≤ j) (k := fun i j => i / 2 ^ j.toNat) op_shr (fun i j h => h) fun mu x y d e => by
  unfold dShr at e
  split at e
  · rename_i i j
    split at e
    · rename_i hc
      cases e
      exact ⟨i, j, rfl, rfl, hc, rfl⟩
    · cases e
  · cases e
theorem opBin : ∀ op, Op2 X (binaryOp op) (dBin op)
  | .Add => opAdd
  | .Sub => opSub
  | .Mult => opMul
  | .FloorDiv => opDiv
  | .Mod => opMod
  | .Pow => opPow
  | .RShift => opShr
  | .MatMult | .Div | .LShift | .BitOr | .BitXor | .BitAnd => op_none
/-! ### comparisons -/
mutual
def pyOf : D → PyData
  | .non => .none
  | .bl b => .bool b
  | .int i => .int i
  | .str s => .str ⟨s.toArray⟩
  | .tup xs => .tuple (pyAll xs)
  | .lst xs => .list (pyAll xs)
  | .lk xs => .list (pyAll xs)
  | .ref _ => .none
def pyAll : List D → List PyData
  | [] => []
  | x :: xs => pyOf x :: pyAll xs
end
mutual
/-- no cells within -/
def isData : D → Bool
  | .tup xs => isDataAll xs
  | .lst xs => isDataAll xs
  | .lk xs => isDataAll xs
  | .ref _ => false
  | _ => true
def isDataAll : List D → Bool
  | [] => true
  | x :: xs => isData x && isDataAll xs
end
mutual
/-- how deep -/
def dep : D → Nat
  | .tup xs => depAll xs + 1
  | .lst xs => depAll xs + 1
  | .lk xs => depAll xs + 1
  | _ => 0
def depAll : List D → Nat
  | [] => 0
  | x :: xs => max (dep x) (depAll xs)
end
section
variable {K : PySem.W.Frag} {H : Hp} {Fx : Addr → Prop} {ι : Io}
mutual
theorem dp_of : ∀ (d : D) (v : V), Rep K H Fx ι d v → isData d = true → Dp K H v (pyOf d)
  | .non, v, h, _ => by cases rep_non h; exact .non
  | .bl b, v, h, _ => by cases rep_bl h; exact .bl b
  | .int i, v, h, _ => by cases rep_int h; exact .int i
  | .str s, v, h, _ => by obtain ⟨e, _⟩ := rep_str h; subst e; exact .str _
  | .tup ds, v, h, k => by
    obtain ⟨a, vs, e, t, p⟩ := rep_tup h
    subst e
    exact .tup t.sq (dp_all ds vs p (by simpa only [isData] using k))
  | .lst ds, v, h, k => by
    obtain ⟨a, vs, e, t, n, p⟩ := rep_lst h
    subst e
    exact .lst (SqL.of t) (dp_all ds vs p (by simpa only [isData] using k))
  | .lk ds, v, h, k => by
    obtain ⟨a, vs, e, t, p⟩ := rep_lk h
    subst e
    exact .lst t.sq (dp_all ds vs p (by simpa only [isData] using k))
  | .ref n, v, h, k => by simp only [isData] at k; cases k
theorem dp_all : ∀ (ds : List D) (vs : List V), RepAll K H Fx ι ds vs → isDataAll ds = true → DpAll K H vs (pyAll ds)
  | [], vs, h, _ => by simp only [RepAll] at h; subst h; exact .nil
  | d :: ds, vs, h, k => by
    simp only [RepAll] at h
    obtain ⟨v, r, e, h1, h2⟩ := h
    subst e
    simp only [isDataAll, Bool.and_eq_true] at k
    exact .cons (dp_of d v h1 k.1) (dp_all ds r h2 k.2)
end
mutual
theorem lay_of : ∀ (d : D) (v : V), Rep K H Fx ι d v → (pyOf d).canLay0 = true
  | .non, v, h => by simp only [pyOf, PyData.canLay0]
  | .bl b, v, h => by simp only [pyOf, PyData.canLay0]
  | .int i, v, h => by simp only [pyOf, PyData.canLay0]
  | .str s, v, h => by
    obtain ⟨e, o⟩ := rep_str h
    simp only [pyOf, PyData.canLay0]
    unfold PyData.strOk
    rw [Array.all_eq_true]
    intro i hi
    simp only [decide_eq_true_eq]
    exact o.cps _ (by simp)
  | .tup ds, v, h => by
    obtain ⟨a, vs, e, t, p⟩ := rep_tup h
    simp only [pyOf, PyData.canLay0]
    exact lay_all ds vs p
  | .lst ds, v, h => by
    obtain ⟨a, vs, e, t, n, p⟩ := rep_lst h
    simp only [pyOf, PyData.canLay0]
    exact lay_all ds vs p
  | .lk ds, v, h => by
    obtain ⟨a, vs, e, t, p⟩ := rep_lk h
    simp only [pyOf, PyData.canLay0]
    exact lay_all ds vs p
  | .ref n, v, h => by simp only [pyOf, PyData.canLay0]
theorem lay_all : ∀ (ds : List D) (vs : List V), RepAll K H Fx ι ds vs → PyData.canLayAll0 (pyAll ds) = true
  | [], vs, h => by simp only [pyAll, PyData.canLayAll0]
  | d :: ds, vs, h => by
    simp only [RepAll] at h
    obtain ⟨v, r, e, h1, h2⟩ := h
    simp only [pyAll, PyData.canLayAll0, Bool.and_eq_true]
    exact ⟨lay_of d v h1, lay_all ds r h2⟩
end
end
mutual
theorem dep_of : ∀ d : D, (pyOf d).depth = dep d
  | .non => by simp only [pyOf, dep, PyData.depth]
  | .bl _ => by simp only [pyOf, dep, PyData.depth]
  | .int _ => by simp only [pyOf, dep, PyData.depth]
  | .str _ => by simp only [pyOf, dep, PyData.depth]
  | .tup xs => by simp only [pyOf, dep, PyData.depth, dep_all xs]; try omega
  | .lst xs => by simp only [pyOf, dep, PyData.depth, dep_all xs]; try omega
  | .lk xs => by simp only [pyOf, dep, PyData.depth, dep_all xs]; try omega
  | .ref _ => by simp only [pyOf, dep, PyData.depth]
theorem dep_all : ∀ ds : List D, PyData.depthAll (pyAll ds) = depAll ds
  | [] => by simp only [pyAll, depAll, PyData.depthAll]
  | d :: ds => by simp only [pyAll, depAll, PyData.depthAll, dep_of d, dep_all ds]
end
/-- what may be compared -/
def canEq (d : D) : Bool := isData d && decide (dep d ≤ 60)
def eqv (x y : D) : Bool := PyData.eqv (pyOf x) (pyOf y)
def dEq (_ : List Cell) (x y : D) : Option D := if canEq x && canEq y then some (.bl (eqv x y)) else none
def dNe (_ : List Cell) (x y : D) : Option D := if canEq x && canEq y then some (.bl (!eqv x y)) else none
theorem shaped_of {K : PySem.W.Frag} {H : Hp} {Fx : Addr → Prop} {ι : Io} {d : D} {v : V} (h : Rep K H Fx ι d v) (c : canEq d = true) : Dp K H v (pyOf d) ∧ SeqAt.shaped (pyOf d) = true := by
  unfold canEq at c
  simp only [Bool.and_eq_true, decide_eq_true_eq] at c
  refine ⟨dp_of d v h c.1, ?_⟩
  unfold SeqAt.shaped
  rw [lay_of d v h, dep_of d]
  simp
  omega
theorem opEq (hu : X.A.units + 64 < cLine) : Op2 X (compareOp .Eq) dEq := by
  intro pins s σ H x y v u Q I rx ry h'
  obtain ⟨Fx, ι, σ', st, dx, dy, d, r, hx, hy, e, q⟩ := h'
  unfold dEq at e
  split at e
  · rename_i hc
    cases e
    simp only [Bool.and_eq_true] at hc
    obtain ⟨a1, a2⟩ := shaped_of hx hc.1
    obtain ⟨b1, b2⟩ := shaped_of hy hc.2
    exact op_eqD hu pins s σ H _ _ v u Q I rx ry ⟨_, _, a1, b1, a2, b2, q _ H (Grow.refl H) mk_bl⟩
  · cases e
theorem opNe (hu : X.A.units + 64 < cLine) : Op2 X (compareOp .NotEq) dNe := by
  intro pins s σ H x y v u Q I rx ry h'
  obtain ⟨Fx, ι, σ', st, dx, dy, d, r, hx, hy, e, q⟩ := h'
  unfold dNe at e
  split at e
  · rename_i hc
    cases e
    simp only [Bool.and_eq_true] at hc
    obtain ⟨a1, a2⟩ := shaped_of hx hc.1
    obtain ⟨b1, b2⟩ := shaped_of hy hc.2
    exact op_neD hu pins s σ H _ _ v u Q I rx ry ⟨_, _, a1, b1, a2, b2, q _ H (Grow.refl H) mk_bl⟩
  · cases e
def dOrd (k : Int → Int → Bool) (_ : List Cell) : D → D → Option D
  | .int i, .int j => some (.bl (k i j))
  | _, _ => none
theorem opOrd {f : Value → Value → Sem Value} {k : Int → Int → Bool} (h : OpR X f (rI0 fun i j => .bl (k i j))) : Op2 X f (dOrd k) := by
  intro pins s σ H x y v u Q I rx ry h'
  obtain ⟨Fx, ι, σ', st, dx, dy, d, r, hx, hy, e, q⟩ := h'
  unfold dOrd at e
  split at e
  · rename_i i j
    cases e
    cases rep_int hx
    cases rep_int hy
    exact h pins s σ H _ _ v u Q I rx ry ⟨i, j, rfl, rfl, q _ H (Grow.refl H) mk_bl⟩
  · cases e
/-- <= of numbers, of single signs -/
def dLe (_ : List Cell) : D → D → Option D
  | .int i, .int j => some (.bl (decide (i ≤ j)))
  | .str [a], .str [b] => some (.bl (decide (a ≤ b)))
  | _, _ => none
theorem opLe : Op2 X (compareOp .LtE) dLe := by
  intro pins s σ H x y v u Q I rx ry h'
  obtain ⟨Fx, ι, σ', st, dx, dy, d, r, hx, hy, e, q⟩ := h'
  unfold dLe at e
  split at e
  · rename_i i j
    cases e
    cases rep_int hx
    cases rep_int hy
    exact op_le pins s σ H _ _ v u Q I rx ry ⟨i, j, rfl, rfl, q _ H (Grow.refl H) mk_bl⟩
  · rename_i a b
    cases e
    obtain ⟨e1, _⟩ := rep_str hx
    obtain ⟨e2, _⟩ := rep_str hy
    subst e1 e2
    refine op_le_str pins s σ H _ _ v u Q I rx ry ⟨_, _, rfl, rfl, ?_⟩
    have e : (!decide ([b] < [a])) = decide (a ≤ b) := by
      by_cases h : a ≤ b
      · have h2 : ¬ [b] < [a] := by
          rw [List.cons_lt_cons_iff]
          rintro (h3 | ⟨_, h3⟩)
          · omega
          · cases h3
        simp [h, h2]
      · have h2 : [b] < [a] := List.cons_lt_cons_iff.mpr (.inl (by omega))
        simp [h, h2]
    show Q (.bl (!decide ([b] < [a]))) H
    rw [e]
    exact q _ H (Grow.refl H) mk_bl
  · cases e
/-- flat things -/
def flatD : D → Bool
  | .non | .bl _ | .int _ | .str _ => true
  | _ => false
def dInL (x : D) (xs : List D) : Bool := xs.any fun y => eqv y x
/-- where a text begins in another one, first -/
def atB (t s : List Nat) (i : Nat) : Bool := (t.drop i).take s.length == s
def subIx (t s : List Nat) : Option Nat := (List.range (t.length + 1)).find? (atB t s)
theorem at_iff (t s : List Nat) (i : Nat) : PySem.StrLaws.At (⟨t.toArray⟩ : Str) ⟨s.toArray⟩ (⟨t.toArray⟩ : Str).length i ↔ i < t.length + 1 ∧ atB t s i = true := by
  have h1 : (⟨t.toArray⟩ : Str).length = t.length := by simp [Str.length]
  have h2 : (⟨s.toArray⟩ : Str).length = s.length := by simp [Str.length]
  unfold PySem.StrLaws.At atB
  rw [PySem.StrLaws.subAt_eq, h1, h2]
  have h3 : (⟨t.toArray⟩ : Str).cps.toList = t := by simp
  have h4 : (⟨s.toArray⟩ : Str).cps.toList = s := by simp
  rw [h3, h4]
  constructor
  · rintro ⟨a, b⟩
    exact ⟨by omega, b⟩
  · rintro ⟨a, b⟩
    refine ⟨?_, b⟩
    have := congrArg List.length (eq_of_beq b)
    rw [List.length_take, List.length_drop] at this
    omega
theorem occ_sub (t s : List Nat) : (PySem.Builtin.Str.occurrences (⟨t.toArray⟩ : Str) ⟨s.toArray⟩ 0 (⟨t.toArray⟩ : Str).length 1 = [] ∧ subIx t s = none) ∨ ∃ i rest, PySem.Builtin.Str.occurrences (⟨t.toArray⟩ : Str) ⟨s.toArray⟩ 0 (⟨t.toArray⟩ : Str).length 1 = i :: rest ∧ subIx t s = some i := by
  rcases PySem.StrLaws.occ_head (⟨t.toArray⟩ : Str) ⟨s.toArray⟩ 1 (Nat.le_refl 1) with ⟨e, n⟩ | ⟨i, rest, eo, h1, h2⟩
  · refine .inl ⟨e, ?_⟩
    unfold subIx
    rw [List.find?_eq_none]
    intro i hi z
    exact n i ((at_iff t s i).mpr ⟨List.mem_range.mp hi, z⟩)
  · refine .inr ⟨i, rest, eo, ?_⟩
    unfold subIx
    obtain ⟨k1, k2⟩ := (at_iff t s i).mp h1
    rw [List.find?_range_eq_some]
    refine ⟨k2, List.mem_range.mpr k1, fun j hj => ?_⟩
    cases hb : atB t s j with
    | false => rfl
    | true => exact absurd ((at_iff t s j).mpr ⟨by omega, hb⟩) (h2 j hj)
def dIn (_ : List Cell) (x y : D) : Option D := match y with
  | .str t => match x with
    | .str [c] => some (.bl (t.contains c))
    | .str s => some (.bl (subIx t s).isSome)
    | _ => none
  | .tup xs => if flatD x && xs.all flatD then some (.bl (dInL x xs)) else none
  | .lst xs => if flatD x && xs.all flatD then some (.bl (dInL x xs)) else none
  | _ => none
def dNotIn (mu : List Cell) (x y : D) : Option D := match dIn mu x y with
  | some (.bl b) => some (.bl (!b))
  | _ => none
theorem flat_of {K : PySem.W.Frag} {H : Hp} {Fx : Addr → Prop} {ι : Io} {d : D} {v : V} (h : Rep K H Fx ι d v) (f : flatD d = true) : flatV v = true := by
  cases d with
  | non => cases rep_non h; rfl
  | bl b => cases rep_bl h; rfl
  | int i => cases rep_int h; rfl
  | str s => obtain ⟨e, _⟩ := rep_str h; subst e; rfl
  | tup _ => cases f
  | lst _ => cases f
  | lk _ => cases f
  | ref _ => cases f
theorem eqv_of {K : PySem.W.Frag} {H : Hp} {Fx : Addr → Prop} {ι : Io} {d e : D} {v w : V} (h : Rep K H Fx ι d v) (f : flatD d = true) (h' : Rep K H Fx ι e w) (f' : flatD e = true) : eqV v w = eqv d e := by
  cases d with
  | non => cases rep_non h; cases e with
    | non => cases rep_non h'; simp only [eqV, eqv, pyOf, PyData.eqv]
    | bl b => cases rep_bl h'; simp only [eqV, eqv, pyOf, PyData.eqv]
    | int i => cases rep_int h'; simp only [eqV, eqv, pyOf, PyData.eqv]
    | str s => obtain ⟨z, _⟩ := rep_str h'; subst z; simp only [eqV, eqv, pyOf, PyData.eqv]
    | _ => cases f'
  | bl b => cases rep_bl h; cases e with
    | non => cases rep_non h'; simp only [eqV, eqv, pyOf, PyData.eqv]
    | bl b => cases rep_bl h'; simp only [eqV, eqv, pyOf, PyData.eqv]
    | int i => cases rep_int h'; simp only [eqV, eqv, pyOf, PyData.eqv]
    | str s => obtain ⟨z, _⟩ := rep_str h'; subst z; simp only [eqV, eqv, pyOf, PyData.eqv]
    | _ => cases f'
  | int i => cases rep_int h; cases e with
    | non => cases rep_non h'; simp only [eqV, eqv, pyOf, PyData.eqv]
    | bl b => cases rep_bl h'; simp only [eqV, eqv, pyOf, PyData.eqv]
    | int i => cases rep_int h'; simp only [eqV, eqv, pyOf, PyData.eqv]
    | str s => obtain ⟨z, _⟩ := rep_str h'; subst z; simp only [eqV, eqv, pyOf, PyData.eqv]
    | _ => cases f'
  | str s => obtain ⟨z0, _⟩ := rep_str h; subst z0; cases e with
    | non => cases rep_non h'; simp only [eqV, eqv, pyOf, PyData.eqv]
    | bl b => cases rep_bl h'; simp only [eqV, eqv, pyOf, PyData.eqv]
    | int i => cases rep_int h'; simp only [eqV, eqv, pyOf, PyData.eqv]
    | str s => obtain ⟨z, _⟩ := rep_str h'; subst z; simp only [eqV, eqv, pyOf, PyData.eqv]
    | _ => cases f'
  | _ => cases f
theorem inV_of {K : PySem.W.Frag} {H : Hp} {Fx : Addr → Prop} {ι : Io} {d : D} {v : V} (h : Rep K H Fx ι d v) (f : flatD d = true) : ∀ {ds : List D} {vs : List V}, RepAll K H Fx ι ds vs → ds.all flatD = true → vs.all flatV = true ∧ inV v vs = dInL d ds
  | [], vs, r, _ => by simp only [RepAll] at r; subst r; exact ⟨rfl, rfl⟩
  | e :: ds, vs, r, k => by
    simp only [RepAll] at r
    obtain ⟨w, ws, z, r1, r2⟩ := r
    subst z
    simp only [List.all_cons, Bool.and_eq_true] at k
    obtain ⟨q1, q2⟩ := inV_of h f r2 k.2
    refine ⟨by simp only [List.all_cons, Bool.and_eq_true]; exact ⟨flat_of r1 k.1, q1⟩, ?_⟩
    have e1 := eqv_of r1 k.1 h f
    unfold inV dInL at q2 ⊢
    simp only [List.any_cons]
    rw [e1, q2]
theorem opInNot (neg : Bool) (op : CmpOp) (hz : OpR X (compareOp op) fun x y H Q => ∃ i j, x = .str i ∧ y = .str j ∧ Q (.bl (if neg then !(!(PySem.Builtin.Str.occurrences j i 0 j.length 1).isEmpty) else !(PySem.Builtin.Str.occurrences j i 0 j.length 1).isEmpty)) H) (hs : OpR X (compareOp op) fun x y H Q => ∃ c z, x = .str ⟨#[c]⟩ ∧ y = .str z ∧ Q (.bl (if neg then !decide (c ∈ z.cps.toList) else decide (c ∈ z.cps.toList))) H) (hl : OpR X (compareOp op) (rIn X.K neg))
    {k : List Cell → D → D → Option D} (hk : ∀ mu x y d, k mu x y = some d → ∃ b, dIn mu x y = some (.bl b) ∧ d = .bl (if neg then !b else b)) : Op2 X (compareOp op) k := by
  intro pins s σ H x y v u Q I rx ry h'
  obtain ⟨Fx, ι, σ', st, dx, dy, d, r, hx, hy, e0, q⟩ := h'
  obtain ⟨b, e, rfl⟩ := hk _ _ _ _ e0
  unfold dIn at e
  split at e
  · rename_i t
    split at e
    · rename_i c
      cases e
      obtain ⟨ex, _⟩ := rep_str hx
      obtain ⟨ey, _⟩ := rep_str hy
      subst ex ey
      refine hs pins s σ H _ _ v u Q I rx ry ⟨c, _, rfl, rfl, ?_⟩
      have : decide (c ∈ (⟨t.toArray⟩ : Str).cps.toList) = t.contains c := by simp
      rw [this]
      exact q _ H (Grow.refl H) mk_bl
    · rename_i z _
      cases e
      obtain ⟨ex, _⟩ := rep_str hx
      obtain ⟨ey, _⟩ := rep_str hy
      subst ex ey
      refine hz pins s σ H _ _ v u Q I rx ry ⟨_, _, rfl, rfl, ?_⟩
      have : (!(PySem.Builtin.Str.occurrences (⟨t.toArray⟩ : Str) ⟨z.toArray⟩ 0 (⟨t.toArray⟩ : Str).length 1).isEmpty) = (subIx t z).isSome := by
        rcases occ_sub t z with ⟨e1, e2⟩ | ⟨i, r, e1, e2⟩ <;> rw [e1, e2] <;> rfl
      rw [this]
      exact q _ H (Grow.refl H) mk_bl
    · cases e
  · rename_i xs
    split at e
    · rename_i hc
      cases e
      simp only [Bool.and_eq_true] at hc
      obtain ⟨a2, v2, e2, t2, p2⟩ := rep_tup hy
      subst e2
      obtain ⟨q1, q2⟩ := inV_of hx hc.1 p2 hc.2
      refine hl pins s σ H _ _ v u Q I rx ry ⟨a2, v2, rfl, .inr t2.sq, flat_of hx hc.1, q1, ?_⟩
      rw [q2]
      exact q _ H (Grow.refl H) mk_bl
    · cases e
  · rename_i xs
    split at e
    · rename_i hc
      cases e
      simp only [Bool.and_eq_true] at hc
      obtain ⟨a2, v2, e2, t2, n2, p2⟩ := rep_lst hy
      subst e2
      obtain ⟨q1, q2⟩ := inV_of hx hc.1 p2 hc.2
      refine hl pins s σ H _ _ v u Q I rx ry ⟨a2, v2, rfl, .inl (SqL.of t2), flat_of hx hc.1, q1, ?_⟩
      rw [q2]
      exact q _ H (Grow.refl H) mk_bl
    · cases e
  · cases e
theorem opIn : Op2 X (compareOp .In) dIn := opInNot false .In op_in_str op_in_sign op_in_seq fun mu x y d e => by
  unfold dIn at e ⊢
  split at e
  · split at e
    · cases e
      exact ⟨_, rfl, rfl⟩
    · rename_i z hz
      cases e
      exact ⟨_, rfl, rfl⟩
    · cases e
  · split at e
    · rename_i c
      cases e
      rw [if_pos c]
      exact ⟨_, rfl, rfl⟩
    · cases e
  · split at e
    · rename_i c
      cases e
      rw [if_pos c]
      exact ⟨_, rfl, rfl⟩
    · cases e
  · cases e
theorem opNotIn : Op2 X (compareOp .NotIn) dNotIn := opInNot true .NotIn op_notin_str op_notIn_sign op_notIn_seq fun mu x y d e => by
  unfold dNotIn at e
  split at e
  · rename_i b eb
    cases e
    exact ⟨b, eb, rfl⟩
  · cases e
/-- is None -/
def isNon : D → Bool
  | .non => true
  | _ => false
def isBl : D → D → Option Bool
  | .bl a, .bl b => some (a == b)
  | _, _ => none
def dIsN (_ : List Cell) (x y : D) : Option D := if isNon y then some (.bl (isNon x)) else (isBl x y).map .bl
def dIsNotN (_ : List Cell) (x y : D) : Option D := if isNon y then some (.bl (!isNon x)) else (isBl x y).map fun b => .bl (!b)
theorem isBl_of {x y : D} {b : Bool} (h : isBl x y = some b) : ∃ p q, x = .bl p ∧ y = .bl q ∧ b = (p == q) := by
  unfold isBl at h
  split at h
  · cases h; exact ⟨_, _, rfl, rfl, rfl⟩
  · cases h
theorem val_bb (p q : Bool) : (Value.bool p == Value.bool q) = (p == q) := by cases p <;> cases q <;> rfl
theorem rep_isN {K : PySem.W.Frag} {H : Hp} {Fx : Addr → Prop} {ι : Io} {d : D} {v : V} (h : Rep K H Fx ι d v) : decide (v = .non) = isNon d := by
  cases d with
  | non => cases rep_non h; rfl
  | bl b => cases rep_bl h; rfl
  | int i => cases rep_int h; rfl
  | str s => obtain ⟨e, _⟩ := rep_str h; subst e; rfl
  | tup _ => obtain ⟨a, vs, e, _⟩ := rep_tup h; subst e; rfl
  | lst _ => obtain ⟨a, vs, e, _⟩ := rep_lst h; subst e; rfl
  | lk _ => obtain ⟨a, vs, e, _⟩ := rep_lk h; subst e; rfl
  | ref _ => obtain ⟨a, e, _⟩ := rep_ref h; subst e; rfl
theorem isNon_eq {d : D} (h : isNon d = true) : d = .non := by
  cases d <;> first | rfl | cases h
theorem opIsN : Op2 X (compareOp .Is) dIsN := by
  intro pins s σ H x y v u Q I rx ry h'
  obtain ⟨Fx, ι, σ', st, dx, dy, d, r, hx, hy, e, q⟩ := h'
  unfold dIsN at e
  split at e
  · rename_i hn
    cases e
    cases isNon_eq hn
    refine op_isN pins s σ H _ _ v u Q I rx ry ⟨rep_non hy, ?_⟩
    rw [rep_isN hx]
    exact q _ H (Grow.refl H) mk_bl
  · cases z : isBl dx dy with
    | none =>
      rw [z] at e
      cases e
    | some b =>
      rw [z] at e
      cases e
      obtain ⟨p, p2, rfl, rfl, rfl⟩ := isBl_of z
      cases rep_bl hx
      cases rep_bl hy
      cases rx
      cases ry
      refine wpAny_is_plain rfl (fin_bl I (q _ H (Grow.refl H) mk_bl) ?_)
      rw [val_bb]
theorem opIsNotN : Op2 X (compareOp .IsNot) dIsNotN := by
  intro pins s σ H x y v u Q I rx ry h'
  obtain ⟨Fx, ι, σ', st, dx, dy, d, r, hx, hy, e, q⟩ := h'
  unfold dIsNotN at e
  split at e
  · rename_i hn
    cases e
    cases isNon_eq hn
    refine op_notN pins s σ H _ _ v u Q I rx ry ⟨rep_non hy, ?_⟩
    rw [rep_isN hx]
    exact q _ H (Grow.refl H) mk_bl
  · cases z : isBl dx dy with
    | none =>
      rw [z] at e
      cases e
    | some b =>
      rw [z] at e
      cases e
      obtain ⟨p, p2, rfl, rfl, rfl⟩ := isBl_of z
      cases rep_bl hx
      cases rep_bl hy
      cases rx
      cases ry
      refine wpAny_isNot_plain rfl (fin_bl I (q _ H (Grow.refl H) mk_bl) ?_)
      rw [val_bb]
def dCmp : CmpOp → List Cell → D → D → Option D
  | .Eq => dEq
  | .NotEq => dNe
  | .Lt => dOrd fun i j => decide (i < j)
  | .LtE => dLe
  | .Gt => dOrd fun i j => decide (j < i)
  | .GtE => dOrd fun i j => decide (j ≤ i)
  | .In => dIn
  | .NotIn => dNotIn
  | .Is => dIsN
  | .IsNot => dIsNotN
theorem opCmp (hu : X.A.units + 64 < cLine) : ∀ op, Op2 X (compareOp op) (dCmp op)
  | .Eq => opEq hu
  | .NotEq => opNe hu
  | .Lt => opOrd op_lt
  | .LtE => opLe
  | .Gt => opOrd op_gt
  | .GtE => opOrd op_ge
  | .In => opIn
  | .NotIn => opNotIn
  | .Is => opIsN
  | .IsNot => opIsNotN
end
end Pv
/-! Pv4: reads of slots without freezing; subscripts, slices, built-in calls, methods of texts. -/
namespace Pv
open PySem PySem.Spec L2
/-- a value that is only looked at -/
def RepB (K : W.Frag) (H : Hp) (Fx : Addr → Prop) (ι : Io) (d : D) (v : V) : Prop :=
  Rep K H Fx ι d v ∨ ∃ xs a vs, d = .lst xs ∧ v = .ref a ∧ H a = some (.lst vs) ∧ RepAll K H Fx ι xs vs
def rd (st : ES) (i : Nat) : Option D := match st.sl[i]? with
  | some (.va d) => some d
  | some (.ac xs) => some (.lst xs)
  | _ => none
theorem SRel.rd {g : Gx} {Fx : Addr → Prop} {ι : Io} {H : Hp} {σ : L2.St} {st : ES} (r : SRel g Fx ι H σ st) {i : Nat} {d : D} (h : rd st i = some d) : ∃ v, σ[i]? = some (some v) ∧ RepB g.K H Fx ι d v := by
  unfold Pv.rd at h
  split at h
  · rename_i d' e
    cases h
    obtain ⟨v, e1, rp⟩ := r.va i _ e
    exact ⟨v, e1, .inl rp⟩
  · rename_i xs e
    cases h
    obtain ⟨a, vs, h1, h2, h3, h4⟩ := r.ac i xs e
    exact ⟨.ref a, h2, .inr ⟨xs, a, vs, rfl, rfl, h3, h4⟩⟩
  · cases h
section
variable {K : PySem.W.Frag} {H H' : Hp} {Fx : Addr → Prop} {ι : Io} {v : V} {d : D}
theorem repB_lst {xs : List D} (h : RepB K H Fx ι (.lst xs) v) : ∃ a vs, v = .ref a ∧ H a = some (.lst vs) ∧ RepAll K H Fx ι xs vs := by
  rcases h with h | ⟨ys, a, vs, e1, e2, h1, h2⟩
  · obtain ⟨a, vs, e, h1, n, h2⟩ := rep_lst h
    exact ⟨a, vs, e, h1, h2⟩
  · cases e1
    exact ⟨a, vs, e2, h1, h2⟩
theorem repB_of (h : RepB K H Fx ι d v) (n : ∀ xs, d ≠ .lst xs) : Rep K H Fx ι d v := by
  rcases h with h | ⟨ys, a, vs, e1, e2, h1, h2⟩
  · exact h
  · exact absurd e1 (n ys)
end
/-- an operation whose first value is only looked at -/
def Op2B (X : Cx) (P : R2 → Prop) (k : List Cell → D → D → Option D) : Prop :=
  P fun x y H Q => ∃ Fx ι σ st dx dy d, SRel (gx X) Fx ι H σ st ∧ RepB X.K H Fx ι dx x ∧ Rep X.K H Fx ι dy y ∧ k st.mu dx dy = some d ∧ ∀ v H', Grow H H' → Rep X.K H' Fx ι d v → Q v H'
def mOpV (k : List Cell → D → D → Option D) (i : Nat) (g : M D) : M D := fun st => match rd st i with
  | none => .bad
  | some _ => (g st).bind fun y st2 => match rd st2 i with
    | none => .bad
    | some x => (match k st2.mu x y with
      | some d => .ok d st2
      | none => .bad)
section
variable {X : Cx} {W : WX} {e a b c : Expr} {f fa fb : M D} {pos : Pos}
theorem tE_opV {g : Gx} {σ : L2.St} {H : Hp} {Q : VK} {i : Nat} {k : List Cell → D → D → Option D} (h : tE g W (mOpV k i fb) σ H Q) :
    tOp (fun x y H Q => ∃ Fx ι σ st dx dy d, SRel g Fx ι H σ st ∧ RepB g.K H Fx ι dx x ∧ Rep g.K H Fx ι dy y ∧ k st.mu dx dy = some d ∧ ∀ v H', Grow H H' → Rep g.K H' Fx ι d v → Q v H') (tVar i) (tE g W fb) σ H Q := by
  obtain ⟨Fx, ι, st, r, q⟩ := h
  unfold mOpV at q
  cases e1 : rd st i with
  | none =>
    simp only [e1] at q
    exact q.elim
  | some d1 =>
    simp only [e1] at q
    obtain ⟨v, hv, _⟩ := r.rd e1
    refine ⟨v, hv, Fx, ι, st, r, q.bind.imp fun dy ι1 H1 st1 s1 r1 q1 y ry => ?_⟩
    cases e2 : rd st1 i with
    | none =>
      simp only [e2] at q1
      exact q1.elim
    | some dx =>
      simp only [e2] at q1
      obtain ⟨v', hv', rb⟩ := r1.rd e2
      rw [hv] at hv'
      cases hv'
      cases e3 : k st1.mu dx dy with
      | none =>
        simp only [e3] at q1
        exact q1.elim
      | some d =>
        simp only [e3] at q1
        exact ⟨Fx, ι1, σ, st1, dx, dy, d, r1, rb, ry, e3, fun w H' gr rp => q1 ι1 H' gr.step (r1.same gr) w rp⟩
theorem Op2B.op2 {P : R2 → Prop} {k : List Cell → D → D → Option D} (h : Op2B X P k) (hP : ∀ r r' : R2, (∀ x y H Q, r' x y H Q → r x y H Q) → P r → P r') :
    P fun x y H Q => ∃ Fx ι σ st dx dy d, SRel (gx X) Fx ι H σ st ∧ Rep X.K H Fx ι dx x ∧ Rep X.K H Fx ι dy y ∧ k st.mu dx dy = some d ∧ ∀ v H', Grow H H' → Rep X.K H' Fx ι d v → Q v H' :=
  hP _ _ (fun x y H Q ⟨Fx, ι, σ, st, dx, dy, d, r, h1, h2, h3, h4⟩ => ⟨Fx, ι, σ, st, dx, dy, d, r, .inl h1, h2, h3, h4⟩) h
/-! ### subscripts -/
def dIx (_ : List Cell) (x y : D) : Option D := match y with
  | .int i => (match x with
    | .lst xs => atI xs i
    | .lk xs => atI xs i
    | .tup xs => atI xs i
    | .str s => (atI s i).map fun c => .str [c]
    | _ => none)
  | _ => none
theorem atI_len {α β : Type} {xs : List α} {ys : List β} (h : xs.length = ys.length) {i : Int} {x : α} (e : atI xs i = some x) : ∃ j y, ixN ys.length i = some j ∧ xs[j]? = some x ∧ ys[j]? = some y ∧ atI ys i = some y := by
  unfold atI at e ⊢
  rw [h] at e
  cases q : ixN ys.length i with
  | none =>
    rw [q] at e
    cases e
  | some j =>
    rw [q] at e
    have e' : xs[j]? = some x := e
    have hj : j < ys.length := by rw [← h]; exact (List.getElem?_eq_some_iff.mp e').1
    exact ⟨j, ys[j], rfl, e', by simp [hj], by show ys[j]? = _; simp [hj]⟩
theorem rep_at {K : PySem.W.Frag} {H : Hp} {Fx : Addr → Prop} {ι : Io} {xs : List D} {vs : List V} (h : RepAll K H Fx ι xs vs) {i : Int} {d : D} (e : atI xs i = some d) : ∃ v, atI vs i = some v ∧ Rep K H Fx ι d v := by
  obtain ⟨j, y, h1, h2, h3, h4⟩ := atI_len h.length e
  obtain ⟨v, g1, g2⟩ := h.get h2
  rw [h3] at g1
  cases g1
  exact ⟨_, h4, g2⟩
theorem atI_mem {α : Type} {xs : List α} {i : Int} {x : α} (e : atI xs i = some x) : x ∈ xs := by
  unfold atI at e
  cases q : ixN xs.length i with
  | none =>
    rw [q] at e
    cases e
  | some j =>
    rw [q] at e
    exact List.mem_of_getElem? e
theorem ixB : Op2B X (IxR X) dIx := by
  intro value slice pins s σ H x y v u Q I rx ry h' hs
  obtain ⟨Fx, ι, σ', st, dx, dy, d, r, hx, hy, e, q⟩ := h'
  unfold dIx at e
  split at e
  · rename_i i
    cases rep_int hy
    split at e
    · obtain ⟨p, vs, e1, h1, h2⟩ := repB_lst hx
      subst e1
      obtain ⟨w, k1, k2⟩ := rep_at h2 e
      exact ix_list value slice pins s σ H _ _ v u Q I rx ry ⟨p, vs, i, w, rfl, rfl, SqL.of h1, k1, q _ H (Grow.refl H) k2⟩ hs
    · obtain ⟨p, vs, e1, h1, h2⟩ := rep_lk (repB_of hx (by intro xs z; cases z))
      subst e1
      obtain ⟨w, k1, k2⟩ := rep_at h2 e
      exact ix_list value slice pins s σ H _ _ v u Q I rx ry ⟨p, vs, i, w, rfl, rfl, h1.sq, k1, q _ H (Grow.refl H) k2⟩ hs
    · obtain ⟨p, vs, e1, h1, h2⟩ := rep_tup (repB_of hx (by intro xs z; cases z))
      subst e1
      obtain ⟨w, k1, k2⟩ := rep_at h2 e
      exact ix_tup value slice pins s σ H _ _ v u Q I rx ry ⟨p, vs, i, w, rfl, rfl, h1.sq, k1, q _ H (Grow.refl H) k2⟩ hs
    · rename_i t
      obtain ⟨e1, o⟩ := rep_str (repB_of hx (by intro xs z; cases z))
      subst e1
      cases z : atI t i with
      | none =>
        rw [z] at e
        cases e
      | some c =>
        rw [z] at e
        cases e
        refine ix_str value slice pins s σ H _ _ v u Q I rx ry ⟨_, i, c, rfl, rfl, o.line, by simpa using z, q _ H (Grow.refl H) (mk_str (o.sub ?_ ?_))⟩ hs
        · have hc := atI_mem z
          have := List.length_pos_of_mem hc
          show 1 ≤ _
          omega
        · intro c' hc'
          cases List.mem_singleton.mp hc'
          exact atI_mem z
    · cases e
  · cases e
theorem IxR.imp (r r' : R2) (h : ∀ x y H Q, r' x y H Q → r x y H Q) (k : IxR X r) : IxR X r' := fun value slice pins s σ H x y v u Q I rx ry q hs => k value slice pins s σ H x y v u Q I rx ry (h _ _ _ _ q) hs
theorem PEd.ix (ha : PEd X W a fa) (hb : PEd X W b fb) (hs : PlainIx b) : PEd X W (.Subscript a b pos) (mOp2 dIx fa fb) := PE.imp (pe_ix (ixB.op2 IxR.imp) ha hb hs) fun _ _ _ h => tE_op h
theorem PEd.ixV {i : Nat} {x : Str} {p : Pos} (hN : X.N[i]? = some x) (hv : Vis X.env.scope x) (hd : (x == ("__debug__" : Str)) = false) (hcd : (x == ("__classdict__" : Str)) = false) (hb : PEd X W b fb) (hs : PlainIx b) :
    PEd X W (.Subscript (.Name x p) b pos) (mOpV dIx i fb) := PE.imp (pe_ix ixB (pe_var hN hv hd hcd) hb hs) fun _ _ _ h => tE_opV h
/-! ### slices -/
def cutL {α : Type} (xs : List α) (lo hi : Option Int) : List α := (xs.drop (HT.sIx xs.length 0 lo)).take (HT.sIx xs.length xs.length hi - HT.sIx xs.length 0 lo)
def dCut (x : D) (lo hi : Option Int) : Option D := match x with
  | .str s => some (.str (cutL s lo hi))
  | .tup s => some (.tup (cutL s lo hi))
  | .lst s => some (.lst (cutL s lo hi))
  | .lk s => some (.lst (cutL s lo hi))
  | _ => none
abbrev MO := M (Option Int)
def mNoPart : MO := fun st => .ok none st
def mPart (f : M D) : MO := fun st => (f st).bind fun x st1 => match x with
  | .int i => .ok (some i) st1
  | _ => .bad
def mCut (f : M D) (lo hi : MO) : M D := fun st => (f st).bind fun x st1 => (lo st1).bind fun l st2 => (hi st2).bind fun h st3 => mPur (dCut x l h) st3
def mCutV (i : Nat) (lo hi : MO) : M D := fun st => match rd st i with
  | none => .bad
  | some _ => (lo st).bind fun l st2 => (hi st2).bind fun h st3 => match rd st3 i with
    | none => .bad
    | some x => mPur (dCut x l h) st3
def tO (g : Gx) (W : WX) (f : MO) : TO := fun σ H Q => ∃ Fx ι st, SRel g Fx ι H σ st ∧ Aft g W Fx ι H σ (f st) fun b _ H' _ => Q b H'
def POd (X : Cx) (W : WX) (e : Option Expr) (f : MO) : Prop := PO X e (tO (gx X) W f)
theorem PO.imp {X : Cx} {e : Option Expr} {t t' : TO} (h : PO X e t) (k : ∀ σ H Q, t' σ H Q → t σ H Q) : PO X e t' := ⟨fun pins s σ H Q I q => h.run pins s σ H Q I (k σ H Q q)⟩
theorem POd.none : POd X W none mNoPart := PO.imp po_none fun σ H Q h => by
  obtain ⟨Fx, ι, st, r, q⟩ := h
  exact q.ok r
theorem POd.some (he : PEd X W e f) : POd X W (some e) (mPart f) := PO.imp (po_some he) fun σ H Q h => by
  obtain ⟨Fx, ι, st, r, q⟩ := h
  refine ⟨Fx, ι, st, r, q.bind.imp fun d ι1 H1 st1 s1 r1 q1 v rv => ?_⟩
  split at q1
  · exact ⟨_, rep_int rv, q1.ok r1⟩
  · exact q1.elim
theorem cutL_len {α : Type} (xs : List α) (lo hi : Option Int) : (cutL xs lo hi).length ≤ xs.length := by
  unfold cutL
  rw [List.length_take, List.length_drop]
  omega
theorem cutL_mem {α : Type} {xs : List α} {lo hi : Option Int} {x : α} (h : x ∈ cutL xs lo hi) : x ∈ xs := List.mem_of_mem_drop (List.mem_of_mem_take h)
theorem rep_cut {K : PySem.W.Frag} {H : Hp} {Fx : Addr → Prop} {ι : Io} {xs : List D} {vs : List V} (h : RepAll K H Fx ι xs vs) (lo hi : Option Int) : RepAll K H Fx ι (cutL xs lo hi) (cutV vs lo hi) := by
  unfold cutL cutV
  rw [h.length]
  exact (h.drop _).take _
/-- all that may be cut -/
def SlB (X : Cx) : Prop := SlR X fun x lo hi H Q => ∃ Fx ι σ st dx d, SRel (gx X) Fx ι H σ st ∧ RepB X.K H Fx ι dx x ∧ dCut dx lo hi = Option.some d ∧ ∀ v H', Grow H H' → Rep X.K H' Fx ι d v → Q v H'
theorem slB : SlB X := by
  intro pins s σ H x v vl vu lo hi sl Q I rx hs pl pu h'
  obtain ⟨Fx, ι, σ', st, dx, d, r, hx, e, q⟩ := h'
  unfold dCut at e
  split at e
  · rename_i t
    cases e
    obtain ⟨e1, o⟩ := rep_str (repB_of hx (by intro xs z; cases z))
    subst e1
    refine sl_str pins s σ H _ v vl vu lo hi sl Q I rx hs pl pu ⟨_, rfl, o.line, ?_⟩
    refine q _ H (Grow.refl H) ?_
    have : cutS (⟨t.toArray⟩ : Str) lo hi = ⟨(cutL t lo hi).toArray⟩ := by
      unfold cutS cutL
      rw [str_len]
    rw [this]
    exact mk_str (o.sub (cutL_len _ _ _) fun c => cutL_mem)
  · cases e
    obtain ⟨a, vs, e1, h1, h2⟩ := rep_tup (repB_of hx (by intro xs z; cases z))
    subst e1
    refine sl_tupA pins s σ H _ v vl vu lo hi sl Q I rx hs pl pu ⟨a, vs, rfl, h1.sq, fun z => ?_, fun z p hp => ?_⟩
    · refine q _ H (Grow.refl H) ?_
      simp only [Rep]
      refine ⟨a, vs, rfl, h1, ?_⟩
      have k := rep_cut h2 lo hi
      have e2 : cutV vs lo hi = vs := by
        unfold cutV
        rw [z.1, z.2]
        simp
      rw [e2] at k
      exact k
    · exact q _ _ (Grow.new hp) (r.newTup hp (rep_cut h2 lo hi))
  · cases e
    obtain ⟨a, vs, e1, h1, h2⟩ := repB_lst hx
    subst e1
    exact sl_list pins s σ H _ v vl vu lo hi sl Q I rx hs pl pu ⟨a, vs, rfl, SqL.of h1, fun p hp => q _ _ (Grow.new hp) (r.newLst hp (rep_cut h2 lo hi))⟩
  · cases e
    obtain ⟨a, vs, e1, h1, h2⟩ := rep_lk (repB_of hx (by intro xs z; cases z))
    subst e1
    exact sl_list pins s σ H _ v vl vu lo hi sl Q I rx hs pl pu ⟨a, vs, rfl, h1.sq, fun p hp => q _ _ (Grow.new hp) (r.newLst hp (rep_cut h2 lo hi))⟩
  · cases e
variable {lo hi : Option Expr} {fl fh : MO} {p2 : Pos}
theorem PEd.cut (he : PEd X W e f) (hl : POd X W lo fl) (hu : POd X W hi fh) : PEd X W (.Subscript e (.Slice lo hi .none p2) pos) (mCut f fl fh) := PE.imp (pe_slice slB he hl hu) fun σ H Q h => by
  obtain ⟨Fx, ι, st, r, q⟩ := h
  refine ⟨Fx, ι, st, r, q.bind.imp fun dx ι1 H1 st1 s1 r1 q1 x rx => ⟨Fx, ι1, st1, r1, q1.bind.imp fun l ι2 H2 st2 s2 r2 q2 => ⟨Fx, ι2, st2, r2, q2.bind.imp fun u ι3 H3 st3 s3 r3 q3 => ?_⟩⟩⟩
  unfold mPur at q3
  split at q3
  · rename_i d e
    exact ⟨Fx, ι3, σ, st3, dx, d, r3, .inl (Rep.car (s2.trans s3).car _ _ rx), e, fun w H' gr rp => q3 ι3 H' gr.step (r3.same gr) w rp⟩
  · exact q3.elim
theorem PEd.cutV {i : Nat} {x : Str} {p : Pos} (hN : X.N[i]? = Option.some x) (hv : Vis X.env.scope x) (hd : (x == ("__debug__" : Str)) = false) (hcd : (x == ("__classdict__" : Str)) = false) (hl : POd X W lo fl) (hu : POd X W hi fh) :
    PEd X W (.Subscript (.Name x p) (.Slice lo hi .none p2) pos) (mCutV i fl fh) := PE.imp (pe_slice slB (pe_var hN hv hd hcd) hl hu) fun σ H Q h => by
  obtain ⟨Fx, ι, st, r, q⟩ := h
  unfold mCutV at q
  cases e1 : Pv.rd st i with
  | none =>
    simp only [e1] at q
    exact q.elim
  | some d1 =>
    simp only [e1] at q
    obtain ⟨v, hv, _⟩ := r.rd e1
    refine ⟨v, hv, Fx, ι, st, r, q.bind.imp fun l ι2 H2 st2 s2 r2 q2 => ⟨Fx, ι2, st2, r2, q2.bind.imp fun u ι3 H3 st3 s3 r3 q3 => ?_⟩⟩
    cases e2 : Pv.rd st3 i with
    | none =>
      simp only [e2] at q3
      exact q3.elim
    | some dx =>
      simp only [e2] at q3
      obtain ⟨v', hv', rb⟩ := r3.rd e2
      rw [hv] at hv'
      cases hv'
      unfold mPur at q3
      split at q3
      · rename_i d e
        exact ⟨Fx, ι3, σ, st3, dx, d, r3, rb, e, fun w H' gr rp => q3 ι3 H' gr.step (r3.same gr) w rp⟩
      · exact q3.elim
end
end Pv
namespace Pvs
open PySem PySem.Spec PyProof.Rows
section
variable {prog : Program} {w : World} {A : Around} {E : Value → Shared → Prop} {s : Shared}
theorem extend_str {R : Result → Shared → Prop} (hh : A.handled = none) (x : Str) (t : Tok) (S : Addr) (res : Value) (c₀ : Nat) (hS : s.heap.get? S = some { cls := .type "list", data := .seq #[] c₀ })
    (hR : ∀ h' tk acc' c', (∀ b o, b ≠ S → s.heap.get? b = some o → h'.get? b = some o) → h'.get? S = some { cls := .type "list", dict := none, data := .seq acc' c', slots := #[] } →
      ItemsOf (SignAt x) acc' x.cps.size → R (.ok (.ret res)) { s with heap := h', toks := tk }) (hn : x.cps.size ≤ sizeLine) :
    wpAny (model prog w) A.in1 (Builtin.List.listExtendWith (.ref S) (.str x t) res)
      (fun fin s' => match fin with | .done f => R (.ok f) s' | .again c' => c'.quiet = true ∧ codeAny (model prog w) A c' R s') (fun e s' => R (.error e) s') s := by
  have hSI : S ≠ s.heap.objs.size := Nat.ne_of_lt (Heap.lt_size hS)
  have hSf : S ∉ [s.heap.objs.size] := fun hm => hSI (List.mem_singleton.mp hm)
  unfold Builtin.List.listExtendWith
  refine wpAny_bind (wpAny_typeOf (T := "str") (v := .str x t) rfl ?_)
  have h1 : Builtin.List.listSameRef (.ref S) (.str x t) = false := rfl
  have h2 : (Value.type "str" == Value.type "list") = false := by decide
  have h3 : (Value.type "str" == Value.type "tuple") = false := by decide
  simp only [h1, h2, h3, Bool.or_false, Bool.false_eq_true, if_false]
  refine wpAny_bind (wpAny_pyIter_str fun o St W hst => ?_)
  refine wpAny_bind (wpAny_holding ?_)
  unfold Builtin.List.listLengthHint
  refine wpAny_bind (wpAny_specialOf (T := "str") (v := .str x t) rfl PySem.F.str_len ?_)
  wp_delta
  refine wpAny_bind (wpAny_isInstance (T := "str") (v := .str x t) (b := true) rfl (by rw [isSubtype_type]; kernel_rfl) ?_)
  show wpAny _ A.in1 (typeOf (Value.str x t) >>= _) _ _ _
  refine wpAny_bind (wpAny_typeOf (T := "str") (v := .str x t) rfl ?_)
  refine wpAny_pure ?_
  rw [if_neg (by decide)]
  refine wpAny_pure ⟨plainId_quiet PySem.F.plain_extend_loop _, codeAny_extend_loopS (W A.in1 hh).toS hn _ hSf _ x.cps.size 0 _ _ _ rfl (Nat.zero_le _) hst (Heap.get?_push_of_some _ hS) (ItemsOf.nil _) fun s' acc' c' hm hS' hacc => ?_⟩
  rw [Moved.eq_with hm]
  refine hR s'.heap s'.toks acc' c' (fun b ob hb e => hm.heap b ob (fun hmem => ?_) (Heap.get?_push_of_some _ e)) hS' hacc
  rcases List.mem_cons.mp hmem with e' | hmem
  · exact hb e'
  · exact absurd (Heap.lt_size e) (by rw [List.mem_singleton.mp hmem]; exact Nat.lt_irrefl _)
theorem list_init_str {R : Result → Shared → Prop} (hh : A.handled = none) (x : Str) (t : Tok) (S : Addr) (hS : s.heap.get? S = some { cls := .type "list", data := .seq #[] })
    (hR : ∀ h' tk acc' c', (∀ b o, b ≠ S → s.heap.get? b = some o → h'.get? b = some o) → h'.get? S = some { cls := .type "list", dict := none, data := .seq acc' c', slots := #[] } →
      ItemsOf (SignAt x) acc' x.cps.size → R (.ok (.ret .none)) { s with heap := h', toks := tk }) (hn : x.cps.size ≤ sizeLine) :
    wpAny (model prog w) A.in1 (Builtin.«list.__init__» ⟨[.ref S, .str x t], []⟩)
      (fun fin s' => match fin with | .done f => R (.ok f) s' | .again c' => c'.quiet = true ∧ codeAny (model prog w) A c' R s') (fun e s' => R (.error e) s') s := by
  show wpAny _ _ (do let old ← Builtin.List.listItems (.ref S); Builtin.List.listUpdate (.ref S) (fun _ => #[]); letGo old.toList.reverse; Builtin.List.listExtendWith (.ref S) (.str x t) .none) _ _ s
  refine wpAny_bind ?_
  unfold Builtin.List.listItems
  refine wpAny_bind (wpAny_seqItems hS rfl (wpAny_pure ?_))
  show wpAny _ _ (updateSeq S (fun _ => #[]) >>= fun _ => letGo (#[] : Array Value).toList.reverse >>= fun _ => Builtin.List.listExtendWith (.ref S) (.str x t) .none) _ _ s
  refine wpAny_bind (wpAny_updateSeq hS rfl ?_)
  have hS₂ := Heap.get?_update_self (Obj.mapSeq (fun _ => (#[] : Array Value))) hS rfl
  have oth : ∀ b o, b ≠ S → s.heap.get? b = some o → (s.heap.update S (Obj.mapSeq (fun _ => (#[] : Array Value)))).get? b = some o :=
    fun b o hb e => (Heap.get?_update_other _ _ (Ne.symm hb)).trans e
  refine wpAny_bind (wpAny_letGo ?_)
  refine extend_str hh x t S .none _ hS₂ (fun h' tk acc' c' hk hS' hacc => ?_) hn
  exact hR h' tk acc' c' (fun b o hb e => hk b o hb (oth b o hb e)) hS' hacc
theorem call_list_str {x : Str} {t : Tok} {Q : Value → Shared → Prop} (hh : A.handled = none) (hn : x.cps.size ≤ sizeLine)
    (hQ : ∀ h' tk acc' c', (∀ b o, s.heap.get? b = some o → h'.get? b = some o) →
      h'.get? s.heap.objs.size = some { cls := .type "list", dict := none, data := .seq acc' c', slots := #[] } → ItemsOf (SignAt x) acc' x.cps.size → Q (.ref s.heap.objs.size) { s with heap := h', toks := tk }) :
    wpAny (model prog w) A (call (.type "list") [.str x t]) Q E s := by
  refine callType_codes (Q₁ := fun obj s₁ => obj = .ref s.heap.objs.size ∧ s₁ = { s with heap := s.heap.push { cls := .type "list", data := .seq #[] } }) PySem.F.called_list (PySem.F.typeCall_list_1 _) PySem.F.entry_list_init
    (code_list_new _ ⟨rfl, rfl⟩) fun obj s₁ h₁ => ?_
  obtain ⟨rfl, rfl⟩ := h₁
  have hS : (s.heap.push { cls := .type "list", data := .seq #[] }).get? s.heap.objs.size = some { cls := .type "list", data := .seq #[] } := Heap.get?_push_size _ rfl
  refine ⟨⟨_, hS, rfl⟩, PySem.F.args_list_init_2 _ _, list_init_str (A := A.in1) hh x t _ hS (fun h' tk acc' c' hk hS' hacc => ?_) hn⟩
  exact ⟨rfl, hQ h' tk acc' c' (fun b o e => hk b o (Nat.ne_of_lt (Heap.lt_size e)) (Heap.get?_push_of_some _ e)) hS' hacc⟩
end
end Pvs
/-! Pv5: built-in calls, methods. -/
namespace Pv
open PySem PySem.Spec L2
/-- a built-in's call by values -/
def CallK (X : Cx) (f : Value) (k : List Cell → List D → Option D) : Prop :=
  CallR X f fun xs H Q => ∃ Fx ι σ st ds d, SRel (gx X) Fx ι H σ st ∧ RepAll X.K H Fx ι ds xs ∧ k st.mu ds = some d ∧ ∀ v H', Grow H H' → Rep X.K H' Fx ι d v → Q v H'
def mCallB (k : List Cell → List D → Option D) (f : M (List D)) : M D := fun st => (f st).bind fun ds st1 => match k st1.mu ds with
  | some d => .ok d st1
  | none => .bad
section
variable {X : Cx} {W : WX} {e a b c : Expr} {f fa fb : M D} {pos p : Pos} {es : List Expr} {fs : M (List D)} {x : Str} {id T : String} {k : List Cell → List D → Option D}
theorem tCB_of {g : Gx} {σ : L2.St} {H : Hp} {Q : VK} (h : tE g W (mCallB k fs) σ H Q) :
    tCB (fun xs H Q => ∃ Fx ι σ st ds d, SRel g Fx ι H σ st ∧ RepAll g.K H Fx ι ds xs ∧ k st.mu ds = some d ∧ ∀ v H', Grow H H' → Rep g.K H' Fx ι d v → Q v H') (tAs g W fs) σ H Q := by
  obtain ⟨Fx, ι, st, r, q⟩ := h
  refine ⟨Fx, ι, st, r, q.bind.imp fun ds ι1 H1 st1 s1 r1 q1 vs rv => ?_⟩
  cases e : k st1.mu ds with
  | none =>
    simp only [e] at q1
    exact q1.elim
  | some d =>
    simp only [e] at q1
    exact ⟨Fx, ι1, σ, st1, ds, d, r1, rv, e, fun v H' gr rp => q1 ι1 H' gr.step (r1.same gr) v rp⟩
theorem PEd.callB (hc : CallK X (.builtin id) k) (hg : Gl X x) (hm : X.mg x = none) (hv : bootBuiltins x = some (.builtin id)) (ha : PAd X W (e :: es) fs) (hn : x ≠ "__name__") (hdb : (x == ("__debug__" : Str)) = false)
    (he : starEach (e :: es) X.env = (false, eval e X.env) :: starEach es X.env) (hpl : (backTo pos (starEach es X.env)).any (·.1) = false) : PEd X W (.Call (.Name x p) (e :: es) [] pos) (mCallB k fs) :=
  PE.imp (pe_callB hc hg hm hv ha hn hdb he hpl) fun _ _ _ h => tCB_of h
theorem PEd.callTy (hc : CallK X (.type T) k) (hg : Gl X x) (hm : X.mg x = none) (hv : bootBuiltins x = some (.type T)) (ha : PAd X W (e :: es) fs) (hn : x ≠ "__name__") (hdb : (x == ("__debug__" : Str)) = false)
    (he : starEach (e :: es) X.env = (false, eval e X.env) :: starEach es X.env) (hpl : (backTo pos (starEach es X.env)).any (·.1) = false) : PEd X W (.Call (.Name x p) (e :: es) [] pos) (mCallB k fs) :=
  PE.imp (pe_callTy hc hg hm hv ha hn hdb he hpl) fun _ _ _ h => tCB_of h
theorem rep1 {K : PySem.W.Frag} {H : Hp} {Fx : Addr → Prop} {ι : Io} {d : D} {xs : List V} (h : RepAll K H Fx ι [d] xs) : ∃ v, xs = [v] ∧ Rep K H Fx ι d v := by
  simp only [RepAll] at h
  obtain ⟨v, r, e, h1, h2⟩ := h
  subst h2
  exact ⟨v, e, h1⟩
theorem rep2 {K : PySem.W.Frag} {H : Hp} {Fx : Addr → Prop} {ι : Io} {d d' : D} {xs : List V} (h : RepAll K H Fx ι [d, d'] xs) : ∃ v v', xs = [v, v'] ∧ Rep K H Fx ι d v ∧ Rep K H Fx ι d' v' := by
  simp only [RepAll] at h
  obtain ⟨v, r, e, h1, v', r', e', h2, h3⟩ := h
  subst h3 e'
  exact ⟨v, v', e, h1, h2⟩
/-! len, min, max, int, str, tuple -/
def lenD : D → Option Nat
  | .str s => some s.length
  | .tup s => some s.length
  | .lst s => some s.length
  | .lk s => some s.length
  | _ => none
def kLen (_ : List Cell) : List D → Option D
  | [d] => (lenD d).map fun n => .int n
  | _ => none
theorem len_repB {K : PySem.W.Frag} {H : Hp} {Fx : Addr → Prop} {ι : Io} {d : D} {v : V} {n : Nat} (h : RepB K H Fx ι d v) (e : lenD d = some n) : LenV K v H n := by
  unfold lenD at e
  split at e
  · cases e
    obtain ⟨e1, o⟩ := rep_str (repB_of h (by intro xs z; cases z))
    subst e1
    exact ⟨o.line, by rw [str_len]⟩
  · cases e
    obtain ⟨a, vs, e1, h1, h2⟩ := rep_tup (repB_of h (by intro xs z; cases z))
    subst e1
    exact .inr ⟨vs, h1.sq, h2.length⟩
  · cases e
    obtain ⟨a, vs, e1, h1, h2⟩ := repB_lst h
    subst e1
    exact .inl ⟨vs, SqL.of h1, h2.length⟩
  · cases e
    obtain ⟨a, vs, e1, h1, h2⟩ := rep_lk (repB_of h (by intro xs z; cases z))
    subst e1
    exact .inl ⟨vs, h1.sq, h2.length⟩
  · cases e
theorem callLen : CallK X (.builtin "len") kLen := by
  intro pins s σ H xs us Q I r h'
  obtain ⟨Fx, ι, σ', st, ds, d, rr, hx, e, q⟩ := h'
  unfold kLen at e
  split at e
  · rename_i d0
    obtain ⟨v, rfl, rv⟩ := rep1 hx
    cases z : lenD d0 with
    | none =>
      rw [z] at e
      cases e
    | some n =>
      rw [z] at e
      cases e
      exact call_len pins s σ H _ us Q I r ⟨v, n, rfl, len_repB (.inl rv) z, q _ H (Grow.refl H) mk_int⟩
  · cases e
/-- len of a name, its list not frozen -/
def mLenV (i : Nat) : M D := fun st => match rd st i with
  | none => .bad
  | some x => (match lenD x with
    | some n => .ok (.int n) st
    | none => .bad)
theorem PEd.lenV {i : Nat} {y : Str} {p2 : Pos} (hN : X.N[i]? = some y) (hv : Vis X.env.scope y) (hd : (y == ("__debug__" : Str)) = false) (hcd : (y == ("__classdict__" : Str)) = false) (hg : Gl X "len") (hm : X.mg "len" = none) :
    PEd X W (.Call (.Name "len" p) [.Name y p2] [] pos) (mLenV i) :=
  PE.imp (pe_callB call_len hg hm PySem.boot_len (pa_cons (pe_var hN hv hd hcd) pa_nil)) fun σ H Q h => by
    obtain ⟨Fx, ι, st, r, q⟩ := h
    unfold mLenV at q
    cases e1 : rd st i with
    | none =>
      simp only [e1] at q
      exact q.elim
    | some d =>
      simp only [e1] at q
      obtain ⟨v, hv, rb⟩ := r.rd e1
      cases e2 : lenD d with
      | none =>
        simp only [e2] at q
        exact q.elim
      | some n =>
        simp only [e2] at q
        exact ⟨v, hv, v, n, rfl, len_repB rb e2, q.ok r _ mk_int⟩
def kMax (_ : List Cell) : List D → Option D
  | [.int i, .int j] => some (.int (if j > i then j else i))
  | _ => none
def kMin (_ : List Cell) : List D → Option D
  | [.int i, .int j] => some (.int (if j < i then j else i))
  | _ => none
theorem callMax (hc : X.calm = true) : CallK X (.builtin "max") kMax := by
  intro pins s σ H xs us Q I r h'
  obtain ⟨Fx, ι, σ', st, ds, d, rr, hx, e, q⟩ := h'
  unfold kMax at e
  split at e
  · cases e
    obtain ⟨v, v', rfl, h1, h2⟩ := rep2 hx
    cases rep_int h1
    cases rep_int h2
    exact call_max2 hc pins s σ H _ us Q I r ⟨_, _, rfl, q _ H (Grow.refl H) mk_int⟩
  · cases e
theorem callMin (hc : X.calm = true) : CallK X (.builtin "min") kMin := by
  intro pins s σ H xs us Q I r h'
  obtain ⟨Fx, ι, σ', st, ds, d, rr, hx, e, q⟩ := h'
  unfold kMin at e
  split at e
  · cases e
    obtain ⟨v, v', rfl, h1, h2⟩ := rep2 hx
    cases rep_int h1
    cases rep_int h2
    exact call_min2 hc pins s σ H _ us Q I r ⟨_, _, rfl, q _ H (Grow.refl H) mk_int⟩
  · cases e
def kInt (_ : List Cell) : List D → Option D
  | [.int i] => some (.int i)
  | [.bl b] => some (.int (if b then 1 else 0))
  | [.str s] => if s.length ≤ 640 then (PySem.intText? ⟨s.toArray⟩).map .int else none
  | _ => none
theorem callInt : CallK X (.type "int") kInt := by
  intro pins s σ H xs us Q I r h'
  obtain ⟨Fx, ι, σ', st, ds, d, rr, hx, e, q⟩ := h'
  unfold kInt at e
  split at e
  · cases e
    obtain ⟨v, rfl, h1⟩ := rep1 hx
    cases rep_int h1
    exact call_int1 pins s σ H _ us Q I r (.inl ⟨_, rfl, q _ H (Grow.refl H) mk_int⟩)
  · cases e
    obtain ⟨v, rfl, h1⟩ := rep1 hx
    cases rep_bl h1
    exact call_int1 pins s σ H _ us Q I r (.inr ⟨_, rfl, q _ H (Grow.refl H) mk_int⟩)
  · split at e
    · rename_i t hl
      obtain ⟨v, rfl, h1⟩ := rep1 hx
      obtain ⟨e1, o⟩ := rep_str h1
      cases hn : PySem.intText? ⟨t.toArray⟩ with
      | none => rw [hn] at e; cases e
      | some n =>
        rw [hn] at e
        cases e
        exact call_int_str pins s σ H _ us Q I r ⟨_, n, by rw [e1], hn, by simpa [Str.length] using hl, q _ H (Grow.refl H) mk_int⟩
    · cases e
  · cases e
/-- the figures of a number -/
def intS (i : Int) : List Nat := (Str.ofString (toString i)).cps.toList
def kStr (_ : List Cell) : List D → Option D
  | [.int i] => if i.natAbs < 2 ^ 64 ∧ okSb (intS i) = true then some (.str (intS i)) else none
  | _ => none
theorem callStr : CallK X (.type "str") kStr := by
  intro pins s σ H xs us Q I r h'
  obtain ⟨Fx, ι, σ', st, ds, d, rr, hx, e, q⟩ := h'
  unfold kStr at e
  split at e
  · split at e
    · rename_i i hc
      cases e
      obtain ⟨v, rfl, h1⟩ := rep1 hx
      cases rep_int h1
      refine call_str_int pins s σ H _ us Q I r ⟨_, rfl, ?_, ?_⟩
      · have h : i.natAbs.log2 < 64 := PySem.Flt.log2_lt_of (by decide) hc.1
        omega
      · have m := q (.str ⟨(intS i).toArray⟩) H (Grow.refl H) (mk_str (OkS.of hc.2))
        have e2 : (⟨(intS i).toArray⟩ : Str) = Str.ofString (toString i) := by
          unfold intS
          simp
        rw [e2] at m
        exact m
    · cases e
  · cases e
def kTuple (mu : List Cell) : List D → Option D
  | [.lst xs] => some (.tup xs)
  | [.lk xs] => some (.tup xs)
  | [.tup xs] => some (.tup xs)
  | [.ref n] => match mu[n]? with
    | some (.lst xs) => some (.tup xs)
    | _ => none
  | _ => none
theorem callTuple : CallK X (.type "tuple") kTuple := by
  intro pins s σ H xs us Q I r h'
  obtain ⟨Fx, ι, σ', st, ds, d, rr, hx, e, q⟩ := h'
  unfold kTuple at e
  split at e
  · cases e
    obtain ⟨v, rfl, h1⟩ := rep1 hx
    obtain ⟨a, vs, e1, h2, n, h3⟩ := rep_lst h1
    subst e1
    exact call_tuple_of pins s σ H _ us Q I r ⟨a, vs, rfl, .inl ⟨SqL.of h2, fun l hl => q _ _ (Grow.new hl) (rr.newTup hl h3)⟩⟩
  · cases e
    obtain ⟨v, rfl, h1⟩ := rep1 hx
    obtain ⟨a, vs, e1, h2, h3⟩ := rep_lk h1
    subst e1
    exact call_tuple_of pins s σ H _ us Q I r ⟨a, vs, rfl, .inl ⟨h2.sq, fun l hl => q _ _ (Grow.new hl) (rr.newTup hl h3)⟩⟩
  · cases e
    obtain ⟨v, rfl, h1⟩ := rep1 hx
    obtain ⟨a, vs, e1, h2, h3⟩ := rep_tup h1
    subst e1
    exact call_tuple_of pins s σ H _ us Q I r ⟨a, vs, rfl, .inr ⟨h2.sq, q _ _ (Grow.refl H) h1⟩⟩
  · rename_i n
    split at e
    · rename_i xs z
      cases e
      obtain ⟨v, rfl, h1⟩ := rep1 hx
      obtain ⟨a, e1, h2⟩ := rep_ref h1
      subst e1
      obtain ⟨b, k1, vs, k2, h3⟩ := rr.ce n _ z
      rw [h2] at k1
      cases k1
      exact call_tuple_of pins s σ H _ us Q I r ⟨a, vs, rfl, .inl ⟨SqL.of k2, fun l hl => q _ _ (Grow.new hl) (rr.newTup hl h3)⟩⟩
    · cases e
  · cases e
/-- list(x): a new list, as a frozen one -/
def kList (mu : List Cell) : List D → Option D
  | [.lst xs] => some (.lst xs)
  | [.lk xs] => some (.lst xs)
  | [.tup xs] => some (.lst xs)
  | [.ref n] => match mu[n]? with
    | some (.lst xs) => some (.lst xs)
    | _ => none
  | [.str t] => some (.lst (t.map fun c => .str [c]))
  | _ => none
theorem callList (hc : X.calm = true) : CallK X (.type "list") kList := by
  intro pins s σ H xs us Q I r h'
  obtain ⟨Fx, ι, σ', st, ds, d, rr, hx, e, q⟩ := h'
  unfold kList at e
  split at e
  · cases e
    obtain ⟨v, rfl, h1⟩ := rep1 hx
    obtain ⟨a, vs, e1, h2, n, h3⟩ := rep_lst h1
    subst e1
    exact call_list_of pins s σ H _ us Q I r ⟨a, vs, rfl, .inl (SqL.of h2), fun l hl => q _ _ (Grow.new hl) (rr.newLst hl h3)⟩
  · cases e
    obtain ⟨v, rfl, h1⟩ := rep1 hx
    obtain ⟨a, vs, e1, h2, h3⟩ := rep_lk h1
    subst e1
    exact call_list_of pins s σ H _ us Q I r ⟨a, vs, rfl, .inl h2.sq, fun l hl => q _ _ (Grow.new hl) (rr.newLst hl h3)⟩
  · cases e
    obtain ⟨v, rfl, h1⟩ := rep1 hx
    obtain ⟨a, vs, e1, h2, h3⟩ := rep_tup h1
    subst e1
    exact call_list_of pins s σ H _ us Q I r ⟨a, vs, rfl, .inr h2.sq, fun l hl => q _ _ (Grow.new hl) (rr.newLst hl h3)⟩
  · rename_i n
    split at e
    · rename_i xs z
      cases e
      obtain ⟨v, rfl, h1⟩ := rep1 hx
      obtain ⟨a, e1, h2⟩ := rep_ref h1
      subst e1
      obtain ⟨b, k1, vs, k2, h3⟩ := rr.ce n _ z
      rw [h2] at k1
      cases k1
      exact call_list_of pins s σ H _ us Q I r ⟨a, vs, rfl, .inl (SqL.of k2), fun l hl => q _ _ (Grow.new hl) (rr.newLst hl h3)⟩
    · cases e
  · rename_i t
    cases e
    obtain ⟨v, rfl, h1⟩ := rep1 hx
    obtain ⟨e1, o⟩ := rep_str h1
    subst e1
    obtain ⟨u, rfl, ru⟩ := vals1 r
    obtain ⟨tk, rfl⟩ := ru
    refine Pvs.call_list_str (I.ok.hd hc) o.line fun h' tk' acc c' hk he hi => ?_
    have hl : acc.size = t.length := by rw [hi.1]; simp
    refine ⟨.ref s.heap.objs.size, upd H s.heap.objs.size (.lst (t.map fun c => V.str ⟨#[c]⟩)), I.laid hk (Nat.le_refl _) ⟨by rw [List.length_map]; exact Nat.le_trans o.len lim_line, acc.toList, c', ?_, by rw [Array.toArray_toList]; exact he⟩, rfl, ?_⟩
    · refine vals_of_idx _ _ (by rw [List.length_map, Array.length_toList]; exact hl) fun j u hj => ?_
      obtain ⟨c, tc, hc', rfl⟩ := hi.2 j u (by rw [← Array.getElem?_toList]; exact hj)
      exact ⟨.str ⟨#[c]⟩, by simpa using hc', ⟨_, rfl⟩⟩
    · refine q _ _ (Grow.new (I.hok.fresh (Nat.le_refl _))) (rr.newLst (I.hok.fresh (Nat.le_refl _)) ?_)
      have key : ∀ l : List Nat, (∀ c ∈ l, c ∈ t) → RepAll X.K H Fx ι (l.map fun c => .str [c]) (l.map fun c => V.str ⟨#[c]⟩) := fun l hl => by
        induction l with
        | nil => exact .nil
        | cons c l ih => exact .cons (mk_str (o.sub (by have := List.length_pos_of_mem (hl c (by simp)); show 1 ≤ _; omega) fun c' hc' => by cases List.mem_singleton.mp hc'; exact hl c (by simp))) (ih fun c hc => hl c (by simp [hc]))
      exact key t fun c hc => hc
  · cases e
/-! ### isinstance of a built-in type -/
inductive Ty where
  | str | int | bool | list | tuple | dict
  deriving DecidableEq
def Ty.name : Ty → String
  | .str => "str"
  | .int => "int"
  | .bool => "bool"
  | .list => "list"
  | .tuple => "tuple"
  | .dict => "dict"
/-- the kinds of plain data -/
inductive Kd where
  | non | bool | int | str | tuple | list | dict
  deriving DecidableEq
def Kd.name : Kd → String
  | .non => "NoneType"
  | .str => "str"
  | .int => "int"
  | .bool => "bool"
  | .list => "list"
  | .tuple => "tuple"
  | .dict => "dict"
def kdOf (mu : List Cell) : D → Option Kd
  | .non => some .non
  | .bl _ => some .bool
  | .int _ => some .int
  | .str _ => some .str
  | .tup _ => some .tuple
  | .lst _ => some .list
  | .lk _ => some .list
  | .ref n => match mu[n]? with
    | some (.lst _) => some .list
    | some (.dct _) => some .dict
    | _ => none
def isKd : Kd → Ty → Bool
  | .bool, .bool => true
  | .bool, .int => true
  | .int, .int => true
  | .str, .str => true
  | .tuple, .tuple => true
  | .list, .list => true
  | .dict, .dict => true
  | _, _ => false
theorem kit_kd (k : Kd) (t : Ty) : kitB k.name t.name = some (isKd k t) := by
  cases k <;> cases t <;> decide +kernel
theorem kd_ty {g : Gx} {H : Hp} {Fx : Addr → Prop} {ι : Io} {σ : L2.St} {st : ES} (r : SRel g Fx ι H σ st) {d : D} {v : V} {k : Kd} (h : Rep g.K H Fx ι d v) (e : kdOf st.mu d = some k) : TyX g.K H v (.type k.name) := by
  cases d with
  | non => cases e; cases rep_non h; exact .base .non
  | bl b => cases e; cases rep_bl h; exact .base (.bl b)
  | int b => cases e; cases rep_int h; exact .base (.int b)
  | str b => cases e; obtain ⟨e1, o⟩ := rep_str h; subst e1; exact .base (.str _)
  | tup xs =>
    cases e
    obtain ⟨a, vs, e1, h2, h3⟩ := rep_tup h
    subst e1
    rcases h2 with ⟨h2 | ⟨o, h2⟩, _⟩ | ⟨o, its, n, h2, h4, _⟩
    · exact .base (.tup h2)
    · exact .fTuple h2
    · exact .kTuple h2 h4
  | lst xs =>
    cases e
    obtain ⟨a, vs, e1, h2, n, h3⟩ := rep_lst h
    subst e1
    exact .base (.lst h2)
  | lk xs =>
    cases e
    obtain ⟨a, vs, e1, h2, h3⟩ := rep_lk h
    subst e1
    rcases h2 with ⟨h2 | ⟨o, h2⟩, _⟩ | ⟨o, its, n, h2, h4, _⟩
    · exact .base (.lst h2)
    · exact .base (.frz h2)
    · exact .kList h2 h4
  | ref n =>
    obtain ⟨a, e1, h2⟩ := rep_ref h
    subst e1
    unfold kdOf at e
    simp only at e
    split at e
    · rename_i xs z
      cases e
      obtain ⟨b, k1, vs, k2, _⟩ := r.ce n _ z
      rw [h2] at k1
      cases k1
      exact .base (.lst k2)
    · rename_i xs z
      cases e
      obtain ⟨b, k1, vs, k2, _⟩ := r.ce n _ z
      rw [h2] at k1
      cases k1
      exact .base (.dK k2)
    · cases e
def mIsi (t : Ty) (f : M D) : M D := fun st => (f st).bind fun d st1 => match kdOf st1.mu d with
  | some k => .ok (.bl (isKd k t)) st1
  | none => .bad
theorem PEd.isi {t : Ty} {p1 p2 : Pos} {y : Str} (he : PEd X W e f) (hg : Gl X "isinstance") (hm : X.mg "isinstance" = none) (hv : bootBuiltins "isinstance" = some (.builtin "isinstance")) (hgy : Gl X y) (hmy : X.mg y = none) (hvy : bootBuiltins y = some (.type t.name))
    (hny : y ≠ "__name__") (hdy : (y == ("__debug__" : Str)) = false)
    (hs : starEach [e, .Name y p2] X.env = (false, eval e X.env) :: starEach [.Name y p2] X.env) : PEd X W (.Call (.Name "isinstance" p1) [e, .Name y p2] [] pos) (mIsi t f) :=
  PE.imp (pe_callB call_isi hg hm hv (pa_cons he (pa_cons (pe_bltn (v := .ty t.name) hgy hmy hvy rfl hny hdy) pa_nil) hs) (by decide) (by decide) hs (by rfl)) fun σ H Q h => by
    obtain ⟨Fx, ι, st, r, q⟩ := h
    refine ⟨Fx, ι, st, r, q.bind.imp fun d ι1 H1 st1 s1 r1 q1 v rv => ?_⟩
    cases e1 : kdOf st1.mu d with
    | none =>
      simp only [e1] at q1
      exact q1.elim
    | some k =>
      simp only [e1] at q1
      exact ⟨v, .ty t.name, _, _, _, rfl, .ty _, kd_ty r1 rv e1, kit_ty (kit_kd k t), q1.ok r1 _ mk_bl⟩
/-- .. of one of two -/
def mIsi2 (t t' : Ty) (f : M D) : M D := fun st => (f st).bind fun d st1 => match kdOf st1.mu d with
  | some k => .ok (.bl (isKd k t || isKd k t')) st1
  | none => .bad
theorem PEd.isi2 {t t' : Ty} {p1 p2 p3 p4 : Pos} {y z : Str} {nn : Nat} (he : PEd X W e f) (hg : Gl X "isinstance") (hm : X.mg "isinstance" = none) (hv : bootBuiltins "isinstance" = some (.builtin "isinstance")) (hgy : Gl X y) (hmy : X.mg y = none) (hvy : bootBuiltins y = some (.type t.name))
    (hny : y ≠ "__name__") (hdy : (y == ("__debug__" : Str)) = false) (hgz : Gl X z) (hmz : X.mg z = none) (hvz : bootBuiltins z = some (.type t'.name)) (hnz : z ≠ "__name__") (hdz : (z == ("__debug__" : Str)) = false)
    (hs : starEach [e, .Tuple [.Name y p2, .Name z p3] nn p4] X.env = (false, eval e X.env) :: starEach [.Tuple [.Name y p2, .Name z p3] nn p4] X.env) : PEd X W (.Call (.Name "isinstance" p1) [e, .Tuple [.Name y p2, .Name z p3] nn p4] [] pos) (mIsi2 t t' f) :=
  PE.imp (pe_callB call_isiT hg hm hv (pa_cons he (pa_cons (pe_tup (pa_cons (pe_bltn (v := .ty t.name) hgy hmy hvy rfl hny hdy) (pa_cons (pe_bltn (v := .ty t'.name) hgz hmz hvz rfl hnz hdz) pa_nil))) pa_nil) hs) (by decide) (by decide) hs (by rfl)) fun σ H Q h => by
    obtain ⟨Fx, ι, st, r, q⟩ := h
    refine ⟨Fx, ι, st, r, q.bind.imp fun d ι1 H1 st1 s1 r1 q1 v rv => ?_⟩
    cases e1 : kdOf st1.mu d with
    | none =>
      simp only [e1] at q1
      exact q1.elim
    | some k =>
      simp only [e1] at q1
      refine ⟨by show 2 ≤ sizeLine; exact Nat.le_trans (by decide : 2 ≤ lim) lim_line, fun p hp => ?_⟩
      have r2 := r1.new (o := .tup [.ty t.name, .ty t'.name]) hp
      have s2 := step_new (ι := ι1) (o := .tup [.ty t.name, .ty t'.name]) hp
      refine ⟨v, p, [.ty t.name, .ty t'.name], .type k.name, [.type t.name, .type t'.name], isKd k t || isKd k t', rfl, upd_same, .cons (.ty _) (.cons (.ty _) .nil), kd_ty r2 (Rep.car s2.car _ _ rv) e1, ?_, q1 ι1 _ s2 r2 _ mk_bl⟩
      have k1 := kit_ty (K := X.K) (kit_kd k t)
      have k2 := kit_ty (K := X.K) (kit_kd k t')
      refine kitAny_cons k1 (fun hb => kitAny_cons k2 (fun hb2 => ?_) (fun hb2 => ?_)) (fun hb => ?_)
      · rw [hb, hb2]; rfl
      · rw [hb2, Bool.or_true]
      · rw [hb, Bool.true_or]
end
end Pv
/-! Pv6: methods of texts; methods of a slot's own list. -/
namespace Pv
open PySem PySem.Spec L2
def strsOf : List D → Option (List (List Nat))
  | [] => some []
  | .str s :: r => (strsOf r).map (s :: ·)
  | _ :: _ => none
def joinS (sep : List Nat) : List (List Nat) → List Nat
  | [] => []
  | [x] => x
  | x :: y :: r => x ++ sep ++ joinS sep (y :: r)
def seqOf : D → Option (List D)
  | .lst xs => some xs
  | .tup xs => some xs
  | .lk xs => some xs
  | _ => none
def dJoin (_ : List Cell) (x y : D) : Option D := match x with
  | .str sep => match seqOf y with
    | some xs => match strsOf xs with
      | some ss => if (ss.map (·.length)).sum + ss.length * sep.length ≤ lim then some (.str (joinS sep ss)) else none
      | none => none
    | none => none
  | _ => none
section
variable {K : PySem.W.Frag} {H : Hp} {Fx : Addr → Prop} {ι : Io}
theorem strs_rep : ∀ {xs : List D} {vs : List V} {ss : List (List Nat)}, RepAll K H Fx ι xs vs → strsOf xs = some ss → vs = (ss.map fun s => (⟨s.toArray⟩ : Str)).map V.str ∧ ∀ s ∈ ss, OkS s
  | [], vs, ss, h, e => by
    simp only [RepAll] at h
    subst h
    cases e
    exact ⟨rfl, fun s hs => by cases hs⟩
  | d :: ds, vs, ss, h, e => by
    simp only [RepAll] at h
    obtain ⟨v, r, e1, h1, h2⟩ := h
    subst e1
    cases d with
    | str s =>
      simp only [strsOf] at e
      cases z : strsOf ds with
      | none =>
        rw [z] at e
        cases e
      | some zs =>
        rw [z] at e
        cases e
        obtain ⟨q1, q2⟩ := strs_rep h2 z
        obtain ⟨k1, k2⟩ := rep_str h1
        subst k1 q1
        refine ⟨rfl, fun t ht => ?_⟩
        rcases List.mem_cons.mp ht with ht | ht
        · subst ht
          exact k2
        · exact q2 t ht
    | _ => cases e
theorem join_str (sep : List Nat) : ∀ ss : List (List Nat), Str.join ⟨sep.toArray⟩ (ss.map fun s => (⟨s.toArray⟩ : Str)) = ⟨(joinS sep ss).toArray⟩
  | [] => rfl
  | [x] => rfl
  | x :: y :: r => by
    have ih := join_str sep (y :: r)
    simp only [List.map_cons] at ih ⊢
    show (⟨x.toArray⟩ : Str) ++ ⟨sep.toArray⟩ ++ Str.join _ _ = _
    rw [ih, str_app, str_app]
    rfl
theorem join_len (sep : List Nat) : ∀ ss : List (List Nat), (joinS sep ss).length ≤ (ss.map (·.length)).sum + ss.length * sep.length
  | [] => by simp [joinS]
  | [x] => by simp [joinS]
  | x :: y :: r => by
    have ih := join_len sep (y :: r)
    simp only [joinS, List.length_append, List.map_cons, List.sum_cons, List.length_cons] at ih ⊢
    have e : (r.length + 1 + 1) * sep.length = (r.length + 1) * sep.length + sep.length := Nat.succ_mul _ _
    omega
theorem join_mem (sep : List Nat) : ∀ (ss : List (List Nat)) (c : Nat), c ∈ joinS sep ss → c ∈ sep ∨ ∃ s ∈ ss, c ∈ s
  | [], c, h => by cases h
  | [x], c, h => .inr ⟨x, by simp, h⟩
  | x :: y :: r, c, h => by
    simp only [joinS, List.mem_append] at h
    rcases h with (h | h) | h
    · exact .inr ⟨x, by simp, h⟩
    · exact .inl h
    · rcases join_mem sep (y :: r) c h with q | ⟨s, q1, q2⟩
      · exact .inl q
      · exact .inr ⟨s, by simp only [List.mem_cons] at q1 ⊢; exact .inr q1, q2⟩
end
/-- a text's method with one argument, the argument only looked at -/
def Mt1B (X : Cx) (id : String) (k : List Cell → D → D → Option D) : Prop :=
  MtR X id fun x xs H Q => ∃ Fx ι σ st dx dy d y, SRel (gx X) Fx ι H σ st ∧ Rep X.K H Fx ι dx x ∧ xs = [y] ∧ RepB X.K H Fx ι dy y ∧ k st.mu dx dy = some d ∧ ∀ v H', Grow H H' → Rep X.K H' Fx ι d v → Q v H'
section
variable {X : Cx} {W : WX} {o e : Expr} {f fo : M D} {pos apos p : Pos} {id : String} {name : Str} {k : List Cell → D → D → Option D}
theorem mtJoin : Mt1B X "str.join" dJoin := by
  intro pins s σ H x xs v us Q I rx rs h'
  obtain ⟨Fx, ι, σ', st, dx, dy, d, y, r, hx, rfl, hy, e, q⟩ := h'
  unfold dJoin at e
  split at e
  · rename_i sep
    cases e1 : seqOf dy with
    | none =>
      rw [e1] at e
      cases e
    | some xs =>
      rw [e1] at e
      simp only at e
      cases e2 : strsOf xs with
      | none =>
        rw [e2] at e
        cases e
      | some ss =>
        rw [e2] at e
        simp only at e
        split at e
        · rename_i hl
          cases e
          obtain ⟨k1, k2⟩ := rep_str hx
          subst k1
          have go : ∀ (p : Addr) (vs : List V), (SqL X.K H p vs ∨ SqT X.K H p vs) → RepAll X.K H Fx ι xs vs → y = .ref p → wpAny (model X.prog X.w) X.A (call (.builtin "str.join") (v :: us)) (EP X pins σ Q) X.xe s := fun p vs hp hr ey => by
            subst ey
            obtain ⟨q1, q2⟩ := strs_rep hr e2
            subst q1
            refine L2.mt_join pins s σ H _ _ v us Q I rx rs ⟨_, p, ss.map fun s => (⟨s.toArray⟩ : Str), rfl, rfl, hp, ?_, ?_⟩
            · rw [List.map_map, List.length_map]
              have e3 : (fun s : List Nat => ((⟨s.toArray⟩ : Str)).length) = fun s => s.length := funext fun s => str_len s
              show ((ss.map fun s : List Nat => ((⟨s.toArray⟩ : Str)).length)).sum + _ ≤ _
              rw [e3, str_len]
              exact Nat.le_trans hl (by show (16000000 : Nat) ≤ 16777216; decide)
            · rw [TL.join_eq, join_str]
              refine q _ H (Grow.refl H) (mk_str ⟨Nat.le_trans (join_len _ _) hl, fun c hc => ?_⟩)
              rcases join_mem _ _ c hc with z | ⟨t, z1, z2⟩
              · exact k2.cps c z
              · exact (q2 t z1).cps c z2
          unfold seqOf at e1
          split at e1
          · cases e1
            obtain ⟨a, vs, z1, z2, z3⟩ := repB_lst hy
            exact go a vs (.inl (SqL.of z2)) z3 z1
          · cases e1
            obtain ⟨a, vs, z1, z2, z3⟩ := rep_tup (repB_of hy (by intro xs z; cases z))
            exact go a vs (.inr z2.sq) z3 z1
          · cases e1
            obtain ⟨a, vs, z1, z2, z3⟩ := rep_lk (repB_of hy (by intro xs z; cases z))
            exact go a vs (.inl z2.sq) z3 z1
          · cases e1
        · cases e
  · cases e
/-- a sign's place -/
def dIndex (_ : List Cell) (x y : D) : Option D := match x with
  | .str s => match y with
    | .str [c] => if s.contains c then some (.int (s.idxOf c)) else none
    | .str z => (subIx s z).map fun i : Nat => .int i
    | _ => none
  | _ => none
theorem first_at {s : List Nat} {c i : Nat} (h : s[i]? = some c) (n : ∀ k, k < i → ¬ s[k]? = some c) : s.idxOf c = i := by
  induction s generalizing i with
  | nil => simp at h
  | cons a s ih =>
    cases i with
    | zero =>
      simp at h
      subst h
      simp
    | succ i =>
      have h0 := n 0 (by omega)
      simp at h0 h
      rw [List.idxOf_cons]
      have hne : (a == c) = false := by simpa using h0
      rw [hne]
      simp only [cond_false]
      congr 1
      exact ih h fun k hk z => n (k + 1) (by omega) (by simpa using z)
theorem mtIndex : Mt1B X "str.index" dIndex := by
  intro pins s σ H x xs v us Q I rx rs h'
  obtain ⟨Fx, ι, σ', st, dx, dy, d, y, r, hx, rfl, hy, e, q⟩ := h'
  unfold dIndex at e
  split at e
  · rename_i t
    split at e
    · rename_i c
      split at e
      · rename_i hc
        cases e
        obtain ⟨k1, k2⟩ := rep_str hx
        obtain ⟨j1, j2⟩ := rep_str (repB_of hy (by intro xs z; cases z))
        subst k1 j1
        have at_ : ∀ i, PySem.StrLaws.At (⟨t.toArray⟩ : Str) ⟨#[c]⟩ (⟨t.toArray⟩ : Str).length i ↔ t[i]? = some c := fun i => by
          have z := PySem.StrLaws.subAt_one (⟨t.toArray⟩ : Str) c i
          rw [show (⟨t.toArray⟩ : Str).cps.toList = t by simp] at z
          exact z
        rcases PySem.StrLaws.occ_head (⟨t.toArray⟩ : Str) ⟨#[c]⟩ 1 (Nat.le_refl 1) with ⟨_, n⟩ | ⟨i, rest, eo, h1, h2⟩
        · have hm : c ∈ t := by simpa using hc
          obtain ⟨i, hi⟩ := List.mem_iff_getElem?.mp hm
          exact absurd ((at_ i).mpr hi) (n i)
        · refine mt_sindex pins s σ H _ _ v us Q I rx rs ⟨_, _, i, rest, rfl, rfl, eo, ?_⟩
          have e3 : t.idxOf c = i := first_at ((at_ i).mp h1) fun k hk z => h2 k hk ((at_ k).mpr z)
          rw [← e3]
          exact q _ H (Grow.refl H) mk_int
      · cases e
    · rename_i z _
      obtain ⟨k1, k2⟩ := rep_str hx
      obtain ⟨j1, j2⟩ := rep_str (repB_of hy (by intro xs z; cases z))
      subst k1 j1
      rcases occ_sub t z with ⟨e1, e2⟩ | ⟨i, r, e1, e2⟩
      · rw [e2] at e; cases e
      · rw [e2] at e
        cases e
        exact mt_sindex pins s σ H _ _ v us Q I rx rs ⟨_, _, i, r, rfl, rfl, e1, q _ H (Grow.refl H) mk_int⟩
    · cases e
  · cases e
/-- of a text and an argument -/
def isStr : D → Bool
  | .str _ => true
  | _ => false
def mMeth1 (k : List Cell → D → D → Option D) (f g : M D) : M D := fun st => (f st).bind fun x st1 => if isStr x then (g st1).bind fun y st2 => (match k st2.mu x y with
  | some d => .ok d st2
  | none => .bad) else .bad
def mMeth1V (k : List Cell → D → D → Option D) (f : M D) (i : Nat) : M D := fun st => (f st).bind fun x st1 => if isStr x then (match rd st1 i with
  | none => .bad
  | some y => (match k st1.mu x y with
    | some d => .ok d st1
    | none => .bad)) else .bad
theorem isStr_rep {K : PySem.W.Frag} {H : Hp} {Fx : Addr → Prop} {ι : Io} {d : D} {v : V} (h : Rep K H Fx ι d v) (e : isStr d = true) : ∃ a, v = .str a := by
  cases d with
  | str s => exact ⟨_, (rep_str h).1⟩
  | _ => cases e
theorem PEd.meth1 (slot : PySem.Slot "str" name id) (ty : typeOf (.builtin id) = pure (.type "method_descriptor")) (rule : Mt1B X id k) (ho : PEd X W o fo) (he : PEd X W e f)
    (hs : starEach [e] X.env = [(false, eval e X.env)]) (hbase : attributeBase o name X.env (eval o X.env) = eval o X.env) (hline : (apos.endLine == pos.line) = true) :
    PEd X W (.Call (.Attribute o name apos) [e] [] pos) (mMeth1 k fo f) := PE.imp (pe_m1 slot ty rule ho he hs hbase hline) fun σ H Q h => by
  obtain ⟨Fx, ι, st, r, q⟩ := h
  refine ⟨Fx, ι, st, r, q.bind.imp fun dx ι1 H1 st1 s1 r1 q1 x rx => ?_⟩
  split at q1
  · rename_i hs
    refine ⟨isStr_rep rx hs, Fx, ι1, st1, r1, q1.bind.imp fun dy ι2 H2 st2 s2 r2 q2 y ry => ?_⟩
    cases e : k st2.mu dx dy with
    | none =>
      simp only [e] at q2
      exact q2.elim
    | some d =>
      simp only [e] at q2
      exact ⟨Fx, ι2, σ, st2, dx, dy, d, y, r2, Rep.car s2.car _ _ rx, rfl, .inl ry, e, fun v H' gr rp => q2 ι2 H' gr.step (r2.same gr) v rp⟩
  · exact q1.elim
theorem PEd.meth1V {i : Nat} {y : Str} (slot : PySem.Slot "str" name id) (ty : typeOf (.builtin id) = pure (.type "method_descriptor")) (rule : Mt1B X id k) (ho : PEd X W o fo) (hN : X.N[i]? = some y) (hv : Vis X.env.scope y) (hd : (y == ("__debug__" : Str)) = false) (hcd : (y == ("__classdict__" : Str)) = false)
    (hbase : attributeBase o name X.env (eval o X.env) = eval o X.env) (hline : (apos.endLine == pos.line) = true) :
    PEd X W (.Call (.Attribute o name apos) [.Name y p] [] pos) (mMeth1V k fo i) := PE.imp (pe_m1 slot ty rule ho (pe_var hN hv hd hcd) (by rfl) hbase hline) fun σ H Q h => by
  obtain ⟨Fx, ι, st, r, q⟩ := h
  refine ⟨Fx, ι, st, r, q.bind.imp fun dx ι1 H1 st1 s1 r1 q1 x rx => ?_⟩
  split at q1
  · rename_i hs
    cases e1 : rd st1 i with
    | none =>
      simp only [e1] at q1
      exact q1.elim
    | some dy =>
      simp only [e1] at q1
      obtain ⟨w, hw, rb⟩ := r1.rd e1
      cases e : k st1.mu dx dy with
      | none =>
        simp only [e] at q1
        exact q1.elim
      | some d =>
        simp only [e] at q1
        exact ⟨isStr_rep rx hs, w, hw, Fx, ι1, σ, st1, dx, dy, d, w, r1, rx, rfl, rb, e, fun v H' gr rp => q1 ι1 H' gr.step (r1.same gr) v rp⟩
  · exact q1.elim
/-! ### a slot's own list -/
/-- xs.append(e) -/
def mAppend (i : Nat) (g : M D) : M D := fun st => match st.sl[i]? with
  | some (.ac _) => (g st).bind fun y st1 => (match st1.sl[i]? with
    | some (.ac xs) => if xs.length < lim then .ok .non { st1 with sl := st1.sl.set i (.ac (xs ++ [y])) } else .bad
    | _ => .bad)
  | _ => .bad
theorem PEd.append {i : Nat} {y : Str} {p2 : Pos} (hN : X.N[i]? = some y) (hv : Vis X.env.scope y) (hd : (y == ("__debug__" : Str)) = false) (hcd : (y == ("__classdict__" : Str)) = false) (he : PEd X W e f) (hs : starEach [e] X.env = (false, eval e X.env) :: starEach [] X.env)
    (hfew : ((backTo pos (starEach [e] X.env)).all (fun x => !x.1) && (backToKw pos (keywordEach [] X.env)).all (fun x => x.1.isSome) && decide (([e] : List Expr).length + ([] : List Keyword).length + (if ([] : List Keyword).isEmpty then 0 else 1) < 30)) = true)
    (hline : (apos.endLine == pos.line) = true) : PEd X W (.Call (.Attribute (.Name y p2) "append" apos) [e] [] pos) (mAppend i f) :=
  PE.imp (pe_bm PySem.F.plainAttrs_list PySem.F.slot_list_append PySem.F.type_list_append mt_append (pe_var hN hv hd hcd) (pa_cons he pa_nil hs) (by rfl) hfew hline hs (by rfl)) fun σ H Q h => by
    obtain ⟨Fx, ι, st, r, q⟩ := h
    unfold mAppend at q
    split at q
    · rename_i xs0 e0
      obtain ⟨a, vs, h1, h2, h3, h4⟩ := r.ac i xs0 e0
      refine ⟨.ref a, h2, .inl ⟨rfl, vs, SqL.of h3⟩, Fx, ι, st, r, q.bind.imp fun dy ι1 H1 st1 s1 r1 q1 w rw' => ?_⟩
      split at q1
      · rename_i xs e1
        split at q1
        · rename_i hl
          obtain ⟨a', vs', g1, g2, g3, g4⟩ := r1.ac i xs e1
          rw [h2] at g2
          cases g2
          refine ⟨a, vs', w, rfl, rfl, g3, by rw [← g4.length]; exact Nat.lt_of_lt_of_le hl lim_line, ?_⟩
          have rp := g4.append (.cons rw' .nil)
          exact q1 ι1 _ (step_upd ⟨_, g1⟩) (r1.acset e1 g1 rp) _ mk_non
        · exact q1.elim
      · exact q1.elim
    · exact q.elim
/-- xs.pop() -/
def mPop (i : Nat) : M D := fun st => match st.sl[i]? with
  | some (.ac xs) => (match xs.getLast? with
    | some y => .ok y { st with sl := st.sl.set i (.ac xs.dropLast) }
    | none => .bad)
  | _ => .bad
theorem PEd.pop {i : Nat} {y : Str} {p2 : Pos} (hN : X.N[i]? = some y) (hv : Vis X.env.scope y) (hd : (y == ("__debug__" : Str)) = false) (hcd : (y == ("__classdict__" : Str)) = false) (hline : (apos.endLine == pos.line) = true) :
    PEd X W (.Call (.Attribute (.Name y p2) "pop" apos) [] [] pos) (mPop i) :=
  PE.imp (pe_bm0 PySem.F.plainAttrs_list PySem.F.slot_list_pop PySem.F.type_list_pop mt_pop (pe_var hN hv hd hcd) (by rfl) hline) fun σ H Q h => by
    obtain ⟨Fx, ι, st, r, q⟩ := h
    unfold mPop at q
    split at q
    · rename_i xs e0
      obtain ⟨a, vs, h1, h2, h3, h4⟩ := r.ac i xs e0
      cases e1 : xs.getLast? with
      | none =>
        simp only [e1] at q
        exact q.elim
      | some w =>
        simp only [e1] at q
        rw [List.getLast?_eq_getElem?] at e1
        obtain ⟨u, g1, g2⟩ := h4.get e1
        refine ⟨.ref a, h2, .inl ⟨rfl, vs, SqL.of h3⟩, a, vs, u, rfl, rfl, h3, by rw [← h4.length]; exact g1, ?_⟩
        exact q ι _ (step_upd ⟨_, h1⟩) (r.acset e0 h1 h4.dropLast) u (Rep.car (step_upd ⟨_, h1⟩).car _ _ g2)
    · exact q.elim
/-- xs.extend(e) -/
def mExtend (i : Nat) (g : M D) : M D := fun st => match st.sl[i]? with
  | some (.ac _) => (g st).bind fun y st1 => (match y with
    | .lst ys => (match st1.sl[i]? with
      | some (.ac xs) => if xs.length + ys.length ≤ lim then .ok .non { st1 with sl := st1.sl.set i (.ac (xs ++ ys)) } else .bad
      | _ => .bad)
    | _ => .bad)
  | _ => .bad
theorem PEd.extend {i : Nat} {y : Str} {p2 : Pos} (hN : X.N[i]? = some y) (hv : Vis X.env.scope y) (hd : (y == ("__debug__" : Str)) = false) (hcd : (y == ("__classdict__" : Str)) = false) (he : PEd X W e f) (hs : starEach [e] X.env = (false, eval e X.env) :: starEach [] X.env)
    (hfew : ((backTo pos (starEach [e] X.env)).all (fun x => !x.1) && (backToKw pos (keywordEach [] X.env)).all (fun x => x.1.isSome) && decide (([e] : List Expr).length + ([] : List Keyword).length + (if ([] : List Keyword).isEmpty then 0 else 1) < 30)) = true)
    (hline : (apos.endLine == pos.line) = true) : PEd X W (.Call (.Attribute (.Name y p2) "extend" apos) [e] [] pos) (mExtend i f) :=
  PE.imp (pe_bm PySem.F.plainAttrs_list PySem.F.slot_list_extend PySem.F.type_list_extend mt_extend (pe_var hN hv hd hcd) (pa_cons he pa_nil hs) (by rfl) hfew hline hs (by rfl)) fun σ H Q h => by
    obtain ⟨Fx, ι, st, r, q⟩ := h
    unfold mExtend at q
    split at q
    · rename_i xs0 e0
      obtain ⟨a, vs, h1, h2, h3, h4⟩ := r.ac i xs0 e0
      refine ⟨.ref a, h2, .inl ⟨rfl, vs, SqL.of h3⟩, Fx, ι, st, r, q.bind.imp fun dy ι1 H1 st1 s1 r1 q1 w rw' => ?_⟩
      split at q1
      · rename_i ys
        split at q1
        · rename_i xs e1
          split at q1
          · rename_i hl
            obtain ⟨a', vs', g1, g2, g3, g4⟩ := r1.ac i xs e1
            rw [h2] at g2
            cases g2
            obtain ⟨b, ws, k1, k2, k3, k4⟩ := rep_lst rw'
            subst k1
            refine ⟨a, b, vs', ws, rfl, rfl, g3, k2, by rw [← g4.length, ← k4.length]; exact Nat.le_trans hl lim_line, ?_⟩
            exact q1 ι1 _ (step_upd ⟨_, g1⟩) (r1.acset e1 g1 (g4.append k4)) _ mk_non
          · exact q1.elim
        · exact q1.elim
      · exact q1.elim
    · exact q.elim
/-- xs.insert(i, e) -/
def mInsert (i : Nat) (f g : M D) : M D := fun st => match st.sl[i]? with
  | some (.ac _) => (f st).bind fun k st1 => (match k with
    | .int k => (g st1).bind fun y st2 => (match st2.sl[i]? with
      | some (.ac xs) => if xs.length < lim && decide (0 ≤ k) && decide (k < 2 ^ 63) then .ok .non { st2 with sl := st2.sl.set i (.ac (xs.take k.toNat ++ [y] ++ xs.drop k.toNat)) } else .bad
      | _ => .bad)
    | _ => .bad)
  | _ => .bad
theorem PEd.insert {i : Nat} {y : Str} {p2 : Pos} {e2 : Expr} {f2 : M D} (hN : X.N[i]? = some y) (hv : Vis X.env.scope y) (hd : (y == ("__debug__" : Str)) = false) (hcd : (y == ("__classdict__" : Str)) = false) (he : PEd X W e f) (he2 : PEd X W e2 f2) (hs : starEach [e, e2] X.env = (false, eval e X.env) :: starEach [e2] X.env) (hs2 : starEach [e2] X.env = (false, eval e2 X.env) :: starEach [] X.env)
    (hfew : ((backTo pos (starEach [e, e2] X.env)).all (fun x => !x.1) && (backToKw pos (keywordEach [] X.env)).all (fun x => x.1.isSome) && decide (([e, e2] : List Expr).length + ([] : List Keyword).length + (if ([] : List Keyword).isEmpty then 0 else 1) < 30)) = true)
    (hpl : ((backTo pos (starEach [e2] X.env)).any fun x => x.1) = false)
    (hline : (apos.endLine == pos.line) = true) : PEd X W (.Call (.Attribute (.Name y p2) "insert" apos) [e, e2] [] pos) (mInsert i f f2) :=
  PE.imp (pe_bm PySem.F.plainAttrs_list PySem.F.slot_list_insert PySem.F.type_list_insert mt_insert (pe_var hN hv hd hcd) (pa_cons he (pa_cons he2 pa_nil hs2) hs) (by rfl) hfew hline hs hpl) fun σ H Q h => by
    obtain ⟨Fx, ι, st, r, q⟩ := h
    unfold mInsert at q
    split at q
    · rename_i xs0 e0
      obtain ⟨a, vs, h1, h2, h3, h4⟩ := r.ac i xs0 e0
      refine ⟨.ref a, h2, .inl ⟨rfl, vs, SqL.of h3⟩, Fx, ι, st, r, q.bind.imp fun dk ι1 H1 st1 s1 r1 q1 w rw' => ?_⟩
      split at q1
      · rename_i k
        cases rep_int rw'
        refine ⟨Fx, ι1, st1, r1, q1.bind.imp fun dy ι2 H2 st2 s2 r2 q2 w2 rw2 => ?_⟩
        split at q2
        · rename_i xs e1
          split at q2
          · rename_i hl
            simp only [Bool.and_eq_true, decide_eq_true_eq] at hl
            obtain ⟨⟨l1, l2⟩, l3⟩ := hl
            obtain ⟨a', vs', g1, g2, g3, g4⟩ := r2.ac i xs e1
            rw [h2] at g2
            cases g2
            refine ⟨a, vs', k, w2, rfl, rfl, g3, by rw [← g4.length]; exact Nat.lt_of_lt_of_le l1 lim_line, l2, l3, ?_⟩
            have rp := ((g4.take k.toNat).append (.cons rw2 .nil)).append (g4.drop k.toNat)
            exact q2 ι2 _ (step_upd ⟨_, g1⟩) (r2.acset e1 g1 rp) _ mk_non
          · exact q2.elim
        · exact q2.elim
      · exact q1.elim
    · exact q.elim
end
end Pv
/-! Pv7: calls of defs; statements. -/
namespace Pv
open PySem PySem.Spec L2
/-- what a def does on plain data -/
abbrev Fn := List D → List Cell → R D
/-- a def's promise over plain data -/
def spD (g : Gx) (n : Nat) (h : Fn) : Sp := fun vs H Q E => vs.length = n ∧ ∃ Fx ι ds mu, SRel g Fx ι H [] ⟨[], mu⟩ ∧ RepAll g.K H Fx ι ds vs ∧
  Aft g (fun cls d _ H => E cls d H) Fx ι H [] (h ds mu) fun d ι' H' _ => ∀ v, Rep g.K H' Fx ι' d v → Q v H'
def mCall (h : Fn) (f : M (List D)) : M D := fun st => (f st).bind fun ds st1 => match h ds st1.mu with
  | .ok d s => .ok d ⟨st1.sl, s.mu⟩
  | .er e s => .er e ⟨st1.sl, s.mu⟩
  | .bad => .bad
section
variable {X : Cx} {W : WX} {x : Str} {p pos : Pos} {e : Expr} {es : List Expr} {fs : M (List D)} {k : Nat} {f : Addr} {fd : FuncData} {ps : List Str} {h : Fn}
theorem tCallS_of {g : Gx} {σ : L2.St} {H : Hp} {Q : VK} {n : Nat} (hn : ∀ ds mu, ds.length ≠ n → h ds mu = .bad) (q : tE g W (mCall h fs) σ H Q) : tCallS (spD g n h) (WE W) (tAs g W fs) σ H Q := by
  obtain ⟨Fx, ι, st, r, q⟩ := q
  refine ⟨Fx, ι, st, r, q.bind.imp fun ds ι1 H1 st1 s1 r1 q1 vs rv => ?_⟩
  by_cases hl : ds.length = n
  · refine ⟨by rw [← rv.length]; exact hl, strange Fx ι1, cells ι1, ds, st1.mu, r1.callee, RepAll.car car_callee _ _ rv, ?_⟩
    cases e : h ds st1.mu with
    | ok d s' =>
      rw [e] at q1
      intro ι2 H2 s2 r2 v rv2
      have rr := r1.called s2 (st' := ⟨s'.sl, s'.mu⟩) r2
      exact q1 (join ι1 ι2) H2 (join_step s2) rr v (Rep.car (car_back fun b => mt_join b) _ _ rv2)
    | er e s' =>
      rw [e] at q1
      intro ι2 H2 cls dd s2 r2 hx
      have rr := r1.called s2 (st' := ⟨s'.sl, s'.mu⟩) r2
      refine q1 (join ι1 ι2) H2 cls dd (join_step s2) rr ?_
      obtain ⟨C, z1, z2, z3⟩ := hx
      refine ⟨C, z1, z2, ?_⟩
      rcases z3 with z3 | ⟨a, fv, y1, y2, y3⟩
      · exact .inl z3
      · refine .inr ⟨a, fv, y1, y2, fun f x hf => ?_⟩
        obtain ⟨v, w1, w2⟩ := y3 f x hf
        exact ⟨v, w1, Rep.car (car_back fun b => mt_join b) _ _ w2⟩
    | bad =>
      rw [e] at q1
      exact q1.elim
  · rw [hn ds _ hl] at q1
    exact q1.elim
theorem PEd.call (F : FnOk X.prog X.w X.K X.mg X.base (L2N.CX X.prog X.w) k f fd ps (spD (gx X) ps.length h)) (hn : ∀ ds mu, ds.length ≠ ps.length → h ds mu = .bad) (hr : Room k X.A) (hg : Gl X x) (hm : X.mg x = some (.ref f)) (hk : PySem.W.keepIn X.K (.ref f) = true) (hb : Binds X.K fd ps []) (tk : L2N.Takes X W)
    (ha : PAd X W (e :: es) fs) (hdb : (x == ("__debug__" : Str)) = false) (he : starEach (e :: es) X.env = (false, eval e X.env) :: starEach es X.env) (hpl : (backTo pos (starEach es X.env)).any (·.1) = false) :
    PEd X W (.Call (.Name x p) (e :: es) [] pos) (mCall h fs) := PE.imp (pe_callS F hr hg hm hk hb (fun σ => L2N.passAt tk σ) ha hdb he hpl) fun σ H Q q => tCallS_of hn q
/-- f() -/
theorem tCall0_of {g : Gx} {σ : L2.St} {H : Hp} {Q : VK} (q : tE g W (mCall h mNil) σ H Q) : spD g 0 h [] H Q (WE W σ) := by
  have z := tCallS_of (n := 0) (h := fun ds mu => if ds.length = 0 then h ds mu else .bad) (fun ds mu hl => if_neg hl) (W := W) (g := g) (σ := σ) (H := H) (Q := Q) (fs := mNil) (by
    obtain ⟨Fx, ι, st, r, q⟩ := q
    exact ⟨Fx, ι, st, r, q⟩)
  obtain ⟨Fx, ι, st, r, z⟩ := z
  have z2 := z.ok r [] .nil
  obtain ⟨_, Fx2, ι2, ds, mu, r2, rp, a⟩ := z2
  have e : ds = [] := by
    cases ds with
    | nil => rfl
    | cons d ds =>
      have := rp.length
      cases this
  subst e
  exact ⟨rfl, Fx2, ι2, [], mu, r2, rp, a⟩
theorem PEd.call0 (F : FnOk X.prog X.w X.K X.mg X.base (L2N.CX X.prog X.w) k f fd [] (spD (gx X) 0 h)) (hr : Room k X.A) (hg : Gl X x) (hm : X.mg x = some (.ref f)) (hk : PySem.W.keepIn X.K (.ref f) = true) (hb : Binds X.K fd [] []) (tk : L2N.Takes X W)
    (hdb : (x == ("__debug__" : Str)) = false) : PEd X W (.Call (.Name x p) [] [] pos) (mCall h mNil) := ⟨fun pins s σ H Q I q => by
  refine wpAny_Call_Name_kw (ld_glob I hg hm ?_ hdb)
  exact PySem.W.callWith_K0 I.kIn hk (run_fnS (us := []) F hr hb (L2N.passAt tk σ) I .nil (tCall0_of q))⟩
end
/-! ### statements -/
inductive Fl where
  | nx | rt (d : D) | bk | ct
  deriving Inhabited
abbrev MS := M Fl
/-- behind a statement: the slots may have changed -/
def AftS (g : Gx) (W : WX) (Fx : Addr → Prop) (ι : Io) (H : Hp) (r : R Fl) (Dn : Ends) : Prop :=
  match r with
  | .ok a st' => ∀ ι' H' σ', Step ι H ι' H' → SRel g Fx ι' H' σ' st' → (match a with
    | .nx => Dn.nx σ' H'
    | .bk => Dn.bk σ' H'
    | .ct => Dn.ct σ' H'
    | .rt d => ∀ v, Rep g.K H' Fx ι' d v → Dn.rt v H')
  | .er e st' => ∀ ι' H' σ' cls d, Step ι H ι' H' → SRel g Fx ι' H' σ' st' → (∃ C, cls = .ref C ∧ g.mg e.c = some (.ref C) ∧ ((e.fs = [] ∧ d = none) ∨ ∃ a fv, d = some a ∧ H' a = some (.xd fv) ∧ ∀ f x, e.fs.lookup f = some x → ∃ v, fv.lookup f = some v ∧ Rep g.K H' Fx ι' x v)) → W cls d σ' H'
  | .bad => False
def tS (g : Gx) (W : WX) (f : MS) : TS := fun Dn σ H => ∃ Fx ι st, SRel g Fx ι H σ st ∧ AftS g W Fx ι H (f st) Dn
def PSd (X : Cx) (W : WX) (s : Stmt) (f : MS) : Prop := PS X s (tS (gx X) W f)
def PSsd (X : Cx) (W : WX) (s : List Stmt) (f : MS) : Prop := PSs X s (tS (gx X) W f)
section
variable {g : Gx} {W : WX} {Fx : Addr → Prop} {ι ι' : Io} {H H' : Hp} {Dn : Ends} {r : R Fl}
theorem AftS.later (s : Step ι H ι' H') (h : AftS g W Fx ι H r Dn) : AftS g W Fx ι' H' r Dn := by
  cases r with
  | ok a st' => exact fun ι2 H2 σ2 s2 r2 => h ι2 H2 σ2 (s.trans s2) r2
  | er e st' => exact fun ι2 H2 σ2 cls d s2 r2 x => h ι2 H2 σ2 cls d (s.trans s2) r2 x
  | bad => exact h
/-- an expression ahead -/
theorem AftS.bind {α : Type} {σ : L2.St} {r : R α} {k : α → ES → R Fl} (h : AftS g W Fx ι H (r.bind k) Dn) : Aft g W Fx ι H σ r fun a ι1 H1 st1 => AftS g W Fx ι1 H1 (k a st1) Dn := by
  cases r with
  | ok a st' => exact fun ι2 H2 s2 r2 => AftS.later s2 h
  | er e st' => exact fun ι2 H2 cls d s2 r2 x => h ι2 H2 σ cls d s2 r2 x
  | bad => exact h
end
def sNext : MS := fun st => .ok .nx st
def sSeq (f g : MS) : MS := fun st => (f st).bind fun a st1 => match a with
  | .nx => g st1
  | _ => .ok a st1
def sBreak : MS := fun st => .ok .bk st
def sCont : MS := fun st => .ok .ct st
def sDrop (f : M D) : MS := fun st => (f st).bind fun _ st1 => .ok .nx st1
def sRet (f : M D) : MS := fun st => (f st).bind fun d st1 => .ok (.rt d) st1
def sRetN : MS := fun st => .ok (.rt .non) st
/-- a name's store: plain data; a new list of one's own -/
def sSet (i : Nat) (f : M D) : MS := fun st => (f st).bind fun d st1 => .ok .nx { st1 with sl := st1.sl.set i (.va d) }
def sSetL (i : Nat) (f : M (List D)) : MS := fun st => (f st).bind fun xs st1 => if i < st1.sl.length then .ok .nx { st1 with sl := st1.sl.set i (.ac xs) } else .bad
/-- several names at once -/
def putAll : List Nat → List D → List Slot → Option (List Slot)
  | [], [], sl => some sl
  | i :: is, d :: ds, sl => putAll is ds (sl.set i (.va d))
  | _, _, _ => none
def sUnpack (is : List Nat) (f : M D) : MS := fun st => (f st).bind fun d st1 => match d with
  | .tup ds => (match putAll is ds st1.sl with
    | some sl => .ok .nx { st1 with sl := sl }
    | none => .bad)
  | _ => .bad
section
variable {X : Cx} {W : WX} {e c : Expr} {f : M D} {s : Stmt} {ss a b : List Stmt} {t u : MS} {pos p : Pos} {tc : M Bool}
theorem PSsd.nil : PSsd X W [] sNext := PSs.imp pss_nil fun Dn σ H h => by
  obtain ⟨Fx, ι, st, r, q⟩ := h
  exact q ι H σ Step.refl r
/-- the ends of a first statement -/
def endsOf (Dn : Ends) (u : TS) : Ends := { Dn with nx := u Dn }
theorem tS_seq {g : Gx} {Dn : Ends} {σ : L2.St} {H : Hp} (h : tS g W (sSeq t u) Dn σ H) : tSeq (tS g W t) (tS g W u) Dn σ H := by
  obtain ⟨Fx, ι, st, r, q⟩ := h
  refine ⟨Fx, ι, st, r, ?_⟩
  have q' : AftS g W Fx ι H ((t st).bind fun a st1 => match a with
    | .nx => u st1
    | _ => .ok a st1) Dn := q
  cases e : t st with
  | ok a st1 =>
    rw [e] at q'
    intro ι1 H1 σ1 s1 r1
    cases a with
    | nx => exact ⟨Fx, ι1, st1, r1, AftS.later s1 q'⟩
    | rt d => exact q' ι1 H1 σ1 s1 r1
    | bk => exact q' ι1 H1 σ1 s1 r1
    | ct => exact q' ι1 H1 σ1 s1 r1
  | er x st1 =>
    rw [e] at q'
    exact q'
  | bad =>
    rw [e] at q'
    exact q'
theorem PSsd.cons (h1 : PSd X W s t) (h2 : PSsd X W ss u) : PSsd X W (s :: ss) (sSeq t u) := PSs.imp (pss_cons h1 h2) fun _ _ _ h => tS_seq h
theorem PSsd.one (h1 : PSd X W s t) : PSsd X W [s] t := PSs.imp (pss_one h1) fun _ _ _ h => h
theorem PSd.pass : PSd X W (.Pass pos) sNext := PS.imp ps_pass fun Dn σ H h => by
  obtain ⟨Fx, ι, st, r, q⟩ := h
  exact q ι H σ Step.refl r
theorem PSd.brk : PSd X W (.Break pos) sBreak := PS.imp ps_break fun Dn σ H h => by
  obtain ⟨Fx, ι, st, r, q⟩ := h
  exact q ι H σ Step.refl r
theorem PSd.cont : PSd X W (.Continue pos) sCont := PS.imp ps_continue fun Dn σ H h => by
  obtain ⟨Fx, ι, st, r, q⟩ := h
  exact q ι H σ Step.refl r
theorem PSd.doc {x : Str} {j : Nat} {p : Pos} : PSd X W (.Expr (.Constant (.str x) j p) pos) sNext := PS.imp ps_doc fun Dn σ H h => by
  obtain ⟨Fx, ι, st, r, q⟩ := h
  exact q ι H σ Step.refl r
theorem PSd.expr (he : PEd X W e f) (hs : swapsWith e none pos.line X.env = pure false) : PSd X W (.Expr e pos) (sDrop f) := PS.imp (ps_expr he hs) fun Dn σ H h => by
  obtain ⟨Fx, ι, st, r, q⟩ := h
  refine ⟨Fx, ι, st, r, q.bind.imp fun d ι1 H1 st1 s1 r1 q1 v rv => ?_⟩
  exact q1 ι1 H1 σ Step.refl r1
theorem PSd.ret (he : PEd X W e f) : PSd X W (.Return (some e) pos) (sRet f) := PS.imp (ps_ret he) fun Dn σ H h => by
  obtain ⟨Fx, ι, st, r, q⟩ := h
  refine ⟨Fx, ι, st, r, q.bind.imp fun d ι1 H1 st1 s1 r1 q1 v rv => ?_⟩
  exact q1 ι1 H1 σ Step.refl r1 v rv
theorem PSd.retN : PSd X W (.Return none pos) sRetN := PS.imp ps_retN fun Dn σ H h => by
  obtain ⟨Fx, ι, st, r, q⟩ := h
  exact q ι H σ Step.refl r .non mk_non
theorem PSd.ite (hc : PTd X W c tc) (ha : PSsd X W a t) (hb : PSsd X W b u) : PSd X W (.If c a b pos) (mIte tc t u) := PS.imp (ps_if hc ha hb) fun Dn σ H h => by
  obtain ⟨Fx, ι, st, r, q⟩ := h
  refine ⟨Fx, ι, st, r, (AftS.bind (σ := σ) q).imp fun d ι1 H1 st1 s1 r1 q1 => ?_⟩
  cases d with
  | true => exact ⟨Fx, ι1, st1, r1, q1⟩
  | false => exact ⟨Fx, ι1, st1, r1, q1⟩
theorem PSd.set {i : Nat} {x : Str} {pos' : Pos} (hN : X.N.Nodup) (hi : X.N[i]? = some x) (hx : Loc X.env.scope x) (he : PEd X W e f) (hs : swapsWith e (some (.Name x pos')) pos.line X.env = pure false) (hf : X.fn x = true ∨ X.env.scope.names.lookup x = some .local) :
    PSd X W (.Assign [.Name x pos'] e pos) (sSet i f) := PS.imp (ps_set hN hi hx he hs hf) fun Dn σ H h => by
  obtain ⟨Fx, ι, st, r, q⟩ := h
  refine ⟨Fx, ι, st, r, q.bind.imp fun d ι1 H1 st1 s1 r1 q1 v rv => ?_⟩
  exact q1 _ H1 _ step_cut (r1.put i rv)
/-- name = a new list -/
theorem tF_set {g : Gx} {i : Nat} {fl : M (List D)} {Dn : Ends} {σ : L2.St} {H : Hp} (h : tS g W (sSetL i fl) Dn σ H) : tAsg (tF g W fl) (gName i) Dn σ H := by
  obtain ⟨Fx, ι, st, r, q⟩ := h
  refine ⟨Fx, ι, st, r, ?_⟩
  have q' : AftS g W Fx ι H ((fl st).bind fun xs st1 => if i < st1.sl.length then .ok .nx { st1 with sl := st1.sl.set i (.ac xs) } else .bad) Dn := q
  cases e : fl st with
  | ok xs st1 =>
    rw [e] at q'
    intro ι1 H1 s1 r1 a vs n0 ha r2 rv
    have q2 : AftS g W Fx ι H (if i < st1.sl.length then .ok .nx { st1 with sl := st1.sl.set i (.ac xs) } else .bad) Dn := q'
    split at q2
    · rename_i hi
      have hf : ¬ Fx a := fun z => by
        obtain ⟨o, e⟩ := r.fxt a z
        rw [n0] at e
        cases e
      rcases r2.take i ha hf rv with z | z
      · refine q2 _ H1 _ ?_ z
        refine ⟨s1.keep, fun b hb => ?_, fun n b e => ?_, s1.th⟩
        · rcases ow_own hb with hb | hb
          · rw [hb]
            exact .inr n0
          · exact s1.ow b hb
        · unfold own
          rw [if_neg (by intro z; cases z)]
          exact s1.ce n b e
      · exact absurd hi (by omega)
    · exact q2.elim
  | er x st1 =>
    rw [e] at q'
    exact fun ι1 H1 cls d s1 r1 hx => q' ι1 H1 σ cls d s1 r1 hx
  | bad =>
    rw [e] at q'
    exact q'
theorem PSd.setL {i : Nat} {x : Str} {pos' : Pos} {fl : M (List D)} (hN : X.N.Nodup) (hi : X.N[i]? = some x) (hx : Loc X.env.scope x) (he : PFd X W e fl) (hs : swapsWith e (some (.Name x pos')) pos.line X.env = pure false) (hf : X.fn x = true ∨ X.env.scope.names.lookup x = some .local) :
    PSd X W (.Assign [.Name x pos'] e pos) (sSetL i fl) := PS.imp (ps_set hN hi hx he hs hf) fun Dn σ H h => tF_set h
/-- a new list that is frozen at once -/
theorem PFd.frozen {fl : M (List D)} (h : PFd X W e fl) : PEd X W e (mLst fl) := PE.imp h fun σ H Q q => by
  obtain ⟨Fx, ι, st, r, q⟩ := q
  refine ⟨Fx, ι, st, r, q.bind.imp fun xs ι1 H1 st1 s1 r1 q1 a vs n0 ha r2 rv => ?_⟩
  have k : Car (fun b => Fx b ∨ b = a) ι1 H1 Fx ι1 H1 := car_le (fun b z => z.elim (fun q => .inl (.inl q)) .inr) fun _ _ z => z
  refine q1.ok r1 (.ref a) ?_
  simp only [Rep]
  refine ⟨a, vs, rfl, ha, fun z => ?_, RepAll.car k _ _ rv⟩
  rcases z with z | z
  · obtain ⟨o, e⟩ := r.fxt a z
    rw [n0] at e
    cases e
  · exact r2.fx a (.inr rfl) z
end
end Pv
/-! Pv8: targets, for, while. -/
namespace Pv
open PySem PySem.Spec L2
/-- a target: a name, a tuple of names -/
inductive Tg where
  | nm (i : Nat) | tp (is : List Nat)
def Tg.put : Tg → D → List Slot → Option (List Slot)
  | .nm i, d, sl => some (sl.set i (.va d))
  | .tp is, .tup ds, sl => putAll is ds sl
  | .tp _, _, _ => none
def tG (g : Gx) (T : Tg) : TG := fun v σ H Q => ∃ Fx ι st d sl', SRel g Fx ι H σ st ∧ Rep g.K H Fx ι d v ∧ T.put d st.sl = some sl' ∧ ∀ ι' σ', Step ι H ι' H → SRel g Fx ι' H σ' ⟨sl', st.mu⟩ → (∀ j, (match T with
  | .nm i => j ≠ i
  | .tp is => j ∉ is) → σ'[j]? = σ[j]?) → Q σ' H
def PGd (X : Cx) (tg : Expr) (T : Tg) : Prop := PG X tg (tG (gx X) T)
theorem PG.imp {X : Cx} {e : Expr} {t t' : TG} (h : PG X e t) (k : ∀ v σ H Q, t' v σ H Q → t v σ H Q) : PG X e t' := ⟨fun pins s σ H v u Q I r q => h.run pins s σ H v u Q I r (k v σ H Q q)⟩
theorem PGs.imp {X : Cx} {e : List Expr} {t t' : TGs} (h : PGs X e t) (k : ∀ v σ H Q, t' v σ H Q → t v σ H Q) : PGs X e t' := ⟨fun pins s σ H v u Q I r q => h.run pins s σ H v u Q I r (k v σ H Q q)⟩
def tGs (g : Gx) (is : List Nat) : TGs := fun vs σ H Q => ∃ Fx ι st ds sl', SRel g Fx ι H σ st ∧ RepAll g.K H Fx ι ds vs ∧ putAll is ds st.sl = some sl' ∧ ∀ ι' σ', Step ι H ι' H → SRel g Fx ι' H σ' ⟨sl', st.mu⟩ → (∀ j, j ∉ is → σ'[j]? = σ[j]?) → Q σ' H
section
variable {X : Cx} {W : WX} {e c : Expr} {f : M D} {s : Stmt} {ss a b : List Stmt} {t u : MS} {pos p : Pos} {tc : M Bool}
theorem PGd.nm {i : Nat} {x : Str} (hN : X.N.Nodup) (hi : X.N[i]? = some x) (hx : Loc X.env.scope x) (hf : X.fn x = true ∨ X.env.scope.names.lookup x = some .local) : PGd X (.Name x pos) (.nm i) :=
  PG.imp (pg_name hN hi hx hf) fun v σ H Q h => by
    obtain ⟨Fx, ι, st, d, sl', r, rv, e, q⟩ := h
    cases e
    exact q _ _ step_cut (r.put i rv) fun j hj => List.getElem?_set_ne (Ne.symm hj)
/-- names, one after another -/
def NamesOk (X : Cx) : List Expr → List Nat → Prop
  | [], [] => True
  | .Name x _ :: es, i :: is => X.N[i]? = some x ∧ Loc X.env.scope x ∧ (X.fn x = true ∨ X.env.scope.names.lookup x = some .local) ∧ NamesOk X es is
  | _, _ => False
theorem PGs_names (hN : X.N.Nodup) : ∀ (es : List Expr) (is : List Nat), NamesOk X es is → PGs X es (tGs (gx X) is)
  | [], [], _ => PGs.imp pgs_nil fun v σ H Q h => by
    obtain ⟨Fx, ι, st, ds, sl', r, rv, e, q⟩ := h
    cases ds with
    | nil =>
      simp only [RepAll] at rv
      subst rv
      cases e
      exact ⟨rfl, q ι σ Step.refl r fun _ _ => rfl⟩
    | cons d ds => cases e
  | .Name x p :: es, i :: is, h => PGs.imp (pgs_cons (pg_name hN h.1 h.2.1 h.2.2.1) (PGs_names hN es is h.2.2.2) (by rfl)) fun v σ H Q h => by
    obtain ⟨Fx, ι, st, ds, sl', r, rv, e, q⟩ := h
    cases ds with
    | nil => cases e
    | cons d ds =>
      simp only [RepAll] at rv
      obtain ⟨v1, vr, e1, h1, h2⟩ := rv
      subst e1
      refine ⟨v1, vr, rfl, Fx, _, _, ds, sl', r.put i h1, RepAll.car step_cut.car _ _ h2, e, fun ι' σ' s' r' hs => q ι' σ' (step_cut.trans s') r' fun j hj => ?_⟩
      simp only [List.mem_cons, not_or] at hj
      rw [hs j hj.2]
      exact List.getElem?_set_ne (Ne.symm hj.1)
theorem assignEach_names (X : Cx) : ∀ (es : List Expr) (is : List Nat), NamesOk X es is → (assignEach es X.env).length = is.length ∧ (assignEach es X.env).findIdx? (·.1) = none
  | [], [], _ => ⟨rfl, rfl⟩
  | .Name x p :: es, i :: is, h => by
    obtain ⟨h1, h2⟩ := assignEach_names X es is h.2.2.2
    refine ⟨?_, ?_⟩
    · show ((false, assign (.Name x p) X.env) :: assignEach es X.env).length = _
      rw [List.length_cons, h1, List.length_cons]
    · show ((false, assign (.Name x p) X.env) :: assignEach es X.env).findIdx? (·.1) = none
      rw [List.findIdx?_cons, h2]
      rfl
theorem putAll_len : ∀ {is : List Nat} {ds : List D} {sl sl' : List Slot}, putAll is ds sl = some sl' → ds.length = is.length
  | [], [], sl, sl', _ => rfl
  | i :: is, d :: ds, sl, sl', h => by
    rw [List.length_cons, List.length_cons, putAll_len (is := is) (ds := ds) (sl := sl.set i (.va d)) (sl' := sl') h]
theorem PGd.tp {is : List Nat} {es : List Expr} {k : Nat} (hc : X.calm = true) (hN : X.N.Nodup) (h : NamesOk X es is) : PGd X (.Tuple es k pos) (.tp is) :=
  PG.imp (pg_tup hc (PGs_names hN es is h) (assignEach_names X es is h).1 (assignEach_names X es is h).2) fun v σ H Q h => by
    obtain ⟨Fx, ι, st, d, sl', r, rv, e, q⟩ := h
    cases d with
    | tup ds =>
      obtain ⟨a, vs, e1, t1, rr⟩ := rep_tup rv
      subst e1
      have e' : putAll is ds st.sl = some sl' := e
      exact ⟨a, vs, rfl, t1.sq, by rw [← rr.length]; exact putAll_len e', Fx, ι, st, ds, sl', r, rr, e', fun ι' σ' s' r' hs => q ι' σ' s' r' hs⟩
    | _ => cases e
/-- target = e -/
def sAsg (T : Tg) (f : M D) : MS := fun st => (f st).bind fun d st1 => match T.put d st1.sl with
  | some sl => .ok .nx ⟨sl, st1.mu⟩
  | none => .bad
theorem PSd.asg {tg : Expr} {T : Tg} (he : PEd X W e f) (hg : PGd X tg T) (hs : swapsWithSole [tg] e pos.line X.env = pure false) (hw : swappedStores [tg] e X.env = pure none) (h1 : (assignEach [tg] X.env).map (·.2) = [assign tg X.env]) :
    PSd X W (.Assign [tg] e pos) (sAsg T f) := PS.imp (ps_asg he hg hs hw h1) fun Dn σ H h => by
  obtain ⟨Fx, ι, st, r, q⟩ := h
  refine ⟨Fx, ι, st, r, (AftS.bind (σ := σ) q).imp fun d ι1 H1 st1 s1 r1 q1 v rv => ?_⟩
  cases e : T.put d st1.sl with
  | none =>
    simp only [e] at q1
    exact q1.elim
  | some sl =>
    simp only [e] at q1
    exact ⟨Fx, ι1, st1, d, sl, r1, rv, e, fun ι' σ' s' r' _ => q1 ι' H1 σ' s' r'⟩
/-! ### what is walked -/
/-- J gives the items, whatever happens to owned things -/
def IterOk (g : Gx) (Fx : Addr → Prop) (ι : Io) (H : Hp) (items : List D) (J : It) : Prop :=
  ∃ (G : Hp → Prop) (Y : Nat → Hp → V → Hp → Prop), Walk J items.length G Y ∧ (∀ ι' H', Step ι H ι' H' → G H') ∧
    ∀ i Fx' ι' H' σ' st' x H2, i < items.length → Car Fx ι H Fx' ι' H' → SRel g Fx' ι' H' σ' st' → Y i H' x H2 → Grow H' H2 ∧ ∃ d, items[i]? = some d ∧ Rep g.K H2 Fx' ι' d x
def tI (g : Gx) (W : WX) (f : M (List D)) : TI := fun σ H R => ∃ Fx ι st, SRel g Fx ι H σ st ∧ Aft g W Fx ι H σ (f st) fun items ι' H' _ => ∀ J, IterOk g Fx ι' H' items J → R J H'
def PId (X : Cx) (W : WX) (tg iter : Expr) (f : M (List D)) : Prop := PI X tg iter (tI (gx X) W f)
theorem PI.imp {X : Cx} {tg e : Expr} {t t' : TI} (h : PI X tg e t) (k : ∀ σ H R, t' σ H R → t σ H R) : PI X tg e t' := ⟨fun pins s σ H R I q => h.run pins s σ H R I (k σ H R q)⟩
theorem iterLst {g : Gx} {Fx : Addr → Prop} {ι : Io} {H : Hp} {items : List D} {a : Addr} {vs : List V} (h1 : H a = some (.lst vs)) (h2 : ¬ Mt Fx ι a) (h3 : RepAll g.K H Fx ι items vs) : IterOk g Fx ι H items (Itl g.K a) := by
  refine ⟨fun H' => SqL g.K H' a vs, YAt vs, by rw [h3.length]; exact walk_list, fun ι' H' s => SqL.of (s.keep a _ h1 fun z => h2 (.inr z)), fun i Fx' ι' H' σ' st' x H2 hi s r y => ?_⟩
  obtain ⟨e1, e2⟩ := y
  subst e1
  obtain ⟨d, q1, q2⟩ := h3.get' e2
  exact ⟨Grow.refl _, d, q1, Rep.car s _ _ q2⟩
theorem iterLk {g : Gx} {Fx : Addr → Prop} {ι : Io} {H : Hp} {items : List D} {a : Addr} {vs : List V} (h1 : LkAt g.K H (Mt Fx ι) a vs) (h3 : RepAll g.K H Fx ι items vs) : IterOk g Fx ι H items (Itl g.K a) := by
  refine ⟨fun H' => SqL g.K H' a vs, YAt vs, by rw [h3.length]; exact walk_list, fun ι' H' s => (LkAt.car (s.car (Fx := Fx)) h1).sq, fun i Fx' ι' H' σ' st' x H2 hi s r y => ?_⟩
  obtain ⟨e1, e2⟩ := y
  subst e1
  obtain ⟨d, q1, q2⟩ := h3.get' e2
  exact ⟨Grow.refl _, d, q1, Rep.car s _ _ q2⟩
theorem iterTup {g : Gx} {Fx : Addr → Prop} {ι : Io} {H : Hp} {items : List D} {a : Addr} {vs : List V} (h1 : TupAt g.K H (Mt Fx ι) a vs) (h3 : RepAll g.K H Fx ι items vs) : IterOk g Fx ι H items (Itt g.K a) := by
  refine ⟨fun H' => SqT g.K H' a vs, YAt vs, by rw [h3.length]; exact walk_tup, fun ι' H' s => (TupAt.car (s.car (Fx := Fx)) h1).sq, fun i Fx' ι' H' σ' st' x H2 hi s r y => ?_⟩
  obtain ⟨e1, e2⟩ := y
  subst e1
  obtain ⟨d, q1, q2⟩ := h3.get' e2
  exact ⟨Grow.refl _, d, q1, Rep.car s _ _ q2⟩
def signsD (s : List Nat) : List D := s.map fun c => .str [c]
theorem iterStr {g : Gx} {Fx : Addr → Prop} {ι : Io} {H : Hp} {s : List Nat} (o : OkS s) : IterOk g Fx ι H (signsD s) (Its ⟨s.toArray⟩) := by
  have hw : Walk (Its ⟨s.toArray⟩) (signsD s).length (fun _ => True) (fun i H v H' => H' = H ∧ ∃ c, (⟨s.toArray⟩ : Str).cps[i]? = some c ∧ v = .str ⟨#[c]⟩) := by
    have : (signsD s).length = (⟨s.toArray⟩ : Str).cps.size := by simp [signsD]
    rw [this]
    exact walk_str
  refine ⟨fun _ => True, _, hw, fun _ _ _ => trivial, fun i Fx' ι' H' σ' st' x H2 hi s' r y => ?_⟩
  obtain ⟨e1, c, e2, e3⟩ := y
  subst e1 e3
  have e2' : s[i]? = some c := by simpa using e2
  refine ⟨Grow.refl _, .str [c], by simp [signsD, e2'], mk_str (o.sub ?_ fun c' hc' => ?_)⟩
  · have := List.length_pos_of_mem (List.mem_of_getElem? e2')
    show 1 ≤ _
    omega
  · cases List.mem_singleton.mp hc'
    exact List.mem_of_getElem? e2'
/-- range's ints -/
def rangeD (lo : Int) (n : Nat) : List D := (List.range n).map fun i => .int (lo + (i : Nat))
theorem iterRange {g : Gx} {Fx : Addr → Prop} {ι : Io} {H : Hp} {lo : Int} {n : Nat} : IterOk g Fx ι H (rangeD lo n) (Itr lo n) := by
  have hw : Walk (Itr lo n) (rangeD lo n).length (fun _ => True) (YFn fun i => .int (lo + (i : Nat))) := by
    have : (rangeD lo n).length = n := by simp [rangeD]
    rw [this]
    exact walk_range
  refine ⟨fun _ => True, _, hw, fun _ _ _ => trivial, fun i Fx' ι' H' σ' st' x H2 hi s' r y => ?_⟩
  obtain ⟨e1, e2⟩ := y
  subst e1 e2
  have hi' : i < n := by simpa [rangeD] using hi
  exact ⟨Grow.refl _, .int (lo + (i : Nat)), by simp [rangeD, hi'], mk_int⟩
/-- an expression's items: a list, a tuple, a text -/
def itemsOf : D → Option (List D)
  | .lst xs => some xs
  | .lk xs => some xs
  | .tup xs => some xs
  | .str s => some (signsD s)
  | _ => none
def mItems (f : M D) : M (List D) := fun st => (f st).bind fun d st1 => match itemsOf d with
  | some xs => .ok xs st1
  | none => .bad
theorem PI.or {X : Cx} {tg e : Expr} {t t' : TI} (h : PI X tg e t) (h' : PI X tg e t') : PI X tg e (fun σ H R => t σ H R ∨ t' σ H R) := ⟨fun pins s σ H R I q => q.elim (h.run pins s σ H R I) (h'.run pins s σ H R I)⟩
theorem PId.items {tg : Expr} (he : PEd X W e f) : PId X W tg e (mItems f) :=
  PI.imp (PI.or (pi_list he) (PI.or (pi_tup he) (pi_str he))) fun σ H R h => by
    obtain ⟨Fx, ι, st, r, q⟩ := h
    have q' : Aft (gx X) W Fx ι H σ (f st) _ := q.bind
    cases e : f st with
    | ok d st1 =>
      rw [e] at q'
      have q2 : ∀ ι1 H1, Step ι H ι1 H1 → SRel (gx X) Fx ι1 H1 σ st1 → ∀ xs, itemsOf d = some xs → ∀ J, IterOk (gx X) Fx ι1 H1 xs J → R J H1 := fun ι1 H1 s1 r1 xs hx => by
        have z := q' ι1 H1 s1 r1
        simp only [hx] at z
        exact z.ok r1
      have no : ∀ {xs}, itemsOf d ≠ some xs ∨ True := fun {xs} => .inr trivial
      cases d with
      | lst xs =>
        refine .inl ⟨Fx, ι, st, r, ?_⟩
        rw [e]
        intro ι1 H1 s1 r1 v rv
        obtain ⟨a, vs, e1, h1, h2, h3⟩ := rep_lst rv
        exact ⟨a, e1, ⟨vs, SqL.of h1⟩, q2 ι1 H1 s1 r1 xs rfl _ (iterLst h1 h2 h3)⟩
      | lk xs =>
        refine .inl ⟨Fx, ι, st, r, ?_⟩
        rw [e]
        intro ι1 H1 s1 r1 v rv
        obtain ⟨a, vs, e1, h1, h3⟩ := rep_lk rv
        exact ⟨a, e1, ⟨vs, h1.sq⟩, q2 ι1 H1 s1 r1 xs rfl _ (iterLk h1 h3)⟩
      | tup xs =>
        refine .inr (.inl ⟨Fx, ι, st, r, ?_⟩)
        rw [e]
        intro ι1 H1 s1 r1 v rv
        obtain ⟨a, vs, e1, h1, h3⟩ := rep_tup rv
        exact ⟨a, e1, ⟨vs, h1.sq⟩, q2 ι1 H1 s1 r1 xs rfl _ (iterTup h1 h3)⟩
      | str s =>
        refine .inr (.inr ⟨Fx, ι, st, r, ?_⟩)
        rw [e]
        intro ι1 H1 s1 r1 v rv
        obtain ⟨e1, o⟩ := rep_str rv
        exact ⟨_, e1, q2 ι1 H1 s1 r1 _ rfl _ (iterStr o)⟩
      | _ =>
        refine .inl ⟨Fx, ι, st, r, ?_⟩
        rw [e]
        intro ι1 H1 s1 r1 v rv
        exact (q' ι1 H1 s1 r1).elim
    | er x st1 =>
      rw [e] at q'
      refine .inl ⟨Fx, ι, st, r, ?_⟩
      rw [e]
      exact q'
    | bad =>
      rw [e] at q'
      exact q'.elim
/-- range(n), range(a, b) -/
def small62 (i : Int) : Bool := decide (-(2 ^ 62) ≤ i) && decide (i < 2 ^ 62)
def mRange1 (f : M (List D)) : M (List D) := fun st => (f st).bind fun ds st1 => match ds with
  | [.int j] => if small62 j then .ok (rangeD 0 j.toNat) st1 else .bad
  | _ => .bad
def mRange2 (f : M (List D)) : M (List D) := fun st => (f st).bind fun ds st1 => match ds with
  | [.int i, .int j] => if small62 i && small62 j then .ok (rangeD i (j - i).toNat) st1 else .bad
  | _ => .bad
theorem small_of {i : Int} (h : small62 i = true) : -(2 ^ 62) ≤ i ∧ i < 2 ^ 62 := by
  unfold small62 at h
  simpa using h
theorem PId.range1 {tg : Expr} {fs : M (List D)} (hg : Gl X "range") (hm : X.mg "range" = none) (ha : PAd X W [e] fs) (hs : starEach [e] X.env = [(false, eval e X.env)]) : PId X W tg (.Call (.Name "range" p) [e] [] pos) (mRange1 fs) :=
  PI.imp (pi_range1 hg hm ha hs) fun σ H R h => by
    obtain ⟨Fx, ι, st, r, q⟩ := h
    refine ⟨Fx, ι, st, r, q.bind.imp fun ds ι1 H1 st1 s1 r1 q1 vs rv => ?_⟩
    split at q1
    · rename_i j
      split at q1
      · rename_i hj
        obtain ⟨v, rfl, h1⟩ := rep1 rv
        cases rep_int h1
        exact ⟨j, rfl, (small_of hj).1, (small_of hj).2, q1.ok r1 _ iterRange⟩
      · exact q1.elim
    · exact q1.elim
theorem PId.range2 {tg a : Expr} {fs : M (List D)} (hg : Gl X "range") (hm : X.mg "range" = none) (ha : PAd X W [a, e] fs) (hs : starEach [a, e] X.env = [(false, eval a X.env), (false, eval e X.env)]) (hs2 : starEach [e] X.env = [(false, eval e X.env)]) :
    PId X W tg (.Call (.Name "range" p) [a, e] [] pos) (mRange2 fs) :=
  PI.imp (pi_range2 hg hm ha hs hs2) fun σ H R h => by
    obtain ⟨Fx, ι, st, r, q⟩ := h
    refine ⟨Fx, ι, st, r, q.bind.imp fun ds ι1 H1 st1 s1 r1 q1 vs rv => ?_⟩
    split at q1
    · rename_i i j
      split at q1
      · rename_i hj
        simp only [Bool.and_eq_true] at hj
        obtain ⟨v, v', rfl, h1, h2⟩ := rep2 rv
        cases rep_int h1
        cases rep_int h2
        exact ⟨i, j, rfl, ⟨(small_of hj.1).1, (small_of hj.1).2, (small_of hj.2).1, (small_of hj.2).2⟩, q1.ok r1 _ iterRange⟩
      · exact q1.elim
    · exact q1.elim
/-! ### enumerate -/
/-- a text, sign by sign, each with its place in a new pair -/
def IteS (x : Str) : It := ⟨fun i _ => i < x.cps.size, fun i H v H' => ∃ T c, v = .ref T ∧ x.cps[i]? = some c ∧ H T = none ∧ H' = upd H T (.tup [.int (i : Nat), .str ⟨#[c]⟩]), fun i _ => i = x.cps.size⟩
theorem turn_enumS {P : Program} {w : World} {K : PySem.W.Frag} {elts : List Expr} {kk : Nat} {tpos : Pos} (x : Str) (t : Tok) (ty : String) (hty : ty = "str_ascii_iterator" ∨ ty = "str_iterator") (e it : Addr) :
    Turn P w K (.Tuple elts kk tpos) (IteS x) [e, it] e (fun i h => (∃ old, IsEnum h e it ((i : Nat) : Int) old) ∧ h.IsStrIter it ty x t i ∧ e ≠ it) where
  mem := by simp
  obj := fun i h st b hb => by
    obtain ⟨⟨old, he⟩, ⟨o, ho, hc, hd⟩, _⟩ := st
    have e' : b = e ∨ b = it := by simpa using hb
    rcases e' with z | z
    · rw [z]; exact ⟨_, he, fun v q => nomatch q⟩
    · rw [z]; exact ⟨o, ho, fun v q => by rw [hd] at q; cases q⟩
  keep := fun i h h' st k => let ⟨⟨old, he⟩, ⟨o, ho, r⟩, hne⟩ := st; ⟨⟨old, k e (by simp) _ he⟩, ⟨o, k it (by simp) o ho, r⟩, hne⟩
  item := by
    intro X hP hw hK hc i pins s σ H E I hf st hg
    subst hP hw hK
    obtain ⟨⟨old, he⟩, hit, hne⟩ := st
    have hel : e < s.heap.objs.size := Heap.lt_size he
    have hil : it < s.heap.objs.size := by obtain ⟨_, q, _⟩ := hit; exact Heap.lt_size q
    have D : Draws X.prog X.w X.A.in1 it [it] x.cps.size (fun i v => ∃ c u, x.cps[i]? = some c ∧ v = .str ⟨#[c]⟩ u) (fun i h => h.IsStrIter it ty x t i) := by
      rcases hty with z | z
      · rw [z]; exact Draws.strAscii (A := X.A.in1) (I.ok.hd hc) it x t
      · rw [z]; exact Draws.strWide (A := X.A.in1) (I.ok.hd hc) it x t
    refine wpAny_pyNext_enum_itemD D he hit hg hne (by simpa using hne) fun v h' tk hv ho hit' hT hsz hk => ?_
    obtain ⟨c, u, hcx, rfl⟩ := hv
    refine ⟨_, rfl, wpAny_letOwnedTupleGo_enum (s := { s with heap := h', toks := tk + 1 }) ho fun h'' he' sb => ?_⟩
    have hT2 : h''.get? s.heap.objs.size = some { cls := .type "tuple", data := .seq #[.int i tk, .str ⟨#[c]⟩ u] } := (sb.2 _ (Nat.ne_of_gt hel)).trans hT
    have new : ObjOk X.prog X.w (upd H s.heap.objs.size (.tup [.int (i : Nat), .str ⟨#[c]⟩])) h'' s.heap.objs.size (.tup [.int (i : Nat), .str ⟨#[c]⟩]) :=
      ⟨by show 2 ≤ sizeLine; decide, [.int i tk, .str ⟨#[c]⟩ u], .cons ⟨_, rfl⟩ (.cons ⟨_, rfl⟩ .nil), ⟨_, hT2, rfl, _, rfl⟩⟩
    have I1 : Inv X pins σ (upd H s.heap.objs.size (.tup [.int (i : Nat), .str ⟨#[c]⟩])) { s with heap := h'', toks := tk + 1 } :=
      I.turnedNew (ch := [e, it]) (fun b ob hb q => (sb.2 b (fun z => hb (by simp [z]))).trans (hk b ob (fun z => hb (by simp [z])) (fun z => hb (by simp [z])) q)) hf (Nat.le_refl _) new
    obtain ⟨oi, q1, q2, q3⟩ := hit'
    refine ⟨.ref s.heap.objs.size, _, I1, rfl, ⟨_, c, rfl, hcx, I.hok.fresh (Nat.le_refl _), rfl⟩, ⟨⟨.str ⟨#[c]⟩ u, ?_⟩, ⟨oi, (sb.2 it (Ne.symm hne)).trans q1, q2, q3⟩, hne⟩, fun b hb => ?_⟩
    · have e1 : ((i + 1 : Nat) : Int) = (i : Int) + 1 := by omega
      rw [e1]; exact he'
    · have hb' : b < s.heap.objs.size := by
        have e' : b = e ∨ b = it := by simpa using hb
        rcases e' with z | z
        · rw [z]; exact hel
        · rw [z]; exact hil
      rw [upd_ne (Nat.ne_of_lt hb')]
      exact (hf b hb).1
  done := by
    intro X hP hw hK hc i pins s σ H E I hf st hg
    subst hP hw hK
    obtain ⟨⟨old, he⟩, hit, hne⟩ := st
    obtain ⟨f0, f1, f2, f3, f4, f5⟩ := hf it (by simp)
    have hg' : i = x.cps.size := hg
    subst hg'
    have D : Draws X.prog X.w X.A.in1 it [it] x.cps.size (fun i v => ∃ c u, x.cps[i]? = some c ∧ v = .str ⟨#[c]⟩ u) (fun i h => h.IsStrIter it ty x t i) := by
      rcases hty with z | z
      · rw [z]; exact Draws.strAscii (A := X.A.in1) (I.ok.hd hc) it x t
      · rw [z]; exact Draws.strWide (A := X.A.in1) (I.ok.hd hc) it x t
    exact wpAny_pyNext_enum_endD D he hit fun h' eb => ⟨rfl, I.turned (t' := s.toks) (fun b o hb q => eb b o hb q) f0 f1 f3 f4 f5⟩
  self := fun A i s Q E st h => let ⟨⟨_, he⟩, _⟩ := st; wpAny_pyIter_enum he h
def iEnumS (ta : TA) : TI := fun σ H R => ta σ H fun vs H1 => ∃ x, vs = [.str x] ∧ R (IteS x) H1
theorem pi_enumS {elts : List Expr} {kk : Nat} {tpos : Pos} {ta : TA} (hg : Gl X "enumerate") (hm : X.mg "enumerate" = none) (ha : PA X [e] ta) (hs : starEach [e] X.env = [(false, eval e X.env)]) :
    PI X (.Tuple elts kk tpos) (.Call (.Name "enumerate" p) [e] [] pos) (iEnumS ta) := by
  refine ⟨fun pins s σ H R I h => ?_⟩
  refine PyProof.Rows.Call_ (ld_blt I hg hm PyProof.Rows.boot_enumerate (PyProof.Rows.callWith_type1 (thn (ha.run pos pins s σ H _ I h) fun us s1 ⟨vs, H1, I1, r1, q1⟩ => ?_) hs rfl))
  obtain ⟨x, ex, q⟩ := q1
  subst ex
  cases r1 with
  | cons r rr =>
    cases rr
    obtain ⟨t, rfl⟩ := r
    refine call_enumerate_str fun h' he hit hsz hk => wpAny_pyIter_enum he ?_
    have I2 : Inv X pins σ H1 { s1 with heap := h' } := I1.kept (t' := s1.toks) hk
    have hty : strIterType x = "str_ascii_iterator" ∨ strIterType x = "str_iterator" := by
      unfold strIterType
      split
      · exact .inl rfl
      · exact .inr rfl
    refine ⟨s1.heap.objs.size + 1, [s1.heap.objs.size + 1, s1.heap.objs.size], _, _, H1, rfl, I2, turn_enumS x t (strIterType x) hty (s1.heap.objs.size + 1) s1.heap.objs.size, ⟨⟨.none, he⟩, hit, Nat.succ_ne_self _⟩, fun b hb => ?_, q⟩
    have e' : b = s1.heap.objs.size + 1 ∨ b = s1.heap.objs.size := by simpa using hb
    have hle : s1.heap.objs.size ≤ b := by
      rcases e' with z | z
      · rw [z]; exact Nat.le_add_right _ _
      · rw [z]; exact Nat.le_refl _
    exact I1.fpOk hle (I1.hok.fresh hle)
/-- the pairs -/
def enumD (xs : List D) : List D := xs.mapIdx fun i x => .tup [.int (i : Nat), x]
theorem newPair {g : Gx} {Fx : Addr → Prop} {ι : Io} {H : Hp} {σ : L2.St} {st : ES} {p : Addr} {i : Nat} {x : V} {d : D} (r : SRel g Fx ι H σ st) (hp : H p = none) (h : Rep g.K H Fx ι d x) : Rep g.K (upd H p (.tup [.int (i : Nat), x])) Fx ι (.tup [.int (i : Nat), d]) (.ref p) :=
  r.newTup hp (.cons mk_int (.cons h .nil))
theorem iterEnumS {g : Gx} {Fx : Addr → Prop} {ι : Io} {H : Hp} {s : List Nat} (o : OkS s) : IterOk g Fx ι H (enumD (signsD s)) (IteS ⟨s.toArray⟩) := by
  have hw : Walk (IteS ⟨s.toArray⟩) (enumD (signsD s)).length (fun _ => True) (fun i H v H' => ∃ T c, v = .ref T ∧ (⟨s.toArray⟩ : Str).cps[i]? = some c ∧ H T = none ∧ H' = upd H T (.tup [.int (i : Nat), .str ⟨#[c]⟩])) := by
    have : (enumD (signsD s)).length = (⟨s.toArray⟩ : Str).cps.size := by simp [signsD, enumD]
    rw [this]
    exact ⟨fun _ _ hi _ => hi, fun _ _ => rfl, fun _ _ _ _ _ _ y => y⟩
  refine ⟨fun _ => True, _, hw, fun _ _ _ => trivial, fun i Fx' ι' H' σ' st' x H2 hi s' r y => ?_⟩
  obtain ⟨T, c, rfl, e2, hT, rfl⟩ := y
  have e2' : s[i]? = some c := by simpa using e2
  refine ⟨Grow.new hT, .tup [.int (i : Nat), .str [c]], by simp [signsD, enumD, e2'], newPair r hT (mk_str (o.sub ?_ fun c' hc' => ?_))⟩
  · have := List.length_pos_of_mem (List.mem_of_getElem? e2')
    show 1 ≤ _
    omega
  · cases List.mem_singleton.mp hc'
    exact List.mem_of_getElem? e2'
theorem iterEnumL {g : Gx} {Fx : Addr → Prop} {ι : Io} {H : Hp} {items : List D} {a : Addr} {vs : List V} (G : ∀ ι' H', Step ι H ι' H' → SqL g.K H' a vs) (h3 : RepAll g.K H Fx ι items vs) : IterOk g Fx ι H (enumD items) (Ite g.K a) := by
  refine ⟨fun H' => SqL g.K H' a vs, _, by rw [show (enumD items).length = vs.length by simp [enumD, h3.length]]; exact walk_enum, G, fun i Fx' ι' H' σ' st' x H2 hi s r y => ?_⟩
  obtain ⟨T, k, v, rfl, hT, rfl, e1, e2⟩ := y
  cases e1
  obtain ⟨d, q1, q2⟩ := h3.get' e2
  exact ⟨Grow.new hT, .tup [.int (i : Nat), d], by simp [enumD, q1], newPair r hT (Rep.car s _ _ q2)⟩
def enumOf : D → Option (List D)
  | .str s => some (enumD (signsD s))
  | .lst xs => some (enumD xs)
  | .lk xs => some (enumD xs)
  | _ => none
def mEnum (f : M (List D)) : M (List D) := fun st => (f st).bind fun ds st1 => match ds with
  | [d] => (match enumOf d with
    | some xs => .ok xs st1
    | none => .bad)
  | _ => .bad
theorem PId.enum {elts : List Expr} {kk : Nat} {tpos : Pos} {fs : M (List D)} (hg : Gl X "enumerate") (hm : X.mg "enumerate" = none) (ha : PAd X W [e] fs) (hs : starEach [e] X.env = [(false, eval e X.env)]) : PId X W (.Tuple elts kk tpos) (.Call (.Name "enumerate" p) [e] [] pos) (mEnum fs) :=
  PI.imp (PI.or (pi_enum hg hm ha hs) (pi_enumS hg hm ha hs)) fun σ H R h => by
    obtain ⟨Fx, ι, st, r, q⟩ := h
    have q' : Aft (gx X) W Fx ι H σ (fs st) _ := q.bind
    cases e : fs st with
    | ok ds st1 =>
      rw [e] at q'
      match ds, e with
      | [.str s], e =>
        refine .inr ⟨Fx, ι, st, r, ?_⟩
        rw [e]
        intro ι1 H1 s1 r1 vs rv
        obtain ⟨v, rfl, h1⟩ := rep1 rv
        obtain ⟨e1, o⟩ := rep_str h1
        subst e1
        exact ⟨_, rfl, (q' ι1 H1 s1 r1).ok r1 _ (iterEnumS o)⟩
      | [.lst xs], e =>
        refine .inl ⟨Fx, ι, st, r, ?_⟩
        rw [e]
        intro ι1 H1 s1 r1 vs rv
        obtain ⟨v, rfl, h1⟩ := rep1 rv
        obtain ⟨a, ws, rfl, h2, h3, h4⟩ := rep_lst h1
        exact ⟨a, ws, rfl, SqL.of h2, (q' ι1 H1 s1 r1).ok r1 _ (iterEnumL (fun ι' H' s => SqL.of (s.keep a _ h2 fun z => h3 (.inr z))) h4)⟩
      | [.lk xs], e =>
        refine .inl ⟨Fx, ι, st, r, ?_⟩
        rw [e]
        intro ι1 H1 s1 r1 vs rv
        obtain ⟨v, rfl, h1⟩ := rep1 rv
        obtain ⟨a, ws, rfl, h2, h4⟩ := rep_lk h1
        exact ⟨a, ws, rfl, h2.sq, (q' ι1 H1 s1 r1).ok r1 _ (iterEnumL (fun ι' H' s => (LkAt.car (s.car (Fx := Fx)) h2).sq) h4)⟩
      | [], e => exact .inl ⟨Fx, ι, st, r, by rw [e]; intro ι1 H1 s1 r1; exact (q' ι1 H1 s1 r1).elim⟩
      | _ :: _ :: _, e => exact .inl ⟨Fx, ι, st, r, by rw [e]; intro ι1 H1 s1 r1; exact (q' ι1 H1 s1 r1).elim⟩
      | [.non], e => exact .inl ⟨Fx, ι, st, r, by rw [e]; intro ι1 H1 s1 r1; exact (q' ι1 H1 s1 r1).elim⟩
      | [.bl _], e => exact .inl ⟨Fx, ι, st, r, by rw [e]; intro ι1 H1 s1 r1; exact (q' ι1 H1 s1 r1).elim⟩
      | [.int _], e => exact .inl ⟨Fx, ι, st, r, by rw [e]; intro ι1 H1 s1 r1; exact (q' ι1 H1 s1 r1).elim⟩
      | [.tup _], e => exact .inl ⟨Fx, ι, st, r, by rw [e]; intro ι1 H1 s1 r1; exact (q' ι1 H1 s1 r1).elim⟩
      | [.ref _], e => exact .inl ⟨Fx, ι, st, r, by rw [e]; intro ι1 H1 s1 r1; exact (q' ι1 H1 s1 r1).elim⟩
    | er x st1 =>
      rw [e] at q'
      refine .inl ⟨Fx, ι, st, r, ?_⟩
      rw [e]
      exact q'
    | bad =>
      rw [e] at q'
      exact q'.elim
/-! ### for -/
def loop (T : Tg) (body : MS) : List D → MS
  | [], st => .ok .nx st
  | d :: ds, st => match T.put d st.sl with
    | none => .bad
    | some sl => (body ⟨sl, st.mu⟩).bind fun a st1 => match a with
      | .nx => loop T body ds st1
      | .ct => loop T body ds st1
      | .bk => .ok .nx st1
      | .rt d => .ok (.rt d) st1
def sFor (T : Tg) (its : M (List D)) (body : MS) : MS := fun st => (its st).bind fun xs st1 => loop T body xs st1
theorem tFor_of {g : Gx} {T : Tg} {its : M (List D)} {body : MS} {Dn : Ends} {σ : L2.St} {H : Hp} (h : tS g W (sFor T its body) Dn σ H) : tFor (tI g W its) (tG g T) (tS g W body) Dn σ H := by
  obtain ⟨Fx, ι, st, r, q⟩ := h
  refine ⟨Fx, ι, st, r, (AftS.bind (σ := σ) q).imp fun items ι1 H1 st1 s1 r1 q1 J hJ => ?_⟩
  obtain ⟨G, Y, hw, hG, hY⟩ := hJ
  refine for_it hw (fun i σ' H' => ∃ ι' st', Step ι1 H1 ι' H' ∧ SRel g Fx ι' H' σ' st' ∧ AftS g W Fx ι' H' (loop T body (items.drop i) st') Dn) ⟨ι1, st1, Step.refl, r1, by simpa using q1⟩ (fun i σ' H' _ ⟨ι', st', s', _⟩ => hG ι' H' s') ?_ ?_
  · rintro i x σ' H' H2 hi ⟨ι', st', s', r', q'⟩ y
    obtain ⟨gr, d, hd, rd⟩ := hY i Fx ι' H' σ' st' x H2 hi s'.car r' y
    have hdrop : items.drop i = d :: items.drop (i + 1) := by
      rw [List.drop_eq_getElem_cons hi]
      have : items[i] = d := by
        rw [List.getElem?_eq_getElem hi] at hd
        exact Option.some.inj hd
      rw [this]
    rw [hdrop] at q'
    unfold loop at q'
    cases e : T.put d st'.sl with
    | none =>
      simp only [e] at q'
      exact q'.elim
    | some sl =>
      simp only [e] at q'
      refine ⟨Fx, ι', st', d, sl, r'.same gr, rd, e, fun ι2 σ2 s2 r2 _ => ?_⟩
      have s3 : Step ι' H' ι2 H2 := gr.step.trans s2
      refine ⟨Fx, ι2, _, r2, ?_⟩
      have q3 := AftS.later s3 q'
      cases eb : body ⟨sl, st'.mu⟩ with
      | ok a st2 =>
        rw [eb] at q3
        intro ι4 H4 σ4 s4 r4
        cases a with
        | nx => exact ⟨ι4, st2, (s'.trans s3).trans s4, r4, AftS.later s4 q3⟩
        | ct => exact ⟨ι4, st2, (s'.trans s3).trans s4, r4, AftS.later s4 q3⟩
        | bk => exact q3 ι4 H4 σ4 s4 r4
        | rt d' => exact q3 ι4 H4 σ4 s4 r4
      | er x st2 =>
        rw [eb] at q3
        exact q3
      | bad =>
        rw [eb] at q3
        exact q3
  · rintro σ' H' ⟨ι', st', s', r', q'⟩
    rw [List.drop_length] at q'
    exact q' ι' H' σ' Step.refl r'
theorem PSd.for_ {tg iter : Expr} {T : Tg} {its : M (List D)} {body : List Stmt} {fb : MS} (hp : PassesOwn (model X.prog X.w) X.A X.env X.xe) (hc : X.calm = true) (hi : PId X W tg iter its) (hg : PGd X tg T) (hb : PSsd X W body fb)
    (hs : ∀ x, foldedSetIterable iter X.env x = pure x) : PSd X W (.For tg iter body [] pos) (sFor T its fb) := PS.imp (ps_for hp hc hi hg hb hs) fun Dn σ H h => tFor_of h
/-! ### while -/
def whileM (c : M Bool) (body : MS) : Nat → MS
  | 0, _ => .bad
  | n + 1, st => (c st).bind fun b st1 => if b then (body st1).bind fun a st2 => (match a with
    | .nx => whileM c body n st2
    | .ct => whileM c body n st2
    | .bk => .ok .nx st2
    | .rt d => .ok (.rt d) st2) else .ok .nx st1
def sWhile (n : Nat) (c : M Bool) (body : MS) : MS := whileM c body n
theorem tWhile_of {g : Gx} {n : Nat} {body : MS} {Dn : Ends} {σ : L2.St} {H : Hp} (h : tS g W (sWhile n tc body) Dn σ H) : tWhile (tT g W tc) (tS g W body) Dn σ H := by
  refine ⟨fun m σ' H' => tS g W (sWhile m tc body) Dn σ' H', ⟨n, h⟩, fun m σ' H' hm => ?_⟩
  obtain ⟨Fx, ι, st, r, q⟩ := hm
  cases m with
  | zero => exact q.elim
  | succ m =>
    have q' : AftS g W Fx ι H' ((tc st).bind fun b st1 => if b then (body st1).bind fun a st2 => (match a with
      | .nx => whileM tc body m st2
      | .ct => whileM tc body m st2
      | .bk => .ok .nx st2
      | .rt d => .ok (.rt d) st2) else .ok .nx st1) Dn := q
    refine ⟨Fx, ι, st, r, (AftS.bind (σ := σ') q').imp fun b ι1 H1 st1 s1 r1 q1 => ?_⟩
    cases b with
    | true =>
      refine ⟨fun σ2 H2 => tS g W (sWhile m tc body) Dn σ2 H2, fun σ2 H2 h2 => ⟨m, Nat.lt_succ_self m, h2⟩, Fx, ι1, st1, r1, ?_⟩
      have q2 : AftS g W Fx ι1 H1 ((body st1).bind fun a st2 => (match a with
        | .nx => whileM tc body m st2
        | .ct => whileM tc body m st2
        | .bk => .ok .nx st2
        | .rt d => .ok (.rt d) st2)) Dn := q1
      cases eb : body st1 with
      | ok a st2 =>
        rw [eb] at q2
        intro ι4 H4 σ4 s4 r4
        cases a with
        | nx => exact ⟨Fx, ι4, st2, r4, AftS.later s4 q2⟩
        | ct => exact ⟨Fx, ι4, st2, r4, AftS.later s4 q2⟩
        | bk => exact q2 ι4 H4 σ4 s4 r4
        | rt d' => exact q2 ι4 H4 σ4 s4 r4
      | er x st2 =>
        rw [eb] at q2
        exact q2
      | bad =>
        rw [eb] at q2
        exact q2
    | false =>
      have q2 : AftS g W Fx ι1 H1 (.ok .nx st1) Dn := q1
      exact q2 ι1 H1 σ' Step.refl r1
theorem PSd.while_ {n : Nat} {body : List Stmt} {fb : MS} (hp : PassesOwn (model X.prog X.w) X.A X.env X.xe) (hc : PTd X W c tc) (hb : PSsd X W body fb) : PSd X W (.While c body [] pos) (sWhile n tc fb) := PS.imp (ps_while hp hc hb) fun Dn σ H h => tWhile_of h
/-! ### range with a step, reversed, zip -/
def rangeC (lo c : Int) (n : Nat) : List D := (List.range n).map fun i => .int (lo + (i : Nat) * c)
def rgOk (i j c : Int) : Bool := decide (c ≠ 0) && decide (c.natAbs < 1073741824) && Builtin.Range.small i j c && decide (0 ≤ Builtin.Range.rangeSize i j c)
def mRange3 (f : M (List D)) : M (List D) := fun st => (f st).bind fun ds st1 => match ds with
  | [.int i, .int j, .int c] => if rgOk i j c then .ok (rangeC i c (Builtin.Range.rangeSize i j c).toNat) st1 else .bad
  | _ => .bad
theorem iterRangeC {g : Gx} {Fx : Addr → Prop} {ι : Io} {H : Hp} {lo c : Int} {n : Nat} : IterOk g Fx ι H (rangeC lo c n) (Itc lo c n) := by
  have hw : Walk (Itc lo c n) (rangeC lo c n).length (fun _ => True) (YFn fun i => .int (lo + (i : Nat) * c)) := by
    have : (rangeC lo c n).length = n := by simp [rangeC]
    rw [this]
    exact walk_rangeC
  refine ⟨fun _ => True, _, hw, fun _ _ _ => trivial, fun i Fx' ι' H' σ' st' x H2 hi s' r y => ?_⟩
  obtain ⟨e1, e2⟩ := y
  subst e1 e2
  have hi' : i < n := by simpa [rangeC] using hi
  exact ⟨Grow.refl _, .int (lo + (i : Nat) * c), by simp [rangeC, hi'], mk_int⟩
theorem PId.range3 {tg a b : Expr} {fs : M (List D)} (hg : Gl X "range") (hm : X.mg "range" = none) (ha : PAd X W [a, b, e] fs) (hs : starEach [a, b, e] X.env = (false, eval a X.env) :: starEach [b, e] X.env) (hs2 : ((backTo pos (starEach [b, e] X.env)).any fun x => x.1) = false) :
    PId X W tg (.Call (.Name "range" p) [a, b, e] [] pos) (mRange3 fs) :=
  PI.imp (pi_range3 hg hm ha hs hs2) fun σ H R h => by
    obtain ⟨Fx, ι, st, r, q⟩ := h
    refine ⟨Fx, ι, st, r, q.bind.imp fun ds ι1 H1 st1 s1 r1 q1 vs rv => ?_⟩
    split at q1
    · rename_i i j c
      split at q1
      · rename_i hj
        unfold rgOk at hj
        simp only [Bool.and_eq_true, decide_eq_true_eq] at hj
        obtain ⟨⟨⟨j1, j2⟩, j3⟩, j4⟩ := hj
        simp only [RepAll] at rv
        obtain ⟨u, r', e', h1, v, r2, e2, h2, v', r3, e3, h3, e4⟩ := rv
        subst e4 e3 e2 e'
        cases rep_int h1
        cases rep_int h2
        cases rep_int h3
        exact ⟨i, j, c, _, rfl, ⟨j1, j2, j3, (Int.toNat_of_nonneg j4).symm⟩, q1.ok r1 _ iterRangeC⟩
      · exact q1.elim
    · exact q1.elim
theorem iterRev {g : Gx} {Fx : Addr → Prop} {ι : Io} {H : Hp} {items : List D} {a : Addr} {vs : List V} (G : ∀ ι' H', Step ι H ι' H' → SqL g.K H' a vs) (h3 : RepAll g.K H Fx ι items vs) : IterOk g Fx ι H items.reverse (Itv g.K a vs.length) := by
  have hl := h3.length
  refine ⟨fun H' => SqL g.K H' a vs, _, by rw [List.length_reverse, hl]; exact walk_rev, G, fun i Fx' ι' H' σ' st' x H2 hi s r y => ?_⟩
  obtain ⟨e1, e2⟩ := y
  subst e1
  obtain ⟨d, q1, q2⟩ := h3.get' e2
  have hi' : i < items.length := by simpa using hi
  exact ⟨Grow.refl _, d, by rw [List.getElem?_reverse hi', hl]; exact q1, Rep.car s _ _ q2⟩
theorem iterRevT {g : Gx} {Fx : Addr → Prop} {ι : Io} {H : Hp} {items : List D} {a : Addr} {vs : List V} (G : ∀ ι' H', Step ι H ι' H' → SqT g.K H' a vs) (h3 : RepAll g.K H Fx ι items vs) : IterOk g Fx ι H items.reverse (RT.ItvT g.K a vs.length) := by
  have hl := h3.length
  have hw : Walk (RT.ItvT g.K a vs.length) items.reverse.length (fun H' => SqT g.K H' a vs) (fun i H x H' => H' = H ∧ vs[vs.length - 1 - i]? = some x) := by
    rw [List.length_reverse, hl]
    refine ⟨fun i H hi hq => ⟨hi, vs, vs[vs.length - 1 - i]'(by omega), hq, List.getElem?_eq_getElem _⟩, fun H _ => Nat.le_refl _, fun i H x H' hi hq y => ⟨y.1, y.2 vs hq⟩⟩
  refine ⟨fun H' => SqT g.K H' a vs, _, hw, G, fun i Fx' ι' H' σ' st' x H2 hi s r y => ?_⟩
  obtain ⟨e1, e2⟩ := y
  subst e1
  obtain ⟨d, q1, q2⟩ := h3.get' e2
  have hi' : i < items.length := by simpa using hi
  exact ⟨Grow.refl _, d, by rw [List.getElem?_reverse hi', hl]; exact q1, Rep.car s _ _ q2⟩
def revOf : D → Option (List D)
  | .lst xs => some xs.reverse
  | .lk xs => some xs.reverse
  | .tup xs => some xs.reverse
  | _ => none
def mRev (f : M D) : M (List D) := fun st => (f st).bind fun d st1 => match revOf d with
  | some xs => .ok xs st1
  | none => .bad
theorem PId.rev {tg : Expr} (hg : Gl X "reversed") (hm : X.mg "reversed" = none) (he : PEd X W e f) (hs : starEach [e] X.env = (false, eval e X.env) :: starEach [] X.env) : PId X W tg (.Call (.Name "reversed" p) [e] [] pos) (mRev f) :=
  PI.imp (RT.pi_revA hg hm he hs) fun σ H R h => by
    obtain ⟨Fx, ι, st, r, q⟩ := h
    refine ⟨Fx, ι, st, r, q.bind.imp fun d ι1 H1 st1 s1 r1 q1 v rv => ?_⟩
    cases d with
    | lst xs =>
      obtain ⟨a, vs, e1, h1, h2, h3⟩ := rep_lst rv
      exact ⟨a, vs, e1, .inl ⟨SqL.of h1, (show Aft (gx X) W Fx ι1 H1 σ (.ok xs.reverse st1) _ from q1).ok r1 _ (iterRev (fun ι' H' s => SqL.of (s.keep a _ h1 fun z => h2 (.inr z))) h3)⟩⟩
    | lk xs =>
      obtain ⟨a, vs, e1, h1, h3⟩ := rep_lk rv
      exact ⟨a, vs, e1, .inl ⟨h1.sq, (show Aft (gx X) W Fx ι1 H1 σ (.ok xs.reverse st1) _ from q1).ok r1 _ (iterRev (fun ι' H' s => (LkAt.car (s.car (Fx := Fx)) h1).sq) h3)⟩⟩
    | tup xs =>
      obtain ⟨a, vs, e1, h1, h3⟩ := rep_tup rv
      exact ⟨a, vs, e1, .inr ⟨h1.sq, (show Aft (gx X) W Fx ι1 H1 σ (.ok xs.reverse st1) _ from q1).ok r1 _ (iterRevT (fun ι' H' s => (TupAt.car (s.car (Fx := Fx)) h1).sq) h3)⟩⟩
    | _ => exact q1.elim
/-- two lists' items in new pairs -/
def zipD (xs ys : List D) : List D := (xs.zip ys).map fun p => .tup [p.1, p.2]
theorem zip_get {xs ys : List D} {i : Nat} {x y : D} (h1 : xs[i]? = some x) (h2 : ys[i]? = some y) : (zipD xs ys)[i]? = some (.tup [x, y]) := by
  unfold zipD
  rw [List.getElem?_map, show (xs.zip ys)[i]? = some (x, y) by simp [List.getElem?_zip_eq_some, h1, h2]]
  rfl
theorem newTwo {g : Gx} {Fx : Addr → Prop} {ι : Io} {H : Hp} {σ : L2.St} {st : ES} {p : Addr} {x y : V} {d e : D} (r : SRel g Fx ι H σ st) (hp : H p = none) (h : Rep g.K H Fx ι d x) (h' : Rep g.K H Fx ι e y) : Rep g.K (upd H p (.tup [x, y])) Fx ι (.tup [d, e]) (.ref p) :=
  r.newTup hp (.cons h (.cons h' .nil))
theorem iterZip {g : Gx} {Fx : Addr → Prop} {ι : Io} {H : Hp} {xs ys : List D} {a b : Addr} {vs ws : List V} (G : ∀ ι' H', Step ι H ι' H' → SqL g.K H' a vs) (G2 : ∀ ι' H', Step ι H ι' H' → SqL g.K H' b ws) (h3 : RepAll g.K H Fx ι xs vs) (h4 : RepAll g.K H Fx ι ys ws) : IterOk g Fx ι H (zipD xs ys) (Itz g.K a b) := by
  have e1 := h3.length
  have e2 := h4.length
  refine ⟨fun H' => SqL g.K H' a vs ∧ SqL g.K H' b ws, _, walk_zip (by simp [zipD, e1, e2]), fun ι' H' s => ⟨G ι' H' s, G2 ι' H' s⟩, fun i Fx' ι' H' σ' st' x H2 hi s r y => ?_⟩
  obtain ⟨T, v, w, rfl, hT, rfl, y1, y2⟩ := y
  obtain ⟨d, q1, q2⟩ := h3.get' y1
  obtain ⟨d', q3, q4⟩ := h4.get' y2
  exact ⟨Grow.new hT, _, zip_get q1 q3, newTwo r hT (Rep.car s _ _ q2) (Rep.car s _ _ q4)⟩
theorem iterZipT {g : Gx} {Fx : Addr → Prop} {ι : Io} {H : Hp} {xs ys : List D} {a b : Addr} {vs ws : List V} (G : ∀ ι' H', Step ι H ι' H' → SqT g.K H' a vs) (G2 : ∀ ι' H', Step ι H ι' H' → SqT g.K H' b ws) (h3 : RepAll g.K H Fx ι xs vs) (h4 : RepAll g.K H Fx ι ys ws) : IterOk g Fx ι H (zipD xs ys) (RZ.ItzT g.K a b) := by
  have e1 := h3.length
  have e2 := h4.length
  have hw : Walk (RZ.ItzT g.K a b) (zipD xs ys).length (fun H' => SqT g.K H' a vs ∧ SqT g.K H' b ws) (YPair (fun i => vs[i]?) fun i => ws[i]?) := by
    have hn : (zipD xs ys).length = min vs.length ws.length := by simp [zipD, e1, e2]
    rw [hn]
    refine ⟨fun i H hi hq => ⟨vs, ws, vs[i]'(by omega), ws[i]'(by omega), hq.1, hq.2, List.getElem?_eq_getElem _, List.getElem?_eq_getElem _⟩, fun H hq => ⟨vs, ws, hq.1, hq.2, by omega⟩, fun i H x H' hi hq y => ?_⟩
    obtain ⟨T, v, w, rfl, hT, rfl, y1, y2⟩ := y
    exact ⟨T, v, w, rfl, hT, rfl, y1 vs hq.1, y2 ws hq.2⟩
  refine ⟨_, _, hw, fun ι' H' s => ⟨G ι' H' s, G2 ι' H' s⟩, fun i Fx' ι' H' σ' st' x H2 hi s r y => ?_⟩
  obtain ⟨T, v, w, rfl, hT, rfl, y1, y2⟩ := y
  obtain ⟨d, q1, q2⟩ := h3.get' y1
  obtain ⟨d', q3, q4⟩ := h4.get' y2
  exact ⟨Grow.new hT, _, zip_get q1 q3, newTwo r hT (Rep.car s _ _ q2) (Rep.car s _ _ q4)⟩
def zipOf : D → D → Option (List D)
  | .lst xs, .lst ys => some (zipD xs ys)
  | .tup xs, .tup ys => some (zipD xs ys)
  | _, _ => none
def mZip (f : M (List D)) : M (List D) := fun st => (f st).bind fun ds st1 => match ds with
  | [d, e] => (match zipOf d e with
    | some xs => .ok xs st1
    | none => .bad)
  | _ => .bad
theorem PId.zip {elts : List Expr} {kk : Nat} {tpos : Pos} {a : Expr} {fs : M (List D)} (hg : Gl X "zip") (hm : X.mg "zip" = none) (ha : PAd X W [a, e] fs) (hs : starEach [a, e] X.env = (false, eval a X.env) :: starEach [e] X.env) (hs2 : ((backTo pos (starEach [e] X.env)).any fun x => x.1) = false) :
    PId X W (.Tuple elts kk tpos) (.Call (.Name "zip" p) [a, e] [] pos) (mZip fs) :=
  PI.imp (RZ.pi_zipA hg hm ha hs hs2) fun σ H R h => by
    obtain ⟨Fx, ι, st, r, q⟩ := h
    refine ⟨Fx, ι, st, r, q.bind.imp fun ds ι1 H1 st1 s1 r1 q1 vs rv => ?_⟩
    split at q1
    · rename_i d d'
      obtain ⟨v, v', rfl, k1, k2⟩ := rep2 rv
      split at q1
      · rename_i zs ez
        unfold zipOf at ez
        split at ez
        · cases ez
          obtain ⟨a1, vs, rfl, h1, h2, h3⟩ := rep_lst k1
          obtain ⟨a2, ws, rfl, g1, g2, g3⟩ := rep_lst k2
          exact ⟨a1, a2, vs, ws, rfl, .inl ⟨SqL.of h1, SqL.of g1, q1.ok r1 _ (iterZip (fun ι' H' s => SqL.of (s.keep a1 _ h1 fun z => h2 (.inr z))) (fun ι' H' s => SqL.of (s.keep a2 _ g1 fun z => g2 (.inr z))) h3 g3)⟩⟩
        · cases ez
          obtain ⟨a1, vs, rfl, h1, h3⟩ := rep_tup k1
          obtain ⟨a2, ws, rfl, g1, g3⟩ := rep_tup k2
          exact ⟨a1, a2, vs, ws, rfl, .inr ⟨h1.sq, g1.sq, q1.ok r1 _ (iterZipT (fun ι' H' s => (TupAt.car (s.car (Fx := Fx)) h1).sq) (fun ι' H' s => (TupAt.car (s.car (Fx := Fx)) g1).sq) h3 g3)⟩⟩
        · cases ez
      · exact q1.elim
    · exact q1.elim
end
end Pv
/-! Pv9: comprehensions. -/
namespace Pv
open PySem PySem.Spec L2
/-- no error -/
def noEr {α : Type} : R α → R α
  | .ok a s => .ok a s
  | _ => .bad
@[simp] theorem noEr_ok {α : Type} (a : α) (s : ES) : noEr (.ok a s) = .ok a s := rfl
@[simp] theorem noEr_er {α : Type} (e : Exc) (s : ES) : noEr (.er e s : R α) = .bad := rfl
@[simp] theorem noEr_bad {α : Type} : noEr (.bad : R α) = .bad := rfl
def wipeS (sl : List Slot) : List Nat → List Slot
  | [] => sl
  | v :: vs => (wipeS sl vs).set v .un
def restS (orig inner : List Slot) : List Nat → List Slot
  | [] => inner
  | v :: vs => (restS orig inner vs).set v (match orig[v]? with
    | some (.va d) => .va d
    | _ => .un)
def mYes : M Bool := fun st => .ok true st
def compLoop (T : Tg) (c : M Bool) (elt : M D) (vs : List Nat) : List D → List D → ES → R (List D)
  | [], acc, st => .ok acc st
  | d :: ds, acc, st => match T.put d (wipeS st.sl vs) with
    | none => .bad
    | some sl => (noEr (c ⟨sl, st.mu⟩)).bind fun b st1 => if b then (noEr (elt st1)).bind fun y st2 => (if acc.length < lim then compLoop T c elt vs ds (acc ++ [y]) st2 else .bad) else compLoop T c elt vs ds acc st1
theorem compLoop_cons (T : Tg) (c : M Bool) (elt : M D) (vs : List Nat) (d : D) (ds acc : List D) (st : ES) : compLoop T c elt vs (d :: ds) acc st = (match T.put d (wipeS st.sl vs) with
    | none => .bad
    | some sl => (noEr (c ⟨sl, st.mu⟩)).bind fun b st1 => if b then (noEr (elt st1)).bind fun y st2 => (if acc.length < lim then compLoop T c elt vs ds (acc ++ [y]) st2 else .bad) else compLoop T c elt vs ds acc st1) := rfl
def mComp (its : M (List D)) (T : Tg) (c : M Bool) (elt : M D) (vs : List Nat) : M (List D) := fun st => (its st).bind fun xs st1 =>
  (compLoop T c elt vs xs [] st1).bind fun ys st2 => .ok ys ⟨restS st1.sl (wipeS st2.sl vs) vs, st2.mu⟩
theorem wipeS_len (sl : List Slot) : ∀ vs, (wipeS sl vs).length = sl.length
  | [] => rfl
  | v :: vs => by unfold wipeS; rw [List.length_set, wipeS_len sl vs]
theorem restS_len (o i : List Slot) : ∀ vs, (restS o i vs).length = i.length
  | [] => rfl
  | v :: vs => by unfold restS; rw [List.length_set, restS_len o i vs]
theorem wipeS_in {sl : List Slot} : ∀ {vs : List Nat} {j : Nat} {x : Slot}, j ∈ vs → (wipeS sl vs)[j]? = some x → x = .un
  | v :: vs, j, x, h, e => by
    unfold wipeS at e
    by_cases hj : j = v
    · subst hj
      exact get_set_self e
    · rw [List.getElem?_set_ne (Ne.symm hj)] at e
      rcases List.mem_cons.mp h with z | z
      · exact absurd z hj
      · exact wipeS_in z e
theorem wipeS_out {sl : List Slot} : ∀ {vs : List Nat} {j : Nat}, j ∉ vs → (wipeS sl vs)[j]? = sl[j]?
  | [], j, h => rfl
  | v :: vs, j, h => by
    simp only [List.mem_cons, not_or] at h
    unfold wipeS
    rw [List.getElem?_set_ne (Ne.symm h.1), wipeS_out h.2]
theorem restS_in {o i : List Slot} : ∀ {vs : List Nat} {j : Nat} {x : Slot}, j ∈ vs → (restS o i vs)[j]? = some x → x = .un ∨ ∃ d, o[j]? = some (.va d) ∧ x = .va d
  | v :: vs, j, x, h, e => by
    unfold restS at e
    by_cases hj : j = v
    · subst hj
      have := get_set_self e
      split at this
      · rename_i d hd
        exact .inr ⟨d, hd, this⟩
      · exact .inl this
    · rw [List.getElem?_set_ne (Ne.symm hj)] at e
      rcases List.mem_cons.mp h with z | z
      · exact absurd z hj
      · exact restS_in z e
theorem restS_out {o i : List Slot} : ∀ {vs : List Nat} {j : Nat}, j ∉ vs → (restS o i vs)[j]? = i[j]?
  | [], j, h => rfl
  | v :: vs, j, h => by
    simp only [List.mem_cons, not_or] at h
    unfold restS
    rw [List.getElem?_set_ne (Ne.symm h.1), restS_out h.2]
theorem wipe_out {σ : L2.St} : ∀ {vs : List Nat} {j : Nat}, j ∉ vs → (wipe σ vs)[j]? = σ[j]?
  | [], j, h => rfl
  | v :: vs, j, h => by
    simp only [List.mem_cons, not_or] at h
    unfold wipe
    rw [List.getElem?_set_ne (Ne.symm h.1), wipe_out h.2]
theorem wipe_in {σ : L2.St} : ∀ {vs : List Nat} {j : Nat}, j ∈ vs → j < σ.length → (wipe σ vs)[j]? = some none
  | v :: vs, j, h, hl => by
    unfold wipe
    by_cases hj : j = v
    · subst hj
      rw [List.getElem?_set_self (by rw [wipe_length]; exact hl)]
    · rw [List.getElem?_set_ne (Ne.symm hj)]
      rcases List.mem_cons.mp h with z | z
      · exact absurd z hj
      · exact wipe_in z hl
theorem wipe_eq {σ σ2 : L2.St} {vs : List Nat} (hl : σ2.length = σ.length) (h : ∀ j, j ∉ vs → σ2[j]? = (wipe σ vs)[j]?) : wipe σ2 vs = wipe σ vs := by
  apply List.ext_getElem?
  intro j
  by_cases hj : j ∈ vs
  · by_cases hlt : j < σ.length
    · rw [wipe_in hj (by omega), wipe_in hj hlt]
    · rw [List.getElem?_eq_none (by rw [wipe_length]; omega), List.getElem?_eq_none (by rw [wipe_length]; omega)]
  · rw [wipe_out hj, h j hj]
theorem putAll_sl : ∀ {is : List Nat} {ds : List D} {sl sl' : List Slot}, putAll is ds sl = some sl' → sl'.length = sl.length
  | [], [], sl, sl', h => by cases h; rfl
  | i :: is, d :: ds, sl, sl', h => by
    have := putAll_sl (is := is) (ds := ds) (sl := sl.set i (.va d)) (sl' := sl') h
    rw [this, List.length_set]
theorem Tg.put_len {T : Tg} {d : D} {sl sl' : List Slot} (h : T.put d sl = some sl') : sl'.length = sl.length := by
  cases T with
  | nm i =>
    cases h
    rw [List.length_set]
  | tp is =>
    cases d with
    | tup ds => exact putAll_sl h
    | _ => cases h
section
variable {g : Gx} {Fx : Addr → Prop} {ι : Io} {H : Hp} {σ : L2.St} {st : ES}
theorem SRel.wiped (r : SRel g Fx ι H σ st) : ∀ vs : List Nat, ∃ ι', Step ι H ι' H ∧ SRel g Fx ι' H (wipe σ vs) ⟨wipeS st.sl vs, st.mu⟩
  | [] => ⟨ι, Step.refl, r⟩
  | v :: vs => by
    obtain ⟨ι', s', r'⟩ := SRel.wiped r vs
    exact ⟨cut ι' v, s'.trans step_cut, r'.drop v none .un (by intro d z; cases z) (by intro d z; cases z)⟩
theorem SRel.restored {Fx' : Addr → Prop} {ι1 : Io} {H1 : Hp} {st1 : ES} {sl : List Slot} {mu : List Cell} {vs : List Nat} (r : SRel g Fx' ι H (wipe σ vs) ⟨sl, mu⟩) (r1 : SRel g Fx ι1 H1 σ st1) (k : Car Fx ι1 H1 Fx' ι H) (hun : ∀ j x, j ∈ vs → sl[j]? = some x → x = .un) :
    SRel g Fx' ι H σ ⟨restS st1.sl sl vs, mu⟩ := by
  refine ⟨by rw [restS_len]; have := r.len; rw [wipe_length] at this; exact this, fun j d e => ?_, fun j ys e => ?_, r.ce, fun j b e => ?_, r.domc, r.inj, r.fx, r.fxt, r.owt⟩
  · by_cases hj : j ∈ vs
    · rcases restS_in hj e with z | ⟨d', h1, h2⟩
      · cases z
      · cases h2
        obtain ⟨v, q1, q2⟩ := r1.va j d h1
        exact ⟨v, q1, Rep.car k _ _ q2⟩
    · have e' : (restS st1.sl sl vs)[j]? = some (.va d) := e
      rw [restS_out hj] at e'
      obtain ⟨v, q1, q2⟩ := r.va j d e'
      rw [wipe_out hj] at q1
      exact ⟨v, q1, q2⟩
  · by_cases hj : j ∈ vs
    · rcases restS_in hj e with z | ⟨d', h1, h2⟩
      · cases z
      · cases h2
    · have e' : (restS st1.sl sl vs)[j]? = some (.ac ys) := e
      rw [restS_out hj] at e'
      obtain ⟨b, ws, q1, q2, q3, q4⟩ := r.ac j ys e'
      rw [wipe_out hj] at q2
      exact ⟨b, ws, q1, q2, q3, q4⟩
  · obtain ⟨ys, e'⟩ := r.dom j b e
    have hj : j ∉ vs := fun hj => by
      have := hun j _ hj e'
      cases this
    exact ⟨ys, by show (restS st1.sl sl vs)[j]? = _; rw [restS_out hj]; exact e'⟩
end
/-- a list's own growth is nobody's matter -/
theorem SRel.apartUpd {g : Gx} {Fx : Addr → Prop} {ι : Io} {H : Hp} {σ : L2.St} {st : ES} {a : Addr} {o : HO} (r : SRel g (fun b => Fx b ∨ b = a) ι H σ st) : SRel g (fun b => Fx b ∨ b = a) ι (upd H a o) σ st := by
  have k : Car (fun b => Fx b ∨ b = a) ι H (fun b => Fx b ∨ b = a) ι (upd H a o) := ⟨fun b u e n => by rw [upd_ne (fun z => n (.inl (.inr z)))]; exact e, fun b z => .inl z, fun _ _ z => z⟩
  have no : ¬ Ow ι a := r.fx a (.inr rfl)
  have ne : ∀ w b, ι w = some b → b ≠ a := fun w b e z => no ⟨w, by rw [e, z]⟩
  refine ⟨r.len, fun i d e => let ⟨v, h1, h2⟩ := r.va i d e; ⟨v, h1, Rep.car k _ _ h2⟩, fun i xs e => let ⟨b, vs, h1, h2, h3, h4⟩ := r.ac i xs e; ⟨b, vs, h1, h2, by rw [upd_ne (ne _ _ h1)]; exact h3, RepAll.car k _ _ h4⟩,
    fun n c e => let ⟨b, h1, h2⟩ := r.ce n c e; ⟨b, h1, h2.car' k fun o z => by rw [upd_ne (ne _ _ h1)]; exact z⟩, r.dom, r.domc, r.inj, r.fx, fun b z => ?_, fun b z => ?_⟩
  · obtain ⟨o, e⟩ := r.fxt b z
    exact upd_th b o e
  · obtain ⟨o, e⟩ := r.owt b z
    exact upd_th b o e
theorem car_upd {K : W.Frag} {Fx : Addr → Prop} {ι : Io} {H : Hp} {a : Addr} {o : HO} {ds : List D} {vs : List V} (h : RepAll K H (fun b => Fx b ∨ b = a) ι ds vs) : RepAll K (upd H a o) (fun b => Fx b ∨ b = a) ι ds vs :=
  RepAll.car (Fx' := fun b => Fx b ∨ b = a) (ι' := ι) (H' := upd H a o) ⟨fun b u e n => by rw [upd_ne (fun z => n (.inl (.inr z)))]; exact e, fun b z => .inl z, fun _ _ z => z⟩ _ _ h
section
variable {X : Cx} {W : WX} {f : M D}
def T_in (T : Tg) (vs : List Nat) : Prop := match T with
  | .nm i => i ∈ vs
  | .tp is => ∀ i ∈ is, i ∈ vs
theorem tLc_of {g : Gx} {W0 : WX} {T : Tg} {its : M (List D)} {c : M Bool} {elt : M D} {vs : List Nat} {σ : L2.St} {H : Hp} {Q : VK} (hT : T_in T vs) (h : tF g W (mComp its T c elt vs) σ H Q) :
    tLc (tI g W its) (tG g T) (tT g W0 c) (tE g W0 elt) vs σ H Q := by
  obtain ⟨Fx, ι, st, r, q⟩ := h
  refine ⟨Fx, ι, st, r, q.bind.imp fun items ι1 H1 st1 s1 r1 q1 J hJ D hD => ?_⟩
  obtain ⟨G, Y, hw, hG, hY⟩ := hJ
  have rD := r1.apart (o := .lst []) hD
  obtain ⟨ι2, s2, r2⟩ := rD.wiped vs
  have stepD : Step ι1 H1 ι2 (upd H1 D (.lst [])) := (step_new hD).trans s2
  have carD : ∀ {ι' : Io} {H' : Hp}, Step ι1 H1 ι' H' → Car Fx ι1 H1 (fun b => Fx b ∨ b = D) ι' H' := fun {ι' H'} s' => ⟨fun b o e n => s'.keep b o e fun z => n (.inr z), fun b z => by
      rcases z with (z | z) | z
      · exact .inl (.inl z)
      · rw [z]
        exact .inr hD
      · rcases s'.ow b z with z | z
        · exact .inl (.inr z)
        · exact .inr z, s'.ce⟩
  refine lc_it hw (fun i H' => ∃ ι' st' acc accV, Step ι1 H1 ι' H' ∧ SRel g (fun b => Fx b ∨ b = D) ι' H' (wipe σ vs) ⟨wipeS st'.sl vs, st'.mu⟩ ∧ H' D = some (.lst accV) ∧ RepAll g.K H' (fun b => Fx b ∨ b = D) ι' acc accV ∧ compLoop T c elt vs items [] st1 = compLoop T c elt vs (items.drop i) acc st')
    ⟨ι2, st1, [], [], stepD, r2, upd_same, .nil, by simp⟩ (fun i H' _ ⟨ι', st', acc, accV, s', _⟩ => hG ι' H' s') ?_ ?_
  · rintro i x H' H2 hi ⟨ι', st', acc, accV, s', r', hl', ra', eq'⟩ y
    obtain ⟨gr, d, hd, rd⟩ := hY i _ ι' H' (wipe σ vs) ⟨wipeS st'.sl vs, st'.mu⟩ x H2 hi (carD s') r' y
    have hdrop : items.drop i = d :: items.drop (i + 1) := by
      rw [List.drop_eq_getElem_cons hi]
      have : items[i] = d := by
        rw [List.getElem?_eq_getElem hi] at hd
        exact Option.some.inj hd
      rw [this]
    rw [hdrop] at eq'
    have nbad : ∀ {r : R (List Pv.D)}, compLoop T c elt vs items [] st1 = r → r = .bad → False := fun {r} e1 e2 => by
      have q2 : Aft g W Fx ι1 H1 σ ((compLoop T c elt vs items [] st1).bind fun ys st2 => .ok ys ⟨restS st1.sl (wipeS st2.sl vs) vs, st2.mu⟩) _ := q1
      rw [e1, e2] at q2
      exact q2
    rw [compLoop_cons] at eq'
    cases e : T.put d (wipeS st'.sl vs) with
    | none =>
      simp only [e] at eq'
      exact (nbad eq' rfl).elim
    | some sl =>
      simp only [e] at eq'
      refine ⟨fun b => Fx b ∨ b = D, ι', ⟨wipeS st'.sl vs, st'.mu⟩, d, sl, r'.same gr, rd, e, fun ι3 σ3 s3 r3 hσ => ⟨?_, ?_⟩⟩
      · refine wipe_eq ?_ fun j hj => hσ j ?_
        · have h1 := r3.len
          have h2 : sl.length = _ := Tg.put_len e
          have h3 := r'.len
          rw [wipe_length] at h3
          simp only at h1 h3
          omega
        · cases T with
          | nm i =>
            have : i ∈ vs := hT
            exact fun z => hj (by rw [z]; exact this)
          | tp is =>
            have : ∀ i ∈ is, i ∈ vs := hT
            exact fun z => hj (this j z)
      · -- the test
        have s4 : Step ι1 H1 ι3 H2 := s'.trans (gr.step.trans s3)
        have hD2 : H2 D = some (.lst accV) := gr D _ hl'
        have ra2 : RepAll g.K H2 (fun b => Fx b ∨ b = D) ι3 acc accV := RepAll.car ((gr.step (ι := ι')).trans s3).car _ _ ra'
        refine ⟨fun b => Fx b ∨ b = D, ι3, ⟨sl, st'.mu⟩, r3, ?_⟩
        cases ec : c ⟨sl, st'.mu⟩ with
        | er x5 st5 =>
          rw [ec] at eq'
          exact (nbad eq' rfl).elim
        | bad =>
          rw [ec] at eq'
          exact (nbad eq' rfl).elim
        | ok b st5 =>
          rw [ec] at eq'
          have eq5 : compLoop T c elt vs items [] st1 = if b then (noEr (elt st5)).bind fun y st2 => (if acc.length < lim then compLoop T c elt vs (items.drop (i + 1)) (acc ++ [y]) st2 else .bad) else compLoop T c elt vs (items.drop (i + 1)) acc st5 := eq'
          intro ι5 H5 s5 r5
          have s15 : Step ι1 H1 ι5 H5 := s4.trans s5
          have hD5 : H5 D = some (.lst accV) := s5.keep D _ hD2 (r3.fx D (.inr rfl))
          have ra5 : RepAll g.K H5 (fun b => Fx b ∨ b = D) ι5 acc accV := RepAll.car s5.car _ _ ra2
          have hw3 : wipe σ3 vs = wipe σ vs := by
            refine wipe_eq ?_ fun j hj => hσ j ?_
            · have h1 := r3.len
              have h2 : sl.length = _ := Tg.put_len e
              have h3 := r'.len
              rw [wipe_length] at h3
              simp only at h1 h3
              omega
            · cases T with
              | nm i =>
                have : i ∈ vs := hT
                exact fun z => hj (by rw [z]; exact this)
              | tp is =>
                have : ∀ i ∈ is, i ∈ vs := hT
                exact fun z => hj (this j z)
          cases b with
          | false =>
            rw [if_neg (by decide)] at eq5
            refine iteF ?_
            obtain ⟨ι6, s6, r6⟩ := r5.wiped vs
            rw [hw3] at r6
            exact ⟨ι6, st5, acc, accV, s15.trans s6, r6, hD5, RepAll.car s6.car _ _ ra5, eq5⟩
          | true =>
            rw [if_pos rfl] at eq5
            refine iteT ?_
            refine ⟨fun b => Fx b ∨ b = D, ι5, st5, r5, ?_⟩
            cases ee : elt st5 with
            | er x7 st7 =>
              rw [ee] at eq5
              exact (nbad eq5 rfl).elim
            | bad =>
              rw [ee] at eq5
              exact (nbad eq5 rfl).elim
            | ok y7 st7 =>
              rw [ee] at eq5
              have eq7 : compLoop T c elt vs items [] st1 = (if acc.length < lim then compLoop T c elt vs (items.drop (i + 1)) (acc ++ [y7]) st7 else .bad) := eq5
              intro ι7 H7 s7 r7 v7 rv7
              split at eq7
              · rename_i hlen
                have hD7 : H7 D = some (.lst accV) := s7.keep D _ hD5 (r5.fx D (.inr rfl))
                have ra7 : RepAll g.K H7 (fun b => Fx b ∨ b = D) ι7 acc accV := RepAll.car s7.car _ _ ra5
                refine ⟨accV, hD7, by rw [← ra7.length]; exact Nat.lt_of_lt_of_le hlen lim_line, ?_⟩
                obtain ⟨ι8, s8, r8⟩ := (r7.apartUpd (o := .lst (accV ++ [v7]))).wiped vs
                rw [hw3] at r8
                have sU : Step ι1 H1 ι7 (upd H7 D (.lst (accV ++ [v7]))) := by
                  have z := s15.trans s7
                  refine ⟨fun b o e n => ?_, z.ow, z.ce, fun b o e => ?_⟩
                  · rw [upd_ne (ne_of_none e hD)]
                    exact z.keep b o e n
                  · obtain ⟨o', e'⟩ := z.th b o e
                    exact upd_th b o' e'
                exact ⟨ι8, st7, acc ++ [y7], accV ++ [v7], sU.trans s8, r8, upd_same, RepAll.car s8.car _ _ (car_upd (ra7.append (.cons rv7 .nil))), eq7⟩
              · exact (nbad eq7 rfl).elim
  · rintro H' ⟨ι', st', acc, accV, s', r', hl', ra', eq'⟩
    rw [List.drop_length] at eq'
    have q2 : Aft g W Fx ι1 H1 σ ((compLoop T c elt vs items [] st1).bind fun ys st2 => .ok ys ⟨restS st1.sl (wipeS st2.sl vs) vs, st2.mu⟩) _ := q1
    rw [eq'] at q2
    have rr := r'.restored r1 (carD s') fun j x hj e => wipeS_in hj e
    exact q2 ι' H' s' (rr.fxle fun b z => .inl z) D accV (s1.none hD) hl' rr ra'
variable {tg iter elt c₁ : Expr} {scope : Scope} {own : List (Str × Nat)} {pos spos py : Pos} {T : Tg} {its : M (List D)} {fc : M Bool} {fe : M D}
/-- a block's context -/
abbrev blkX (X : Cx) (scope : Scope) (s : Shared) (H : Hp) (C : Addr) (cl : List (Str × Addr)) (fp : List Addr) : Cx := X.blk s H scope (compEnvC scope cl C X.env) fp
def noW : WX := fun _ _ _ _ => False
theorem PFd.comp0 (hc : X.calm = true) (hN : X.N.Nodup) (hi : PId X W tg iter its) (ok : BlkOk X.N X.env.scope scope own) (hT : T_in T (own.map (·.2)))
    (hg : ∀ s H C cl fp, PGd (blkX X scope s H C cl fp) tg T) (he : ∀ s H C cl fp, PEd (blkX X scope s H C cl fp) noW elt fe) (hs : ∀ x, foldedSetIterable iter X.env x = pure x) :
    PFd X W (.ListComp elt [⟨tg, iter, [], 0⟩] scope pos) (mComp its T mYes fe (own.map (·.2))) :=
  PE.imp (pe_lc (g := tG (gx X) T) (tt := tT (gx X) noW mYes) (te := tE (gx X) noW fe) hc hN hi ok hg (fun _ _ _ _ _ => (⟨fun pins s σ H Q I hw => by
    obtain ⟨Fx, ι, st, r, q⟩ := hw
    exact pts_nil.run pins s σ H Q I (q.ok r)⟩ : PTs _ [] (tT (gx X) noW mYes))) he hs) fun σ H Q h => tLc_of hT h
theorem PFd.comp1 (hc : X.calm = true) (hN : X.N.Nodup) (hi : PId X W tg iter its) (ok : BlkOk X.N X.env.scope scope own) (hT : T_in T (own.map (·.2)))
    (hg : ∀ s H C cl fp, PGd (blkX X scope s H C cl fp) tg T) (ht : ∀ s H C cl fp, PTd (blkX X scope s H C cl fp) noW c₁ fc) (he : ∀ s H C cl fp, PEd (blkX X scope s H C cl fp) noW elt fe) (hs : ∀ x, foldedSetIterable iter X.env x = pure x) :
    PFd X W (.ListComp elt [⟨tg, iter, [c₁], 0⟩] scope pos) (mComp its T fc fe (own.map (·.2))) :=
  PE.imp (pe_lc (g := tG (gx X) T) (tt := tT (gx X) noW fc) (te := tE (gx X) noW fe) hc hN hi ok hg (fun s H C cl fp => pts_one (ht s H C cl fp)) he hs) fun σ H Q h => tLc_of hT h
/-- name = [..] -/
theorem PSd.setC0 {i : Nat} {y : Str} (hc : X.calm = true) (hN : X.N.Nodup) (hy : X.N[i]? = some y) (hyl : X.env.scope.names.lookup y = some .local) (hsw : swapsWith (.ListComp elt [⟨tg, iter, [], 0⟩] scope pos) (some (.Name y py)) spos.line X.env = pure true)
    (hi : PId X W tg iter its) (ok : BlkOk X.N X.env.scope scope own) (hT : T_in T (own.map (·.2)))
    (hg : ∀ s H C cl fp, PGd (blkX X scope s H C cl fp) tg T) (he : ∀ s H C cl fp, PEd (blkX X scope s H C cl fp) noW elt fe) (hs : ∀ x, foldedSetIterable iter X.env x = pure x) :
    PSd X W (.Assign [.Name y py] (.ListComp elt [⟨tg, iter, [], 0⟩] scope pos) spos) (sSetL i (mComp its T mYes fe (own.map (·.2)))) :=
  PS.imp (ps_setLc (g := tG (gx X) T) (tt := tT (gx X) noW mYes) (te := tE (gx X) noW fe) hc hN hy hyl hsw hi ok hg (fun _ _ _ _ _ => (⟨fun pins s σ H Q I hw => by
    obtain ⟨Fx, ι, st, r, q⟩ := hw
    exact pts_nil.run pins s σ H Q I (q.ok r)⟩ : PTs _ [] (tT (gx X) noW mYes))) he hs) fun Dn σ H h => by
      obtain ⟨z⟩ : Nonempty Unit := ⟨()⟩
      exact tLc_of hT (show tF _ _ _ σ H _ from tF_set h)
theorem PSd.setC1 {i : Nat} {y : Str} (hc : X.calm = true) (hN : X.N.Nodup) (hy : X.N[i]? = some y) (hyl : X.env.scope.names.lookup y = some .local) (hsw : swapsWith (.ListComp elt [⟨tg, iter, [c₁], 0⟩] scope pos) (some (.Name y py)) spos.line X.env = pure true)
    (hi : PId X W tg iter its) (ok : BlkOk X.N X.env.scope scope own) (hT : T_in T (own.map (·.2)))
    (hg : ∀ s H C cl fp, PGd (blkX X scope s H C cl fp) tg T) (ht : ∀ s H C cl fp, PTd (blkX X scope s H C cl fp) noW c₁ fc) (he : ∀ s H C cl fp, PEd (blkX X scope s H C cl fp) noW elt fe) (hs : ∀ x, foldedSetIterable iter X.env x = pure x) :
    PSd X W (.Assign [.Name y py] (.ListComp elt [⟨tg, iter, [c₁], 0⟩] scope pos) spos) (sSetL i (mComp its T fc fe (own.map (·.2)))) :=
  PS.imp (ps_setLc (g := tG (gx X) T) (tt := tT (gx X) noW fc) (te := tE (gx X) noW fe) hc hN hy hyl hsw hi ok hg (fun s H C cl fp => pts_one (ht s H C cl fp)) he hs) fun Dn σ H h => tLc_of hT (show tF _ _ _ σ H _ from tF_set h)
end
end Pv
/-! Pv20 (between Pv9 and Pv10): cells seen through, calls that see no cells, told lists that are cleared. -/
namespace Pv
open PySem PySem.Spec L2
mutual
/-- no lists, no cells within -/
def noL : D → Bool
  | .tup xs => noLs xs
  | .lst _ => false
  | .lk _ => false
  | .ref _ => false
  | _ => true
def noLs : List D → Bool
  | [] => true
  | x :: xs => noL x && noLs xs
end
mutual
def mapR (h : Nat → D) : D → D
  | .tup xs => .tup (mapRs h xs)
  | .lst xs => .lst (mapRs h xs)
  | .lk xs => .lk (mapRs h xs)
  | .ref k => h k
  | .non => .non
  | .bl b => .bl b
  | .int i => .int i
  | .str s => .str s
def mapRs (h : Nat → D) : List D → List D
  | [] => []
  | x :: xs => mapR h x :: mapRs h xs
end
/-- data seen through the cells that are lists -/
def look : Nat → List Cell → D → D
  | 0, _ => fun d => d
  | n + 1, mu => mapR fun k => match mu[k]? with
    | some (.lst xs) => .lst (xs.map (look n mu))
    | _ => .ref k
mutual
theorem mapR_data {h : Nat → D} : ∀ d : D, isData d = true → mapR h d = d
  | .non, _ => rfl
  | .bl _, _ => rfl
  | .int _, _ => rfl
  | .str _, _ => rfl
  | .tup xs, e => by simp only [mapR]; rw [mapRs_data xs (by simpa only [isData] using e)]
  | .lst xs, e => by simp only [mapR]; rw [mapRs_data xs (by simpa only [isData] using e)]
  | .lk xs, e => by simp only [mapR]; rw [mapRs_data xs (by simpa only [isData] using e)]
  | .ref _, e => by simp only [isData] at e; cases e
theorem mapRs_data {h : Nat → D} : ∀ ds : List D, isDataAll ds = true → mapRs h ds = ds
  | [], _ => rfl
  | d :: ds, e => by
    simp only [isDataAll, Bool.and_eq_true] at e
    simp only [mapRs]
    rw [mapR_data d e.1, mapRs_data ds e.2]
end
theorem look_data {n : Nat} {mu : List Cell} {d : D} (h : isData d = true) : look n mu d = d := by
  cases n with
  | zero => rfl
  | succ n => exact mapR_data d h
mutual
theorem data_noL : ∀ d : D, noL d = true → isData d = true
  | .non, _ => rfl
  | .bl _, _ => rfl
  | .int _, _ => rfl
  | .str _, _ => rfl
  | .tup xs, e => by simp only [isData]; exact data_noLs xs (by simpa only [noL] using e)
  | .lst xs, e => by simp only [noL] at e; cases e
  | .lk xs, e => by simp only [noL] at e; cases e
  | .ref _, e => by simp only [noL] at e; cases e
theorem data_noLs : ∀ ds : List D, noLs ds = true → isDataAll ds = true
  | [], _ => rfl
  | d :: ds, e => by
    simp only [noLs, Bool.and_eq_true] at e
    simp only [isDataAll, Bool.and_eq_true]
    exact ⟨data_noL d e.1, data_noLs ds e.2⟩
end
section
variable {K : PySem.W.Frag} {H H' : Hp} {Fx Fx' : Addr → Prop} {ι ι' : Io}
mutual
/-- what holds no lists is told in any surroundings in which its tuples are no one's own -/
theorem Rep.noL (hm : ∀ b vs, Rd H b (.tup vs) → ¬ Mt Fx ι b → ¬ Mt Fx' ι' b) : ∀ (d : D) (v : V), Pv.noL d = true → Rep K H Fx ι d v → Rep K H Fx' ι' d v
  | .non, v, _, h => by simpa only [Rep] using h
  | .bl _, v, _, h => by simpa only [Rep] using h
  | .int _, v, _, h => by simpa only [Rep] using h
  | .str _, v, _, h => by simpa only [Rep] using h
  | .tup ds, v, e, h => by
    simp only [Rep] at h ⊢
    obtain ⟨a, vs, q, t, r⟩ := h
    refine ⟨a, vs, q, ?_, RepAll.noL hm ds vs (by simpa only [Pv.noL] using e) r⟩
    rcases t with ⟨t, n⟩ | t
    · exact .inl ⟨t, hm a _ t n⟩
    · exact .inr t
  | .lst _, v, e, h => by simp only [Pv.noL] at e; cases e
  | .lk _, v, e, h => by simp only [Pv.noL] at e; cases e
  | .ref _, v, e, h => by simp only [Pv.noL] at e; cases e
theorem RepAll.noL (hm : ∀ b vs, Rd H b (.tup vs) → ¬ Mt Fx ι b → ¬ Mt Fx' ι' b) : ∀ (ds : List D) (vs : List V), noLs ds = true → RepAll K H Fx ι ds vs → RepAll K H Fx' ι' ds vs
  | [], vs, _, h => by simpa only [RepAll] using h
  | d :: ds, vs, e, h => by
    simp only [noLs, Bool.and_eq_true] at e
    simp only [RepAll] at h ⊢
    obtain ⟨v, r, q, h1, h2⟩ := h
    exact ⟨v, r, q, Rep.noL hm d v e.1 h1, RepAll.noL hm ds r e.2 h2⟩
end
mutual
/-- data without cells, in surroundings where less is anyone's own -/
theorem Rep.dat (hm : ∀ b, Mt Fx' ι' b → Mt Fx ι b) : ∀ (d : D) (v : V), isData d = true → Rep K H Fx ι d v → Rep K H Fx' ι' d v
  | .non, v, _, h => by simpa only [Rep] using h
  | .bl _, v, _, h => by simpa only [Rep] using h
  | .int _, v, _, h => by simpa only [Rep] using h
  | .str _, v, _, h => by simpa only [Rep] using h
  | .tup ds, v, e, h => by
    simp only [Rep] at h ⊢
    obtain ⟨a, vs, q, t, r⟩ := h
    refine ⟨a, vs, q, ?_, RepAll.dat hm ds vs (by simpa only [isData] using e) r⟩
    rcases t with ⟨t, n⟩ | t
    · exact .inl ⟨t, fun z => n (hm a z)⟩
    · exact .inr t
  | .lst ds, v, e, h => by
    simp only [Rep] at h ⊢
    obtain ⟨a, vs, q, t, n, r⟩ := h
    exact ⟨a, vs, q, t, fun z => n (hm a z), RepAll.dat hm ds vs (by simpa only [isData] using e) r⟩
  | .lk ds, v, e, h => by
    simp only [Rep] at h ⊢
    obtain ⟨a, vs, q, t, r⟩ := h
    refine ⟨a, vs, q, ?_, RepAll.dat hm ds vs (by simpa only [isData] using e) r⟩
    rcases t with ⟨t, n⟩ | t
    · exact .inl ⟨t, fun z => n (hm a z)⟩
    · exact .inr t
  | .ref _, v, e, h => by simp only [isData] at e; cases e
theorem RepAll.dat (hm : ∀ b, Mt Fx' ι' b → Mt Fx ι b) : ∀ (ds : List D) (vs : List V), isDataAll ds = true → RepAll K H Fx ι ds vs → RepAll K H Fx' ι' ds vs
  | [], vs, _, h => by simpa only [RepAll] using h
  | d :: ds, vs, e, h => by
    simp only [isDataAll, Bool.and_eq_true] at e
    simp only [RepAll] at h ⊢
    obtain ⟨v, r, q, h1, h2⟩ := h
    exact ⟨v, r, q, Rep.dat hm d v e.1 h1, RepAll.dat hm ds r e.2 h2⟩
end
theorem Rep.flat {d : D} {v : V} (e : flatD d = true) (h : Rep K H Fx ι d v) : Rep K H' Fx' ι' d v := by
  cases d <;> first | (simp only [Rep] at h ⊢; exact h) | cases e
end
section
variable {g : Gx} {Fx Fx' : Addr → Prop} {ι ι' : Io} {H H' : Hp} {σ : L2.St} {st : ES}
theorem Grow.of_free {H H' : Hp} {ι : Io} (s : Step (fun _ => none) H ι H') : Grow H H' := fun b o e => s.keep b o e fun ⟨w, z⟩ => by cases z
/-- a later heap in which all stays, and one new thing in it apart -/
theorem SRel.apartG (r : SRel g Fx ι H σ st) (gr : Grow H H') {p : Addr} {o : HO} (h : H p = none) (h' : H' p = some o) : SRel g (fun a => Fx a ∨ a = p) ι H' σ st := by
  have k : Car Fx ι H (fun a => Fx a ∨ a = p) ι H' := ⟨fun b u e _ => gr b u e, fun b z => by
    rcases z with (z | z) | z
    · exact .inl (.inl z)
    · rw [z]
      exact .inr h
    · exact .inl (.inr z), fun _ _ z => z⟩
  exact ⟨r.len, fun i d e => let ⟨v, h1, h2⟩ := r.va i d e; ⟨v, h1, Rep.car k _ _ h2⟩, fun i xs e => let ⟨a, vs, h1, h2, h3, h4⟩ := r.ac i xs e; ⟨a, vs, h1, h2, gr _ _ h3, RepAll.car k _ _ h4⟩,
    fun n c e => let ⟨a, h1, h2⟩ := r.ce n c e; ⟨a, h1, h2.car' k (gr a)⟩, r.dom, r.domc, r.inj, fun a z q => by
      rcases z with z | z
      · exact r.fx a z q
      · rw [z] at q
        exact r.fresh h (.inr q), fun a z => by
      rcases z with z | z
      · obtain ⟨u, e⟩ := r.fxt a z
        exact ⟨u, gr a u e⟩
      · rw [z]
        exact ⟨o, h'⟩, fun a z => let ⟨u, e⟩ := r.owt a z; ⟨u, gr a u e⟩⟩
/-- no state at all -/
theorem SRel.zero (hf : ∀ a, Fx a → ∃ o, H a = some o) : SRel g Fx (fun _ => none) H [] ⟨[], []⟩ :=
  ⟨rfl, fun i d e => (by simp at e), fun i d e => (by simp at e), fun i d e => (by simp at e), fun i a e => (by cases e), fun i a e => (by cases e), fun w w' a e => (by cases e), fun a _ z => (by obtain ⟨w, z⟩ := z; cases z), hf, fun a z => (by obtain ⟨w, z⟩ := z; cases z)⟩
/-- what stands apart is changed -/
theorem car_apset {p : Addr} {o : HO} (hp : Fx p) (ho : ¬ Ow ι p) : Car Fx ι H Fx ι (upd H p o) := ⟨fun b u e n => by rw [upd_ne (fun z => n (.inl (by rw [z]; exact hp)))]; exact e, fun b z => .inl z, fun _ _ z => z⟩
theorem SRel.apset {p : Addr} {o o' : HO} (r : SRel g (fun b => Fx b ∨ b = p) ι H σ st) (h : H p = some o) (ho : ¬ Ow ι p) : SRel g (fun b => Fx b ∨ b = p) ι (upd H p o') σ st := by
  have k : Car (fun b => Fx b ∨ b = p) ι H (fun b => Fx b ∨ b = p) ι (upd H p o') := car_apset (.inr rfl) ho
  have nb : ∀ w b, ι w = some b → b ≠ p := fun w b e z => ho ⟨w, by rw [← z]; exact e⟩
  refine ⟨r.len, fun i d e => let ⟨v, h1, h2⟩ := r.va i d e; ⟨v, h1, Rep.car k _ _ h2⟩, fun i xs e => let ⟨a, vs, h1, h2, h3, h4⟩ := r.ac i xs e; ⟨a, vs, h1, h2, by rw [upd_ne (nb _ a h1)]; exact h3, RepAll.car k _ _ h4⟩,
    fun n c e => let ⟨a, h1, h2⟩ := r.ce n c e; ⟨a, h1, h2.car' k fun o z => by rw [upd_ne (nb _ a h1)]; exact z⟩, r.dom, r.domc, r.inj, r.fx, fun a z => ?_, fun a z => ?_⟩
  · obtain ⟨u, e⟩ := r.fxt a z
    by_cases ha : a = p
    · rw [ha]; exact ⟨_, upd_same⟩
    · exact ⟨u, by rw [upd_ne ha]; exact e⟩
  · obtain ⟨u, e⟩ := r.owt a z
    by_cases ha : a = p
    · rw [ha]; exact ⟨_, upd_same⟩
    · exact ⟨u, by rw [upd_ne ha]; exact e⟩
mutual
theorem map_rep {mu : List Cell} {h : Nat → D} (r : SRel g Fx ι H σ st) (hm : ∀ b, ¬ Fx b → ¬ Mt Fx' ι' b) (hr : ∀ k v, Rep g.K H Fx ι (.ref k) v → isData (h k) = true → Rep g.K H Fx' ι' (h k) v) :
    ∀ (d : D) (v : V), Rep g.K H Fx ι d v → isData (mapR h d) = true → Rep g.K H Fx' ι' (mapR h d) v
  | .non, v, q, _ => by simpa only [Rep, mapR] using q
  | .bl _, v, q, _ => by simpa only [Rep, mapR] using q
  | .int _, v, q, _ => by simpa only [Rep, mapR] using q
  | .str _, v, q, _ => by simpa only [Rep, mapR] using q
  | .tup ds, v, q, e => by
    simp only [mapR, isData] at e
    simp only [Rep, mapR] at q ⊢
    obtain ⟨a, vs, z, t, p⟩ := q
    refine ⟨a, vs, z, ?_, map_reps (mu := mu) r hm hr ds vs p e⟩
    rcases t with ⟨t, n⟩ | t
    · exact .inl ⟨t, hm a fun z => n (.inl z)⟩
    · exact .inr t
  | .lst ds, v, q, e => by
    simp only [mapR, isData] at e
    simp only [Rep, mapR] at q ⊢
    obtain ⟨a, vs, z, t, n, p⟩ := q
    exact ⟨a, vs, z, t, hm a fun z => n (.inl z), map_reps (mu := mu) r hm hr ds vs p e⟩
  | .lk ds, v, q, e => by
    simp only [mapR, isData] at e
    simp only [Rep, mapR] at q ⊢
    obtain ⟨a, vs, z, t, p⟩ := q
    refine ⟨a, vs, z, ?_, map_reps (mu := mu) r hm hr ds vs p e⟩
    rcases t with ⟨t, n⟩ | t
    · exact .inl ⟨t, hm a fun z => n (.inl z)⟩
    · exact .inr t
  | .ref k, v, q, e => hr k v q (by simpa only [mapR] using e)
theorem map_reps {mu : List Cell} {h : Nat → D} (r : SRel g Fx ι H σ st) (hm : ∀ b, ¬ Fx b → ¬ Mt Fx' ι' b) (hr : ∀ k v, Rep g.K H Fx ι (.ref k) v → isData (h k) = true → Rep g.K H Fx' ι' (h k) v) :
    ∀ (ds : List D) (vs : List V), RepAll g.K H Fx ι ds vs → isDataAll (mapRs h ds) = true → RepAll g.K H Fx' ι' (mapRs h ds) vs
  | [], vs, q, _ => by simpa only [RepAll, mapRs] using q
  | d :: ds, vs, q, e => by
    simp only [mapRs, isDataAll, Bool.and_eq_true] at e
    simp only [RepAll, mapRs] at q ⊢
    obtain ⟨v, w, z, h1, h2⟩ := q
    exact ⟨v, w, z, map_rep (mu := mu) r hm hr d v h1 e.1, map_reps (mu := mu) r hm hr ds w h2 e.2⟩
end
theorem dataAll_mem {f : D → D} : ∀ {xs : List D} {x : D}, isDataAll (xs.map f) = true → x ∈ xs → isData (f x) = true
  | y :: ys, x, h, m => by
    simp only [List.map_cons, isDataAll, Bool.and_eq_true] at h
    rcases List.mem_cons.mp m with e | m
    · rw [e]; exact h.1
    · exact dataAll_mem h.2 m
theorem repAll_map {f : D → D} : ∀ {xs : List D} {vs : List V}, RepAll g.K H Fx ι xs vs → (∀ x v, x ∈ xs → Rep g.K H Fx ι x v → Rep g.K H Fx' ι' (f x) v) → RepAll g.K H Fx' ι' (xs.map f) vs
  | [], vs, q, _ => by simpa only [RepAll, List.map_nil] using q
  | d :: ds, vs, q, h => by
    simp only [RepAll, List.map_cons] at q ⊢
    obtain ⟨v, w, z, h1, h2⟩ := q
    exact ⟨v, w, z, h d v List.mem_cons_self h1, repAll_map h2 fun x v m => h x v (List.mem_cons_of_mem _ m)⟩
/-- data seen through the cells: told as frozen -/
theorem look_rep (r : SRel g Fx ι H σ st) (hm : ∀ b, ¬ Fx b → ¬ Mt Fx' ι' b) : ∀ (n : Nat) (d : D) (v : V), Rep g.K H Fx ι d v → isData (look n st.mu d) = true → Rep g.K H Fx' ι' (look n st.mu d) v
  | 0, d, v, q, e => by
    exact Rep.dat (fun b z => Classical.byContradiction fun n => hm b (fun k => n (.inl k)) z) d v e q
  | n + 1, d, v, q, e => by
    refine map_rep (mu := st.mu) r hm (fun k v q e => ?_) d v q e
    split at e
    · rename_i xs ex
      obtain ⟨a, e1, h1⟩ := rep_ref q
      subst e1
      obtain ⟨b, q1, vs, q2, q3⟩ := r.ce k _ ex
      rw [h1] at q1
      cases q1
      simp only [isData] at e
      have key : Rep g.K H Fx' ι' (.lst (xs.map (look n st.mu))) (.ref a) := ?_
      · simpa only [ex] using key
      simp only [Rep]
      refine ⟨a, vs, rfl, q2, hm a fun z => r.fx a z ⟨_, h1⟩, repAll_map q3 fun x v m p => look_rep r hm n x v p (dataAll_mem e m)⟩
    · simp only [isData] at e
      cases e
end
/-! ### calls -/
/-- the cells are seen through, none is told; the answer is flat -/
def flatE (e : Exc) : Bool := e.fs.all fun p => flatD p.2
def lendOut (h : Fn) (ds : List D) (st : ES) : R D := if isDataAll ds then (match h ds [] with
  | .ok d _ => if flatD d then .ok d st else .bad
  | .er e _ => if flatE e then .er e st else .bad
  | .bad => .bad) else .bad
def mCallL (h : Fn) (f : M (List D)) : M D := fun st => (f st).bind fun ds st1 => lendOut h (ds.map (look 20 st1.mu)) st1
/-- the answer is frozen, with the lists that were made for it -/
def freezeOut (h : Fn) (ds : List D) (st : ES) : R D := if isDataAll ds then (match h ds [] with
  | .ok d s => if isData (look 20 s.mu d) then .ok (look 20 s.mu d) st else .bad
  | .er e _ => if flatE e then .er e st else .bad
  | .bad => .bad) else .bad
def mCallF (h : Fn) (f : M (List D)) : M D := fun st => (f st).bind fun ds st1 => freezeOut h ds st1
/-- the answer's one list is one's own from now on, a cell -/
def thaw (n : Nat) : D → Option (D × List Cell)
  | .lst xs => if noLs xs then some (.ref n, [.lst xs]) else none
  | .tup [x, .lst xs] => if noL x && noLs xs then some (.tup [x, .ref n], [.lst xs]) else none
  | d => if noL d then some (d, []) else none
def thawOut (h : Fn) (ds : List D) (st : ES) : R D := if noLs ds then (match h ds [] with
  | .ok d _ => (match thaw st.mu.length d with
    | some (d', cs) => .ok d' ⟨st.sl, st.mu ++ cs⟩
    | none => .bad)
  | .er e _ => if flatE e then .er e st else .bad
  | .bad => .bad) else .bad
def mCallT (h : Fn) (f : M (List D)) : M D := fun st => (f st).bind fun ds st1 => thawOut h ds st1
theorem flatE_of {e : Exc} (h : flatE e = true) {f : Str} {x : D} (l : e.fs.lookup f = some x) : flatD x = true := by
  unfold flatE at h
  generalize e.fs = fs at *
  induction fs with
  | nil => cases l
  | cons p fs ih =>
    obtain ⟨k, y⟩ := p
    simp only [List.all_cons, Bool.and_eq_true] at h
    by_cases hk : f = k
    · subst hk
      simp [List.lookup] at l
      subst l
      exact h.1
    · have hb : (f == k) = false := by simpa using hk
      simp [List.lookup, hb] at l
      exact ih h.2 l
section
variable {X : Cx} {W : WX} {x : Str} {p pos : Pos} {e : Expr} {es : List Expr} {fs : M (List D)} {k : Nat} {f : Addr} {fd : FuncData} {ps : List Str} {h : Fn}
theorem er_out {g : Gx} {Fx Fx' : Addr → Prop} {ι ι' ι1 : Io} {H H' : Hp} {e : Exc} {cls : Value} {dd : Option Addr} (he : flatE e = true)
    (hx : ∃ C, cls = .ref C ∧ g.mg e.c = some (.ref C) ∧ ((e.fs = [] ∧ dd = none) ∨ ∃ a fv, dd = some a ∧ H' a = some (.xd fv) ∧ ∀ f x, e.fs.lookup f = some x → ∃ v, fv.lookup f = some v ∧ Rep g.K H' Fx ι x v)) :
    ∃ C, cls = .ref C ∧ g.mg e.c = some (.ref C) ∧ ((e.fs = [] ∧ dd = none) ∨ ∃ a fv, dd = some a ∧ H' a = some (.xd fv) ∧ ∀ f x, e.fs.lookup f = some x → ∃ v, fv.lookup f = some v ∧ Rep g.K H' Fx' ι' x v) := by
  obtain ⟨C, z1, z2, z3⟩ := hx
  refine ⟨C, z1, z2, ?_⟩
  rcases z3 with z3 | ⟨a, fv, y1, y2, y3⟩
  · exact .inl z3
  · refine .inr ⟨a, fv, y1, y2, fun f x hf => ?_⟩
    obtain ⟨v, w1, w2⟩ := y3 f x hf
    exact ⟨v, w1, w2.flat (flatE_of he hf)⟩
theorem map_len {n : Nat} {h : Fn} {ds : List D} {g : D → D} (hn : ∀ ds mu, ds.length ≠ n → h ds mu = .bad) (hb : h (ds.map g) [] ≠ .bad) : ds.length = n := by
  by_cases hl : ds.length = n
  · exact hl
  · exact absurd (hn _ _ (by rw [List.length_map]; exact hl)) hb
theorem tCallL_of {g : Gx} {σ : L2.St} {H : Hp} {Q : VK} {n : Nat} (hn : ∀ ds mu, ds.length ≠ n → h ds mu = .bad) (q : tE g W (mCallL h fs) σ H Q) : tCallS (spD g n h) (WE W) (tAs g W fs) σ H Q := by
  obtain ⟨Fx, ι, st, r, q⟩ := q
  refine ⟨Fx, ι, st, r, q.bind.imp fun ds ι1 H1 st1 s1 r1 q1 vs rv => ?_⟩
  unfold lendOut at q1
  split at q1
  · rename_i hd
    have hb : h (ds.map (look 20 st1.mu)) [] ≠ .bad := fun z => by rw [z] at q1; exact q1
    have hl := map_len hn hb
    have rr : RepAll g.K H1 (fun _ => False) (fun _ => none) (ds.map (look 20 st1.mu)) vs := repAll_map rv fun x v m rx => look_rep r1 (fun b _ z => by
      rcases z with z | ⟨w, z⟩
      · exact z
      · cases z) 20 x v rx (dataAll_mem hd m)
    refine ⟨by rw [← rv.length]; exact hl, fun _ => False, fun _ => none, _, [], SRel.zero (fun _ z => z.elim), rr, ?_⟩
    cases e : h (ds.map (look 20 st1.mu)) [] with
    | ok d s' =>
      simp only [e] at q1
      intro ι2 H2 s2 r2 v rv2
      split at q1
      · rename_i hf
        have gr := Grow.of_free s2
        exact q1 ι1 H2 gr.step (r1.same gr) v (rv2.flat hf)
      · exact q1.elim
    | er e s' =>
      simp only [e] at q1
      intro ι2 H2 cls dd s2 r2 hx
      split at q1
      · rename_i hf
        have gr := Grow.of_free s2
        exact q1 ι1 H2 cls dd gr.step (r1.same gr) (er_out (ι1 := ι1) (H := H1) hf hx)
      · exact q1.elim
    | bad => exact absurd e hb
  · exact q1.elim
theorem tCallF_of {g : Gx} {σ : L2.St} {H : Hp} {Q : VK} {n : Nat} (hn : ∀ ds mu, ds.length ≠ n → h ds mu = .bad) (q : tE g W (mCallF h fs) σ H Q) : tCallS (spD g n h) (WE W) (tAs g W fs) σ H Q := by
  obtain ⟨Fx, ι, st, r, q⟩ := q
  refine ⟨Fx, ι, st, r, q.bind.imp fun ds ι1 H1 st1 s1 r1 q1 vs rv => ?_⟩
  unfold freezeOut at q1
  split at q1
  · rename_i hd
    have hb : h ds [] ≠ .bad := fun z => by rw [z] at q1; exact q1
    have hl : ds.length = n := by
      by_cases hl : ds.length = n
      · exact hl
      · exact absurd (hn _ _ hl) hb
    have hm0 : ∀ b, Mt (Mt Fx ι1) (fun _ => none) b → Mt Fx ι1 b := fun b z => by
      rcases z with z | ⟨w, z⟩
      · exact z
      · cases z
    have rr : RepAll g.K H1 (Mt Fx ι1) (fun _ => none) ds vs := RepAll.dat hm0 ds vs hd rv
    refine ⟨by rw [← rv.length]; exact hl, Mt Fx ι1, fun _ => none, _, [], SRel.zero (fun a z => ?_), rr, ?_⟩
    · rcases z with z | z
      · exact r1.fxt a z
      · exact r1.owt a z
    cases e : h ds [] with
    | ok d s' =>
      simp only [e] at q1
      intro ι2 H2 s2 r2 v rv2
      split at q1
      · rename_i hf
        have gr := Grow.of_free s2
        refine q1 ι1 H2 gr.step (r1.same gr) v ?_
        exact look_rep r2 (fun b z => z) 20 d v rv2 hf
      · exact q1.elim
    | er e s' =>
      simp only [e] at q1
      intro ι2 H2 cls dd s2 r2 hx
      split at q1
      · rename_i hf
        have gr := Grow.of_free s2
        exact q1 ι1 H2 cls dd gr.step (r1.same gr) (er_out (ι1 := ι1) (H := H1) hf hx)
      · exact q1.elim
    | bad => exact absurd e hb
  · exact q1.elim
theorem tCallT_of {g : Gx} {σ : L2.St} {H : Hp} {Q : VK} {n : Nat} (hn : ∀ ds mu, ds.length ≠ n → h ds mu = .bad) (q : tE g W (mCallT h fs) σ H Q) : tCallS (spD g n h) (WE W) (tAs g W fs) σ H Q := by
  obtain ⟨Fx, ι, st, r, q⟩ := q
  refine ⟨Fx, ι, st, r, q.bind.imp fun ds ι1 H1 st1 s1 r1 q1 vs rv => ?_⟩
  unfold thawOut at q1
  split at q1
  · rename_i hd
    have hb : h ds [] ≠ .bad := fun z => by rw [z] at q1; exact q1
    have hl : ds.length = n := by
      by_cases hl : ds.length = n
      · exact hl
      · exact absurd (hn _ _ hl) hb
    have rr : RepAll g.K H1 (fun b => Mt Fx ι1 b ∨ ∃ us, H1 b = some (.lst us)) (fun _ => none) ds vs := RepAll.noL (fun b us hb n z => by
      rcases z with (z | ⟨us', z⟩) | ⟨w, z⟩
      · exact n z
      · rcases hb with hb | ⟨o, hb⟩
        · rw [z] at hb
          cases hb
        · rw [z] at hb
          cases hb
      · cases z) ds vs hd rv
    refine ⟨by rw [← rv.length]; exact hl, _, fun _ => none, _, [], SRel.zero (fun a z => ?_), rr, ?_⟩
    · rcases z with (z | z) | ⟨us, z⟩
      · exact r1.fxt a z
      · exact r1.owt a z
      · exact ⟨_, z⟩
    cases e : h ds [] with
    | ok d s' =>
      simp only [e] at q1
      intro ι2 H2 s2 r2 v rv2
      have gr := Grow.of_free s2
      cases et : thaw st1.mu.length d with
      | none =>
        simp only [et] at q1
        exact q1.elim
      | some p =>
        obtain ⟨d', cs⟩ := p
        simp only [et] at q1
        -- nothing to thaw
        have plain : noL d = true → d' = d → cs = [] → Q v H2 := fun hno e1 e2 => by
          subst e1 e2
          rw [List.append_nil] at q1
          exact q1 ι1 H2 gr.step (r1.same gr) v (Rep.noL (fun b us hb n z => n (.inl (.inl z))) _ v hno rv2)
        -- a new list
        have new : ∀ {a : Addr} {us : List V} {ys : List D}, H2 a = some (.lst us) → ¬ Mt (fun b => Mt Fx ι1 b ∨ ∃ us, H1 b = some (.lst us)) ι2 a → noLs ys = true → RepAll g.K H2 (fun b => Mt Fx ι1 b ∨ ∃ us, H1 b = some (.lst us)) ι2 ys us →
            H1 a = none ∧ SRel g Fx (own ι1 (.inr st1.mu.length) a) H2 σ ⟨st1.sl, st1.mu ++ [.lst ys]⟩ ∧ (∀ b vs, Rd H2 b (.tup vs) → ¬ Mt (fun b => Mt Fx ι1 b ∨ ∃ us, H1 b = some (.lst us)) ι2 b → ¬ Mt Fx (own ι1 (.inr st1.mu.length) a) b) := fun {a us ys} ha na hy ry => by
          have h0 : H1 a = none := by
            cases z : H1 a with
            | none => rfl
            | some o =>
              have z2 := gr a o z
              rw [ha] at z2
              cases z2
              exact absurd (.inl (.inr ⟨us, z⟩)) na
          have nf : ¬ Fx a := fun z => by
            obtain ⟨o, z2⟩ := r1.fxt a z
            rw [h0] at z2
            cases z2
          have ra := r1.apartG gr h0 ha
          have hne : ∀ b vs, Rd H2 b (.tup vs) → b ≠ a := fun b vs hb z => by
            subst z
            rcases hb with hb | ⟨o, hb⟩
            · rw [ha] at hb
              cases hb
            · rw [ha] at hb
              cases hb
          have hc : CellAt g H2 (fun b => Fx b ∨ b = a) ι1 a (.lst ys) := ⟨us, ha, RepAll.noL (fun b vs hb n z => by
            rcases z with (z | z) | z
            · exact n (.inl (.inl (.inl z)))
            · exact hne b vs hb z
            · exact n (.inl (.inl (.inr z)))) ys us hy ry⟩
          refine ⟨h0, ra.cell nf hc, fun b vs hb n z => ?_⟩
          rcases z with z | z
          · exact n (.inl (.inl (.inl z)))
          · rcases ow_own z with z | z
            · exact hne b vs hb z
            · exact n (.inl (.inl (.inr z)))
        have stp : ∀ {a : Addr}, H1 a = none → Step ι1 H1 (own ι1 (.inr st1.mu.length) a) H2 := fun {a} h0 => ⟨fun b o z _ => gr b o z, fun b z => (ow_own z).elim (fun z => .inr (by rw [z]; exact h0)) .inl, fun m b z => by
          have := r1.domc m b z
          unfold own
          rw [if_neg (fun z => by have := Sum.inr.inj z; omega)]
          exact z, fun b o z => ⟨o, gr b o z⟩⟩
        unfold thaw at et
        split at et
        · rename_i ys
          split at et
          · rename_i hy
            cases et
            obtain ⟨a, us, ev, ha, na, ry⟩ := rep_lst rv2
            subst ev
            obtain ⟨h0, rr2, hm⟩ := new ha na hy ry
            refine q1 _ H2 (stp h0) rr2 _ ?_
            simp only [Rep]
            exact ⟨a, rfl, by unfold own; rw [if_pos rfl]⟩
          · cases et
        · rename_i x ys
          split at et
          · rename_i hy
            rw [Bool.and_eq_true] at hy
            cases et
            obtain ⟨t, us, ev, ht, ry⟩ := rep_tup rv2
            subst ev
            obtain ⟨w1, w2, eu, hx, hys⟩ := rep2 ry
            subst eu
            obtain ⟨a, us2, ev, ha, na, ry2⟩ := rep_lst hys
            subst ev
            obtain ⟨h0, rr2, hm⟩ := new ha na hy.2 ry2
            refine q1 _ H2 (stp h0) rr2 _ ?_
            simp only [Rep]
            refine ⟨t, [w1, .ref a], rfl, ?_, .cons (Rep.noL hm x w1 hy.1 hx) (.cons ?_ .nil)⟩
            · rcases ht with ⟨ht, n⟩ | ht
              · exact .inl ⟨ht, hm t _ ht n⟩
              · exact .inr ht
            · simp only [Rep]
              exact ⟨a, rfl, by unfold own; rw [if_pos rfl]⟩
          · cases et
        · split at et
          · rename_i hno
            cases et
            exact plain hno rfl rfl
          · cases et
    | er e s' =>
      simp only [e] at q1
      intro ι2 H2 cls dd s2 r2 hx
      split at q1
      · rename_i hf
        have gr := Grow.of_free s2
        exact q1 ι1 H2 cls dd gr.step (r1.same gr) (er_out (ι1 := ι1) (H := H1) hf hx)
      · exact q1.elim
    | bad => exact absurd e hb
  · exact q1.elim
/-- the three ways of a call that is told no cells -/
inductive CM where
  | thru | L | F | T
  deriving DecidableEq, Inhabited
def CM.call : CM → Fn → M (List D) → M D
  | .thru => mCall
  | .L => mCallL
  | .F => mCallF
  | .T => mCallT
theorem PEd.callM (m : CM) (F : FnOk X.prog X.w X.K X.mg X.base (L2N.CX X.prog X.w) k f fd ps (spD (gx X) ps.length h)) (hn : ∀ ds mu, ds.length ≠ ps.length → h ds mu = .bad) (hr : Room k X.A) (hg : Gl X x) (hm : X.mg x = some (.ref f)) (hk : PySem.W.keepIn X.K (.ref f) = true) (hb : Binds X.K fd ps []) (tk : L2N.Takes X W)
    (ha : PAd X W (e :: es) fs) (hdb : (x == ("__debug__" : Str)) = false) (he : starEach (e :: es) X.env = (false, eval e X.env) :: starEach es X.env) (hpl : (backTo pos (starEach es X.env)).any (·.1) = false) :
    PEd X W (.Call (.Name x p) (e :: es) [] pos) (m.call h fs) := PE.imp (pe_callS F hr hg hm hk hb (fun σ => L2N.passAt tk σ) ha hdb he hpl) fun σ H Q q => by
  cases m with
  | thru => exact tCallS_of hn q
  | L => exact tCallL_of hn q
  | F => exact tCallF_of hn q
  | T => exact tCallT_of hn q
end
/-! ### told lists cleared -/
def mClear (f : M D) : M D := fun st => (f st).bind fun d st1 => match d with
  | .ref n => (match st1.mu[n]? with
    | some (.lst _) => .ok .non ⟨st1.sl, st1.mu.set n (.lst [])⟩
    | _ => .bad)
  | _ => .bad
section
variable {X : Cx} {W : WX} {o : Expr} {f : M D} {pos apos : Pos}
theorem PEd.clear (he : PEd X W o f) (hbase : attributeBase o "clear" X.env (eval o X.env) = eval o X.env) (hline : (apos.endLine == pos.line) = true) : PEd X W (.Call (.Attribute o "clear" apos) [] [] pos) (mClear f) :=
  PE.imp (pe_bm0 PySem.F.plainAttrs_list PySem.F.slot_list_clear PySem.F.type_list_clear mt_clear he hbase hline) fun σ H Q h => by
    obtain ⟨Fx, ι, st, r, q⟩ := h
    refine ⟨Fx, ι, st, r, q.bind.imp fun d ι1 H1 st1 s1 r1 q1 v rv => ?_⟩
    cases d with
    | ref n =>
      simp only at q1
      cases e : st1.mu[n]? with
      | none => simp only [e] at q1; exact q1.elim
      | some c =>
        cases c with
        | lst xs =>
          simp only [e] at q1
          obtain ⟨a, e1, h1⟩ := rep_ref rv
          subst e1
          obtain ⟨b, g1, vs, g2, g3⟩ := r1.ce n _ e
          rw [h1] at g1
          cases g1
          refine ⟨.inl ⟨rfl, vs, SqL.of g2⟩, a, vs, rfl, rfl, g2, ?_⟩
          exact q1 ι1 _ (step_upd ⟨_, h1⟩) (r1.ceset (List.getElem?_eq_some_iff.mp e).1 h1 ⟨[], upd_same, .nil⟩) _ mk_non
        | _ => simp only [e] at q1; exact q1.elim
    | _ => exact q1.elim
end
/-! ### dicts that are cells -/
def keyD : D → Option Key
  | .int i => some (.inl i)
  | .str s => some (.inr ⟨s.toArray⟩)
  | _ => none
def valD (kvs : List (Key × D)) (k : Key) : Option D := (kvs.find? fun kv => decide (kv.1 = k)).map (·.2)
def dPut (kvs : List (Key × D)) (k : Key) (v : D) : List (Key × D) :=
  if (kvs.any fun kv => decide (kv.1 = k)) = true then kvs.map (fun kv => if kv.1 = k then (kv.1, v) else kv) else kvs ++ [(k, v)]
def mergeD (kvs more : List (Key × D)) : List (Key × D) := more.foldl (fun acc kv => dPut acc kv.1 kv.2) kvs
section
variable {K : PySem.W.Frag} {H : Hp} {Fx : Addr → Prop} {ι : Io}
theorem key_rep {d : D} {v : V} {k : Key} (h : Rep K H Fx ι d v) (e : keyD d = some k) : v = kV k := by
  unfold keyD at e
  split at e
  · cases e; cases rep_int h; rfl
  · cases e; obtain ⟨e1, _⟩ := rep_str h; subst e1; rfl
  · cases e
theorem RepK.nil : RepK K H Fx ι ([] : List (Key × D)) [] := ⟨rfl, .nil⟩
theorem RepK.cons_inv {p : Key × D} {ds : List (Key × D)} {ws : List (Key × V)} (h : RepK K H Fx ι (p :: ds) ws) : ∃ v vs, ws = (p.1, v) :: vs ∧ Rep K H Fx ι p.2 v ∧ RepK K H Fx ι ds vs := by
  obtain ⟨h1, h2⟩ := h
  cases ws with
  | nil => cases h1
  | cons w ws =>
    simp only [List.map_cons, List.cons.injEq] at h1
    simp only [List.map_cons, RepAll] at h2
    obtain ⟨v, r, e, a, b⟩ := h2
    cases e
    exact ⟨w.2, ws, by rw [h1.1], a, h1.2, b⟩
theorem RepK.cons {k : Key} {d : D} {v : V} {ds : List (Key × D)} {ws : List (Key × V)} (h : Rep K H Fx ι d v) (r : RepK K H Fx ι ds ws) : RepK K H Fx ι ((k, d) :: ds) ((k, v) :: ws) := ⟨by simp [r.1], by simpa using RepAll.cons h r.2⟩
theorem RepK.nil_inv {ws : List (Key × V)} (h : RepK K H Fx ι ([] : List (Key × D)) ws) : ws = [] := by
  have := h.1
  simpa using this.symm
theorem RepK.append : ∀ {ds es : List (Key × D)} {vs ws : List (Key × V)}, RepK K H Fx ι ds vs → RepK K H Fx ι es ws → RepK K H Fx ι (ds ++ es) (vs ++ ws) := fun h g => ⟨by simp [h.1, g.1], by simpa using h.2.append g.2⟩
theorem RepK.val {k : Key} : ∀ {ds : List (Key × D)} {ws : List (Key × V)}, RepK K H Fx ι ds ws → (∀ d, valD ds k = some d → ∃ v, valV ws k = some v ∧ Rep K H Fx ι d v) ∧ (valD ds k = none → valV ws k = none)
  | [], ws, h => by
    rw [h.nil_inv]
    exact ⟨fun d e => (by cases e), fun _ => rfl⟩
  | p :: ds, ws, h => by
    obtain ⟨v, vs, e, a, b⟩ := h.cons_inv
    subst e
    obtain ⟨i1, i2⟩ := RepK.val (k := k) b
    unfold valD valV at *
    by_cases hk : p.1 = k
    · simp only [List.find?_cons, hk, decide_true, Option.map_some]
      exact ⟨fun d e => by cases e; exact ⟨v, rfl, a⟩, fun z => by cases z⟩
    · simp only [List.find?_cons, hk, decide_false]
      exact ⟨i1, i2⟩
theorem RepK.any {k : Key} {ds : List (Key × D)} {ws : List (Key × V)} (h : RepK K H Fx ι ds ws) : (ds.any fun kv => decide (kv.1 = k)) = (ws.any fun kv => decide (kv.1 = k)) := by
  have e : ∀ {α : Type} (l : List (Key × α)), (l.any fun kv => decide (kv.1 = k)) = ((l.map (·.1)).any fun x => decide (x = k)) := fun l => by rw [List.any_map]; rfl
  rw [e, e, h.1]
theorem RepK.repl {k : Key} {d : D} {v : V} (hd : Rep K H Fx ι d v) : ∀ {ds : List (Key × D)} {ws : List (Key × V)}, RepK K H Fx ι ds ws → RepK K H Fx ι (ds.map fun kv => if kv.1 = k then (kv.1, d) else kv) (ws.map fun kv => if kv.1 = k then (kv.1, v) else kv)
  | [], ws, h => by rw [h.nil_inv]; exact .nil
  | p :: ds, ws, h => by
    obtain ⟨u, vs, e, a, b⟩ := h.cons_inv
    subst e
    have ih := RepK.repl (k := k) hd b
    simp only [List.map_cons]
    by_cases hk : p.1 = k
    · simp only [hk, if_pos]; exact .cons hd ih
    · simp only [hk, if_neg, not_false_eq_true]; exact .cons a ih
theorem RepK.put {k : Key} {d : D} {v : V} (hd : Rep K H Fx ι d v) {ds : List (Key × D)} {ws : List (Key × V)} (h : RepK K H Fx ι ds ws) : RepK K H Fx ι (dPut ds k d) (putK ws k v) := by
  unfold dPut putK
  rw [h.any]
  split
  · exact h.repl hd
  · exact h.append (.cons hd .nil)
theorem RepK.merge : ∀ {ms ds : List (Key × D)} {ns ws : List (Key × V)}, RepK K H Fx ι ms ns → RepK K H Fx ι ds ws → RepK K H Fx ι (mergeD ds ms) (mergeK ws ns)
  | [], ds, ns, ws, h, g => by rw [h.nil_inv]; exact g
  | p :: ms, ds, ns, ws, h, g => by
    obtain ⟨v, vs, e, a, b⟩ := h.cons_inv
    subst e
    show RepK K H Fx ι (mergeD (dPut ds p.1 p.2) ms) (mergeK (putK ws p.1 v) vs)
    exact RepK.merge b (g.put a)
end
/-- key: value, one after another -/
def mPairs : List (M D × M D) → M (List (D × D))
  | [], st => .ok [] st
  | (k, v) :: r, st => (k st).bind fun x st1 => (v st1).bind fun y st2 => (mPairs r st2).bind fun ps st3 => .ok ((x, y) :: ps) st3
def pairsK : List (D × D) → Option (List (Key × D))
  | [] => some []
  | (k, v) :: r => match keyD k, pairsK r with
    | some k, some r => some ((k, v) :: r)
    | _, _ => none
def mDict (trs : List (M D × M D)) : M D := fun st => (mPairs trs st).bind fun ps st1 => match pairsK ps with
  | some kvs => .ok (.ref st1.mu.length) ⟨st1.sl, st1.mu ++ [.dct (mergeD [] kvs)]⟩
  | none => .bad
def mDGet (f g : M D) : M D := fun st => (f st).bind fun x st1 => (g st1).bind fun y st2 => match x, keyD y with
  | .ref n, some k => (match st2.mu[n]? with
    | some (.dct kvs) => (match valD kvs k with
      | some d => .ok d st2
      | none => .bad)
    | _ => .bad)
  | _, _ => .bad
section
variable {X : Cx} {W : WX} {e o i : Expr} {f fo fi : M D} {pos : Pos}
theorem tPairs_of {g : Gx} {σ : L2.St} {Fx : Addr → Prop} {Q : List (V × V) → Hp → Prop} : ∀ (trs : List (M D × M D)) (ι : Io) (H : Hp) (st : ES), SRel g Fx ι H σ st →
    (Aft g W Fx ι H σ (mPairs trs st) fun ds ι' H' _ => ∀ ps, RepAll g.K H' Fx ι' (ds.map (·.1)) (ps.map (·.1)) → RepAll g.K H' Fx ι' (ds.map (·.2)) (ps.map (·.2)) → Q ps H') → tPairs (trs.map fun p => (tE g W p.1, tE g W p.2)) σ H Q
  | [], ι, H, st, r, q => q.ok r [] .nil .nil
  | (k, v) :: trs, ι, H, st, r, q => by
    unfold mPairs at q
    refine ⟨Fx, ι, st, r, q.bind.imp fun d1 ι1 H1 st1 s1 r1 q1 x rx => ⟨Fx, ι1, st1, r1, q1.bind.imp fun d2 ι2 H2 st2 s2 r2 q2 y ry => ?_⟩⟩
    refine tPairs_of trs ι2 H2 st2 r2 (q2.bind.imp fun ds ι3 H3 st3 s3 r3 q3 ps h1 h2 => ?_)
    have q4 := q3.ok r3 ((x, y) :: ps) ?_ ?_
    · exact q4
    · exact .cons (Rep.car (s2.trans s3).car _ _ rx) h1
    · exact .cons (Rep.car s3.car _ _ ry) h2
theorem pairs_rep {g : Gx} {Fx : Addr → Prop} {ι : Io} {H : Hp} : ∀ {ds : List (D × D)} {ps : List (V × V)} {kvs : List (Key × D)}, pairsK ds = some kvs → RepAll g.K H Fx ι (ds.map (·.1)) (ps.map (·.1)) → RepAll g.K H Fx ι (ds.map (·.2)) (ps.map (·.2)) → ∃ ws : List (Key × V), ps = ws.map (fun kv => (kV kv.1, kv.2)) ∧ RepK g.K H Fx ι kvs ws
  | [], ps, kvs, e, h1, h2 => by
    cases e
    have : ps = [] := by
      have := h1.length
      simpa using this.symm
    subst this
    exact ⟨[], rfl, .nil⟩
  | (k, v) :: ds, ps, kvs, e, h1, h2 => by
    unfold pairsK at e
    split at e
    · rename_i k' r e1 e2
      cases e
      cases ps with
      | nil => have := h1.length; cases this
      | cons p ps =>
        obtain ⟨x, y⟩ := p
        simp only [List.map_cons, RepAll] at h1 h2
        obtain ⟨a1, a2, a3, a4, a5⟩ := h1
        obtain ⟨b1, b2, b3, b4, b5⟩ := h2
        cases a3
        cases b3
        obtain ⟨ws, i1, i2⟩ := pairs_rep e2 a5 b5
        refine ⟨(k', y) :: ws, ?_, .cons b4 i2⟩
        rw [List.map_cons, ← i1, key_rep a4 e1]
    · cases e
/-- the pairs of a display -/
inductive PPd (X : Cx) (W : WX) : List (Option Expr) → List Expr → List (M D × M D) → Prop
  | nil : PPd X W [] [] []
  | cons {k v : Expr} {ks : List (Option Expr)} {vs : List Expr} {fk fv : M D} {trs : List (M D × M D)} (hk : PEd X W k fk) (hv : PEd X W v fv) (h : PPd X W ks vs trs) : PPd X W (some k :: ks) (v :: vs) ((fk, fv) :: trs)
theorem PPd.pps {ks : List (Option Expr)} {vs : List Expr} {trs : List (M D × M D)} (h : PPd X W ks vs trs) : PPs X pos ks vs (trs.map fun p => (tE (gx X) W p.1, tE (gx X) W p.2)) ∧ ks.all (·.isSome) = true ∧ ks.length = vs.length := by
  induction h with
  | nil => exact ⟨pps_nil, rfl, rfl⟩
  | cons hk hv h ih => exact ⟨pps_cons hk hv ih.1, by simp [ih.2.1], by simp [ih.2.2]⟩
theorem mPairs_len : ∀ {trs : List (M D × M D)} {st st' : ES} {ds : List (D × D)}, mPairs trs st = .ok ds st' → ds.length = trs.length
  | [], st, st', ds, h => by cases h; rfl
  | (k, v) :: r, st, st', ds, h => by
    unfold mPairs at h
    cases e1 : k st with
    | ok x st1 =>
      rw [e1, R.bind_ok] at h
      cases e2 : v st1 with
      | ok y st2 =>
        rw [e2, R.bind_ok] at h
        cases e3 : mPairs r st2 with
        | ok ps st3 =>
          rw [e3, R.bind_ok] at h
          cases h
          simp [mPairs_len e3]
        | er _ _ => rw [e3] at h; cases h
        | bad => rw [e3] at h; cases h
      | er _ _ => rw [e2] at h; cases h
      | bad => rw [e2] at h; cases h
    | er _ _ => rw [e1] at h; cases h
    | bad => rw [e1] at h; cases h
theorem PEd.dict {ks : List (Option Expr)} {vs : List Expr} {trs : List (M D × M D)} (h : PPd X W ks vs trs) (h15 : ks.length ≤ 15) : PEd X W (.Dict ks vs pos) (mDict trs) := by
  have main : ∀ {σ : L2.St} {H : Hp} {Q : VK}, tE (gx X) W (mDict trs) σ H Q → ∀ p, H p = none → tPairs (trs.map fun p => (tE (gx X) W p.1, tE (gx X) W p.2)) σ (upd H p (.dK [])) fun ps H2 => H2 p = some (.dK []) ∧ ∃ kvs : List (Key × V), ps = kvs.map (fun kv => (kV kv.1, kv.2)) ∧ kvs.length ≤ 15 ∧ Q (.ref p) (upd H2 p (.dK (mergeK [] kvs))) := by
    intro σ H Q hq p hp
    obtain ⟨Fx, ι, st, r, q⟩ := hq
    have nf : ¬ Fx p := fun z => by
      obtain ⟨o, e⟩ := r.fxt p z
      rw [hp] at e
      cases e
    have r1 := r.apart (o := .dK []) hp
    unfold mDict at q
    have hlen : trs.length ≤ 15 := by
      have z : ks.length = trs.length := by
        clear q
        induction h with
        | nil => rfl
        | cons _ _ _ ih => simp [ih (by simpa using Nat.le_of_succ_le h15)]
      omega
    refine tPairs_of trs ι _ st r1 ?_
    cases em : mPairs trs st with
    | ok ds st1 =>
      rw [em] at q
      intro ι1 H1 s1 r2 ps h1 h2
      have hpp : H1 p = some (.dK []) := s1.keep p _ upd_same fun z => r.fresh hp (.inr z)
      cases ek : pairsK ds with
      | none =>
        simp only [R.bind_ok, ek] at q
        exact q.elim
      | some kvs =>
        simp only [R.bind_ok, ek] at q
        obtain ⟨ws, e1, e2⟩ := pairs_rep ek h1 h2
        have hl : ps.length = trs.length := by
          have z1 := mPairs_len em
          have z2 := h1.length
          simp only [List.length_map] at z2
          omega
        refine ⟨hpp, ws, e1, by rw [e1, List.length_map] at hl; omega, ?_⟩
        have g0 : ¬ Ow ι1 p := r2.fx p (.inr rfl)
        have r3 : SRel (gx X) (fun b => Fx b ∨ b = p) ι1 (upd H1 p (.dK (mergeK [] ws))) σ st1 := r2.apset hpp g0
        have c3 : CellAt (gx X) (upd H1 p (.dK (mergeK [] ws))) (fun b => Fx b ∨ b = p) ι1 p (.dct (mergeD [] kvs)) := ⟨_, upd_same, RepK.car (car_apset (Or.inr rfl) g0) (RepK.merge e2 .nil)⟩
        refine q _ _ ⟨fun b o z n => ?_, fun b z => ?_, fun n b z => ?_, fun b o z => ?_⟩ (r3.cell nf c3) _ ?_
        · have hb : b ≠ p := ne_of_none z hp
          rw [upd_ne hb]
          exact s1.keep b o (by rw [upd_ne hb]; exact z) n
        · rcases ow_own z with z | z
          · exact .inr (by rw [z]; exact hp)
          · rcases s1.ow b z with z | z
            · exact .inl z
            · refine .inr ?_
              by_cases hb : b = p
              · rw [hb]; exact hp
              · rw [upd_ne hb] at z; exact z
        · have := r2.domc n b (s1.ce n b z)
          unfold own
          rw [if_neg (fun z => by have := Sum.inr.inj z; omega)]
          exact s1.ce n b z
        · by_cases hb : b = p
          · rw [hb]; exact ⟨_, upd_same⟩
          · obtain ⟨o', z'⟩ := s1.th b o (by rw [upd_ne hb]; exact z)
            exact ⟨o', by rw [upd_ne hb]; exact z'⟩
        · simp only [Rep]
          exact ⟨p, rfl, by unfold own; rw [if_pos rfl]⟩
    | er ex st1 =>
      rw [em] at q
      intro ι1 H1 cls d s1 r2 hx
      refine q ι1 H1 cls d ((step_new hp).trans s1) (r2.fxle fun b z => .inl z) ?_
      obtain ⟨C, z1, z2, z3⟩ := hx
      refine ⟨C, z1, z2, ?_⟩
      rcases z3 with z3 | ⟨a, fv, y1, y2, y3⟩
      · exact .inl z3
      · refine .inr ⟨a, fv, y1, y2, fun f x hf => ?_⟩
        obtain ⟨v, w1, w2⟩ := y3 f x hf
        exact ⟨v, w1, Rep.car (car_le (fun b z => z.elim (fun q => .inl (.inl q)) .inr) fun _ _ z => z) _ _ w2⟩
    | bad =>
      rw [em] at q
      exact q.elim
  cases h with
  | nil =>
    exact PE.imp pe_dnewK fun σ H Q hq p hp => by
      obtain ⟨_, kvs, e1, _, e2⟩ := main hq p hp
      have : kvs = [] := by simpa using e1.symm
      subst this
      have e3 : upd (upd H p (.dK [])) p (.dK (mergeK [] [])) = upd H p (.dK []) := by
        funext b
        by_cases hb : b = p
        · rw [hb, upd_same, upd_same]; rfl
        · simp only [upd_ne hb]
      rw [e3] at e2
      exact e2
  | cons hk hv h =>
    have z := (PPd.cons hk hv h).pps (pos := pos)
    exact PE.imp (pe_disp z.1 z.2.1 z.2.2 (by simp) h15) fun σ H Q hq => main hq
theorem PEd.dget (hu : X.A.units + 1 < cLine) (ho : PEd X W o fo) (hi : PEd X W i fi) (hs : NoSl i) : PEd X W (.Subscript o i pos) (mDGet fo fi) := PE.imp (pe_dget hu ho hi hs) fun σ H Q h => by
  obtain ⟨Fx, ι, st, r, q⟩ := h
  refine ⟨Fx, ι, st, r, q.bind.imp fun dx ι1 H1 st1 s1 r1 q1 x rx => ⟨Fx, ι1, st1, r1, q1.bind.imp fun dy ι2 H2 st2 s2 r2 q2 y ry => ?_⟩⟩
  cases dx with
  | ref n =>
    simp only at q2
    cases ek : keyD dy with
    | none => simp only [ek] at q2; exact q2.elim
    | some k =>
      simp only [ek] at q2
      cases ec : st2.mu[n]? with
      | none => simp only [ec] at q2; exact q2.elim
      | some c =>
        cases c with
        | dct kvs =>
          simp only [ec] at q2
          cases ev : valD kvs k with
          | none => simp only [ev] at q2; exact q2.elim
          | some d =>
            simp only [ev] at q2
            obtain ⟨a, e1, h1⟩ := rep_ref (Rep.car s2.car _ _ rx)
            subst e1
            obtain ⟨b, g1, ws, g2, g3⟩ := r2.ce n _ ec
            rw [h1] at g1
            cases g1
            obtain ⟨v, g4, g5⟩ := (g3.val (k := k)).1 d ev
            refine ⟨a, v, rfl, ?_, q2.ok r2 v g5⟩
            rw [key_rep ry ek, ← g4]
            exact DGet.k g2
        | _ => simp only [ec] at q2; exact q2.elim
  | _ => exact q2.elim
end
/-! ### a dict told into another one -/
def rDUpd : V → List V → Hp → VK → Prop := fun x vs H Q => ∃ (a b : Addr) (kvs more : List (Key × V)), x = .ref a ∧ vs = [.ref b] ∧ a ≠ b ∧ H a = some (.dK kvs) ∧ H b = some (.dK more) ∧ kvs.length + more.length ≤ 1000 ∧ Q .non (upd H a (.dK (mergeK kvs more)))
theorem mtd_update {X : Cx} : MtR X "dict.update" rDUpd := by
  intro pins s σ H x vs v us Q I rx rv h
  obtain ⟨a, b, kvs, more, ex, ev, ne, e1, e2, hl, q⟩ := h
  subst ex
  subst ev
  obtain rfl : v = Value.ref a := rx
  obtain ⟨u, rfl, ru⟩ := rv.one
  obtain rfl : u = Value.ref b := ru
  obtain ⟨z1, hd1, vs1, rel1, dd1⟩ := dk_of I.hok e1
  obtain ⟨z2, hd2, vs2, rel2, dd2⟩ := dk_of I.hok e2
  have sz : 1000 ≤ sizeLine := by decide
  refine call_meetsIn PySem.F.slot_dict_update dd1.typeIs PySem.F.entry_dict_update (PySem.F.args_dict_update_2 _ _) (meets_dict_update (mixKind X.prog X.w) a b ne hd2)
    ⟨vs1, vs2, dd1, dd2, by rw [← rel1.length, ← rel2.length]; omega, fun h' dd' _ hs => ?_⟩
  have he : ∃ q, h'.get? a = some q := let ⟨q, _, _, hq, _⟩ := dd'; ⟨q, hq⟩
  have hz : (mergeK kvs more).length ≤ sizeLine := by
    have := length_mergeK more kvs
    omega
  exact ⟨.non, _, d_write (t' := s.toks) I (by rw [e1]; exact True.intro) hs he (dk_new hz hd1 (rel2.merge rel1) dd'), rfl, q⟩
def isDc (st : ES) : D → Bool
  | .ref n => (match st.mu[n]? with
    | some (.dct _) => true
    | _ => false)
  | _ => false
def mUpd (f g : M D) : M D := fun st => (f st).bind fun x st1 => if isDc st1 x = true then (g st1).bind fun y st2 => match x, y with
  | .ref n, .ref m => (match st2.mu[n]?, st2.mu[m]? with
    | some (.dct kvs), some (.dct more) => if n ≠ m ∧ kvs.length + more.length ≤ 1000 then .ok .non ⟨st2.sl, st2.mu.set n (.dct (mergeD kvs more))⟩ else .bad
    | _, _ => .bad)
  | _, _ => .bad else .bad
section
variable {X : Cx} {W : WX} {o e : Expr} {fo f : M D} {pos apos : Pos}
theorem RepK.len {K : PySem.W.Frag} {H : Hp} {Fx : Addr → Prop} {ι : Io} {ds : List (Key × D)} {ws : List (Key × V)} (h : RepK K H Fx ι ds ws) : ds.length = ws.length := by
  have := congrArg List.length h.1
  simpa using this
theorem PEd.update (ho : PEd X W o fo) (ha : PEd X W e f) (hbase : attributeBase o "update" X.env (eval o X.env) = eval o X.env) (hline : (apos.endLine == pos.line) = true)
    (hfew : ((backTo pos (starEach [e] X.env)).all (fun x => !x.1) && (backToKw pos (keywordEach [] X.env)).all (fun x => x.1.isSome) && decide ([e].length + ([] : List Keyword).length + (if ([] : List Keyword).isEmpty then 0 else 1) < 30)) = true)
    (hs : starEach [e] X.env = (false, eval e X.env) :: starEach [] X.env) : PEd X W (.Call (.Attribute o "update" apos) [e] [] pos) (mUpd fo f) :=
  PE.imp (pe_bm PySem.F.plainAttrs_dict PySem.F.slot_dict_update PySem.F.type_dict_update mtd_update ho (pa_cons ha pa_nil hs) hbase hfew hline hs rfl) fun σ H Q h => by
    obtain ⟨Fx, ι, st, r, q⟩ := h
    refine ⟨Fx, ι, st, r, q.bind.imp fun d ι1 H1 st1 s1 r1 q1 v rv => ?_⟩
    cases d with
    | ref n =>
      split at q1
      · rename_i hb
        unfold isDc at hb
        simp only at hb
        cases e0 : st1.mu[n]? with
        | none => rw [e0] at hb; cases hb
        | some c0 =>
          cases c0 with
          | dct kvs0 =>
            obtain ⟨a, e1, h1⟩ := rep_ref rv
            subst e1
            obtain ⟨a', g1, ws0, g2, g3⟩ := r1.ce n _ e0
            rw [h1] at g1
            cases g1
            refine ⟨.inr (.inr (.inl ⟨rfl, .inl ⟨_, g2⟩⟩)), Fx, ι1, st1, r1, q1.bind.imp fun d2 ι2 H2 st2 s2 r2 q2 w rw' => ?_⟩
            cases d2 with
            | ref m =>
              simp only at q2
              cases c1 : st2.mu[n]? with
              | none => simp only [c1] at q2; exact q2.elim
              | some x1 =>
                cases x1 with
                | dct kvs =>
                  cases c2 : st2.mu[m]? with
                  | none => simp only [c1, c2] at q2; exact q2.elim
                  | some x2 =>
                    cases x2 with
                    | dct more =>
                      simp only [c1, c2] at q2
                      split at q2
                      · rename_i hl
                        obtain ⟨b, e2, h2⟩ := rep_ref rw'
                        subst e2
                        have h1' := s2.ce n _ h1
                        obtain ⟨a2, k1, ws, k2, k3⟩ := r2.ce n _ c1
                        rw [h1'] at k1
                        cases k1
                        obtain ⟨b2, m1, ys, m2, m3⟩ := r2.ce m _ c2
                        rw [h2] at m1
                        cases m1
                        have ne : a ≠ b := fun z => by
                          subst z
                          exact hl.1 (by have := r2.inj _ _ _ h1' h2; cases this; rfl)
                        refine ⟨a, b, ws, ys, rfl, rfl, ne, k2, m2, by rw [← k3.len, ← m3.len]; exact hl.2, ?_⟩
                        have su := step_upd (H := H2) (o := .dK (mergeK ws ys)) ⟨_, h1'⟩
                        exact q2 ι2 _ su (r2.ceset (List.getElem?_eq_some_iff.mp c1).1 h1' ⟨_, upd_same, RepK.car su.car (RepK.merge m3 k3)⟩) _ mk_non
                      · exact q2.elim
                    | _ => simp only [c1, c2] at q2; exact q2.elim
                | _ => simp only [c1] at q2; exact q2.elim
            | _ => exact q2.elim
          | _ => rw [e0] at hb; cases hb
      · exact q1.elim
    | _ => 
      split at q1
      · rename_i hb; cases hb
      · exact q1.elim
end
/-! ### comparisons through cells -/
def dEqL (mu : List Cell) (x y : D) : Option D := dEq mu (look 20 mu x) (look 20 mu y)
def dNeL (mu : List Cell) (x y : D) : Option D := dNe mu (look 20 mu x) (look 20 mu y)
def dCmpL : CmpOp → List Cell → D → D → Option D
  | .Eq => dEqL
  | .NotEq => dNeL
  | op => dCmp op
theorem canEq_data {d : D} (h : canEq d = true) : isData d = true := by
  unfold canEq at h
  rw [Bool.and_eq_true] at h
  exact h.1
theorem opEqL {X : Cx} (hu : X.A.units + 64 < cLine) : Op2 X (compareOp .Eq) dEqL := by
  intro pins s σ H x y v u Q I rx ry h'
  obtain ⟨Fx, ι, σ', st, dx, dy, d, r, hx, hy, e, q⟩ := h'
  unfold dEqL dEq at e
  split at e
  · rename_i hc
    cases e
    simp only [Bool.and_eq_true] at hc
    have hm : ∀ b, ¬ Fx b → ¬ Mt (fun _ => False) (fun _ => none) b := fun b _ z => by
      rcases z with z | ⟨w, z⟩
      · exact z
      · cases z
    obtain ⟨a1, a2⟩ := shaped_of (look_rep r hm 20 _ _ hx (canEq_data hc.1)) hc.1
    obtain ⟨b1, b2⟩ := shaped_of (look_rep r hm 20 _ _ hy (canEq_data hc.2)) hc.2
    exact op_eqD hu pins s σ H _ _ v u Q I rx ry ⟨_, _, a1, b1, a2, b2, q _ H (Grow.refl H) mk_bl⟩
  · cases e
theorem opNeL {X : Cx} (hu : X.A.units + 64 < cLine) : Op2 X (compareOp .NotEq) dNeL := by
  intro pins s σ H x y v u Q I rx ry h'
  obtain ⟨Fx, ι, σ', st, dx, dy, d, r, hx, hy, e, q⟩ := h'
  unfold dNeL dNe at e
  split at e
  · rename_i hc
    cases e
    simp only [Bool.and_eq_true] at hc
    have hm : ∀ b, ¬ Fx b → ¬ Mt (fun _ => False) (fun _ => none) b := fun b _ z => by
      rcases z with z | ⟨w, z⟩
      · exact z
      · cases z
    obtain ⟨a1, a2⟩ := shaped_of (look_rep r hm 20 _ _ hx (canEq_data hc.1)) hc.1
    obtain ⟨b1, b2⟩ := shaped_of (look_rep r hm 20 _ _ hy (canEq_data hc.2)) hc.2
    exact op_neD hu pins s σ H _ _ v u Q I rx ry ⟨_, _, a1, b1, a2, b2, q _ H (Grow.refl H) mk_bl⟩
  · cases e
theorem opCmpL {X : Cx} (hu : X.A.units + 64 < cLine) : ∀ op, Op2 X (compareOp op) (dCmpL op)
  | .Eq => opEqL hu
  | .NotEq => opNeL hu
  | .Lt => opCmp hu _
  | .LtE => opCmp hu _
  | .Gt => opCmp hu _
  | .GtE => opCmp hu _
  | .Is => opCmp hu _
  | .IsNot => opCmp hu _
  | .In => opCmp hu _
  | .NotIn => opCmp hu _
/-- a dict beside itself -/
def atomV : D → Bool
  | .non => true
  | .bl _ => true
  | .int _ => true
  | .str _ => true
  | _ => false
def sameDct (mu : List Cell) : D → D → Bool
  | .ref n, .ref m => decide (n = m) && (match mu[n]? with
    | some (.dct kvs) => decide (kvs.length ≤ 1) && kvs.all fun p => atomV p.2
    | _ => false)
  | _, _ => false
def dEqM (mu : List Cell) (x y : D) : Option D := if sameDct mu x y = true then some (.bl true) else dEqL mu x y
def dCmpM : CmpOp → List Cell → D → D → Option D
  | .Eq => dEqM
  | op => dCmpL op
theorem rep_atomV {K : PySem.W.Frag} {H : Hp} {Fx : Addr → Prop} {ι : Io} {d : D} {v : V} (hd : atomV d = true) (h : Rep K H Fx ι d v) : flatB v = true := by
  cases d with
  | non => simp only [Rep] at h; subst h; rfl
  | bl b => simp only [Rep] at h; subst h; rfl
  | int b => simp only [Rep] at h; subst h; rfl
  | str b => simp only [Rep] at h; obtain ⟨rfl, _⟩ := h; rfl
  | _ => cases hd
theorem opEqM {X : Cx} (hu : X.A.units + 64 < cLine) : Op2 X (compareOp .Eq) dEqM := by
  intro pins s σ H x y v u Q I rx ry h'
  obtain ⟨Fx, ι, σ', st, dx, dy, d, r, hx, hy, e, q⟩ := h'
  unfold dEqM at e
  split at e
  · rename_i hs
    cases e
    unfold sameDct at hs
    split at hs
    · rename_i n m
      rw [Bool.and_eq_true] at hs
      obtain ⟨h1, h2⟩ := hs
      have h1 := of_decide_eq_true h1
      subst h1
      split at h2
      · rename_i kvs hk
        rw [Bool.and_eq_true] at h2
        obtain ⟨h2, h3⟩ := h2
        have h2 := of_decide_eq_true h2
        obtain ⟨a, e1, i1⟩ := rep_ref hx
        obtain ⟨b, e2, i2⟩ := rep_ref hy
        subst e1 e2
        rw [i1] at i2
        cases i2
        obtain ⟨a', i3, vs, hv, hr⟩ := r.ce n _ hk
        rw [i1] at i3
        cases i3
        refine op_eq_dict (by omega) pins s σ H _ _ v u Q I rx ry ⟨a, a, vs, rfl, rfl, hv, hv, ?_, ?_, q _ H (Grow.refl H) mk_bl⟩
        · rw [← hr.1]
          match kvs, h2 with
          | [], _ => simp
          | [p], _ => simp
        · intro p hp
          match kvs, vs, hr, h2, h3 with
          | [], vs, hr, _, _ =>
            have := hr.1
            simp at this
            subst this
            cases hp
          | [p1], vs, hr, _, h3 =>
            have l := hr.1
            cases vs with
            | nil => cases hp
            | cons v1 vs =>
              simp at l
              obtain ⟨_, rfl⟩ := l
              rcases List.mem_cons.mp hp with rfl | hp
              · have r2 := hr.2
                simp only [List.map_cons, List.map_nil, RepAll] at r2
                obtain ⟨v2, r3, e3, r4, _⟩ := r2
                cases e3
                simp at h3
                exact rep_atomV (by simpa using h3) r4
              · cases hp
      · cases h2
    · cases hs
  · exact opEqL hu pins s σ H _ _ v u Q I rx ry ⟨Fx, ι, σ', st, dx, dy, d, r, hx, hy, e, q⟩
theorem opCmpM {X : Cx} (hu : X.A.units + 64 < cLine) : ∀ op, Op2 X (compareOp op) (dCmpM op)
  | .Eq => opEqM hu
  | .NotEq => opCmpL hu _
  | .Lt => opCmpL hu _
  | .LtE => opCmpL hu _
  | .Gt => opCmpL hu _
  | .GtE => opCmpL hu _
  | .Is => opCmpL hu _
  | .IsNot => opCmpL hu _
  | .In => opCmpL hu _
  | .NotIn => opCmpL hu _
end Pv
/-! Pv23 (between Pv20 and Pv10): lists that are cells: made, looked at, changed. -/
namespace Pv
open PySem PySem.Spec L2
/-- a cell that is a list, looked at -/
def dr (mu : List Cell) : D → D
  | .ref n => (match mu[n]? with
    | some (.lst xs) => .lst xs
    | _ => .ref n)
  | d => d
section
variable {g : Gx} {Fx : Addr → Prop} {ι : Io} {H : Hp} {σ : L2.St} {st : ES}
theorem repB_dr (r : SRel g Fx ι H σ st) {d : D} {v : V} (h : RepB g.K H Fx ι d v) : RepB g.K H Fx ι (dr st.mu d) v := by
  cases d with
  | ref n =>
    unfold dr
    simp only
    split
    · rename_i xs e
      obtain ⟨a, e1, h1⟩ := rep_ref (repB_of h (by intro xs z; cases z))
      subst e1
      obtain ⟨b, k1, vs, k2, k3⟩ := r.ce n _ e
      rw [h1] at k1
      cases k1
      exact .inr ⟨xs, a, vs, rfl, rfl, k2, k3⟩
    · exact h
  | _ => exact h
/-- a new list that becomes a cell -/
theorem SRel.newCell (r : SRel g Fx ι H σ st) {p : Addr} {vs : List V} {ds : List D} (hp : H p = none) (h : RepAll g.K H Fx ι ds vs) :
    Step ι H (own ι (.inr st.mu.length) p) (upd H p (.lst vs)) ∧ SRel g Fx (own ι (.inr st.mu.length) p) (upd H p (.lst vs)) σ { st with mu := st.mu ++ [.lst ds] } ∧ Rep g.K (upd H p (.lst vs)) Fx (own ι (.inr st.mu.length) p) (.ref st.mu.length) (.ref p) := by
  have nf : ¬ Fx p := fun z => by
    obtain ⟨o, e⟩ := r.fxt p z
    rw [hp] at e
    cases e
  have k : Car Fx ι H (fun b => Fx b ∨ b = p) ι (upd H p (.lst vs)) := ⟨fun b u e _ => Grow.new hp b u e, fun b z => by
    rcases z with (z | z) | z
    · exact .inl (.inl z)
    · rw [z]
      exact .inr hp
    · exact .inl (.inr z), fun _ _ z => z⟩
  have r1 := r.apart (o := .lst vs) hp
  refine ⟨⟨fun b o e n => Grow.new hp b o e, fun b z => ?_, fun n a e => ?_, upd_th⟩, r1.cell nf ⟨vs, upd_same, RepAll.car k _ _ h⟩, ?_⟩
  · rcases ow_own z with z | z
    · exact .inr (by rw [z]; exact hp)
    · exact .inl z
  · have := r.domc n a e
    unfold own
    rw [if_neg (fun z => by have := Sum.inr.inj z; omega)]
    exact e
  · simp only [Rep]
    exact ⟨p, rfl, by unfold own; rw [if_pos rfl]⟩
end
/-- a list of cells' reading: its items, to be changed -/
def lstO : Option Cell → Option (List D)
  | some (.lst xs) => some xs
  | _ => none
/-- a new list becomes a cell -/
def mCell (f : M (List D)) : M D := fun st => (f st).bind fun xs st1 => .ok (.ref st1.mu.length) ⟨st1.sl, st1.mu ++ [.lst xs]⟩
section
variable {X : Cx} {W : WX} {e o a b c : Expr} {f fo fa fb : M D} {fl : M (List D)} {pos apos p : Pos}
theorem tE_cell {g : Gx} {σ : L2.St} {H : Hp} {Q : VK} (h : tE g W (mCell fl) σ H Q) : tF g W fl σ H Q := by
  obtain ⟨Fx, ι, st, r, q⟩ := h
  refine ⟨Fx, ι, st, r, ?_⟩
  have q' : Aft g W Fx ι H σ ((fl st).bind fun xs st1 => R.ok (D.ref st1.mu.length) ⟨st1.sl, st1.mu ++ [.lst xs]⟩) (fun d ι' H' _ => ∀ v, Rep g.K H' Fx ι' d v → Q v H') := q
  cases e : fl st with
  | ok xs st1 =>
    rw [e] at q'
    intro ι1 H1 s1 r1 a vs n0 ha r2 rv
    have hf : ¬ Fx a := fun z => by
      obtain ⟨o, e⟩ := r.fxt a z
      rw [n0] at e
      cases e
    refine q' (own ι1 (.inr st1.mu.length) a) H1 ⟨s1.keep, fun b hb => ?_, fun n b e => ?_, s1.th⟩ (r2.cell hf ⟨vs, ha, rv⟩) (.ref a) ?_
    · rcases ow_own hb with hb | hb
      · rw [hb]
        exact .inr n0
      · exact s1.ow b hb
    · have z := s1.ce n b e
      have := r2.domc n b z
      unfold own
      rw [if_neg (fun z => by have := Sum.inr.inj z; omega)]
      exact z
    · simp only [Rep]
      exact ⟨a, rfl, by unfold own; rw [if_pos rfl]⟩
  | er x st1 =>
    rw [e] at q'
    exact q'
  | bad =>
    rw [e] at q'
    exact q'
theorem PFd.cell (h : PFd X W e fl) : PEd X W e (mCell fl) := PE.imp h fun σ H Q q => tE_cell q
/-- name = a new list that is a cell -/
theorem tAsg_cell {g : Gx} {i : Nat} {Dn : Ends} {σ : L2.St} {H : Hp} (h : tS g W (sSet i (mCell fl)) Dn σ H) : tAsg (tF g W fl) (gName i) Dn σ H := by
  obtain ⟨Fx, ι, st, r, q⟩ := h
  exact tE_cell ⟨Fx, ι, st, r, (AftS.bind (σ := σ) q).imp fun d ι1 H1 st1 s1 r1 q1 v rv => q1 _ H1 _ step_cut (r1.put i rv)⟩
/-! ### looked at -/
def dIxC (mu : List Cell) (x y : D) : Option D := dIx mu (dr mu x) y
theorem ixC : Op2B X (IxR X) dIxC := by
  intro value slice pins s σ H x y v u Q I rx ry h' hs
  obtain ⟨Fx, ι, σ', st, dx, dy, d, r, hx, hy, e, q⟩ := h'
  exact ixB value slice pins s σ H x y v u Q I rx ry ⟨Fx, ι, σ', st, dr st.mu dx, dy, d, r, repB_dr r hx, hy, e, q⟩ hs
theorem PEd.ixC (ha : PEd X W a fa) (hb : PEd X W b fb) (hs : PlainIx b) : PEd X W (.Subscript a b pos) (mOp2 dIxC fa fb) := PE.imp (pe_ix (Pv.ixC.op2 IxR.imp) ha hb hs) fun _ _ _ h => tE_op h
theorem PEd.ixVC {i : Nat} {x : Str} {p : Pos} (hN : X.N[i]? = some x) (hv : Vis X.env.scope x) (hd : (x == ("__debug__" : Str)) = false) (hcd : (x == ("__classdict__" : Str)) = false) (hb : PEd X W b fb) (hs : PlainIx b) :
    PEd X W (.Subscript (.Name x p) b pos) (mOpV dIxC i fb) := PE.imp (pe_ix Pv.ixC (pe_var hN hv hd hcd) hb hs) fun _ _ _ h => tE_opV h
def kLenC (mu : List Cell) : List D → Option D
  | [d] => (lenD (dr mu d)).map fun n => .int n
  | _ => none
theorem callLenC : CallK X (.builtin "len") kLenC := by
  intro pins s σ H xs us Q I r h'
  obtain ⟨Fx, ι, σ', st, ds, d, rr, hx, e, q⟩ := h'
  unfold kLenC at e
  split at e
  · rename_i d0
    obtain ⟨v, rfl, rv⟩ := rep1 hx
    cases z : lenD (dr st.mu d0) with
    | none =>
      rw [z] at e
      cases e
    | some n =>
      rw [z] at e
      cases e
      exact call_len pins s σ H _ us Q I r ⟨v, n, rfl, len_repB (repB_dr rr (.inl rv)) z, q _ H (Grow.refl H) mk_int⟩
  · cases e
def mLenVC (i : Nat) : M D := fun st => match rd st i with
  | none => .bad
  | some x => (match lenD (dr st.mu x) with
    | some n => .ok (.int n) st
    | none => .bad)
theorem PEd.lenVC {i : Nat} {y : Str} {p2 : Pos} (hN : X.N[i]? = some y) (hv : Vis X.env.scope y) (hd : (y == ("__debug__" : Str)) = false) (hcd : (y == ("__classdict__" : Str)) = false) (hg : Gl X "len") (hm : X.mg "len" = none) :
    PEd X W (.Call (.Name "len" p) [.Name y p2] [] pos) (mLenVC i) :=
  PE.imp (pe_callB call_len hg hm PySem.boot_len (pa_cons (pe_var hN hv hd hcd) pa_nil)) fun σ H Q h => by
    obtain ⟨Fx, ι, st, r, q⟩ := h
    unfold mLenVC at q
    cases e1 : rd st i with
    | none =>
      simp only [e1] at q
      exact q.elim
    | some d =>
      simp only [e1] at q
      obtain ⟨v, hv, rb⟩ := r.rd e1
      cases e2 : lenD (dr st.mu d) with
      | none =>
        simp only [e2] at q
        exact q.elim
      | some n =>
        simp only [e2] at q
        exact ⟨v, hv, v, n, rfl, len_repB (repB_dr r rb) e2, q.ok r _ mk_int⟩
def dJoinC (mu : List Cell) (x y : D) : Option D := dJoin mu x (dr mu y)
theorem mtJoinC : Mt1B X "str.join" dJoinC := by
  intro pins s σ H x xs v us Q I rx rs h'
  obtain ⟨Fx, ι, σ', st, dx, dy, d, y, r, hx, hxs, hy, e, q⟩ := h'
  exact mtJoin pins s σ H x xs v us Q I rx rs ⟨Fx, ι, σ', st, dx, dr st.mu dy, d, y, r, hx, hxs, repB_dr r hy, e, q⟩
/-! ### changed -/
/-- e.append(y), e a cell -/
def mAppC (f g : M D) : M D := fun st => (f st).bind fun x st1 => match x with
  | .ref n => (match lstO st1.mu[n]? with
    | some _ => (g st1).bind fun y st2 => (match lstO st2.mu[n]? with
      | some xs => if xs.length < lim then .ok .non ⟨st2.sl, st2.mu.set n (.lst (xs ++ [y]))⟩ else .bad
      | none => .bad)
    | none => .bad)
  | _ => .bad
theorem lstO_some {c : Option Cell} {xs : List D} (h : lstO c = some xs) : c = some (.lst xs) := by
  cases c with
  | none => cases h
  | some c =>
    cases c with
    | lst ys => cases h; rfl
    | _ => cases h
theorem SRel.cellAt {g : Gx} {Fx : Addr → Prop} {ι : Io} {H : Hp} {σ : L2.St} {st : ES} (r : SRel g Fx ι H σ st) {n : Nat} {xs : List D} {a : Addr} (e : st.mu[n]? = some (.lst xs)) (h : ι (.inr n) = some a) : ∃ vs, H a = some (.lst vs) ∧ RepAll g.K H Fx ι xs vs := by
  obtain ⟨b, k1, vs, k2, k3⟩ := r.ce n _ e
  rw [h] at k1
  cases k1
  exact ⟨vs, k2, k3⟩
theorem PEd.appC (ho : PEd X W o fo) (he : PEd X W e f) (hbase : attributeBase o "append" X.env (eval o X.env) = eval o X.env) (hs : starEach [e] X.env = (false, eval e X.env) :: starEach [] X.env)
    (hfew : ((backTo pos (starEach [e] X.env)).all (fun x => !x.1) && (backToKw pos (keywordEach [] X.env)).all (fun x => x.1.isSome) && decide (([e] : List Expr).length + ([] : List Keyword).length + (if ([] : List Keyword).isEmpty then 0 else 1) < 30)) = true)
    (hline : (apos.endLine == pos.line) = true) : PEd X W (.Call (.Attribute o "append" apos) [e] [] pos) (mAppC fo f) :=
  PE.imp (pe_bm PySem.F.plainAttrs_list PySem.F.slot_list_append PySem.F.type_list_append mt_append ho (pa_cons he pa_nil hs) hbase hfew hline hs (by rfl)) fun σ H Q h => by
    obtain ⟨Fx, ι, st, r, q⟩ := h
    refine ⟨Fx, ι, st, r, q.bind.imp fun d ι0 H0 st0 s0 r0 q0 v rv => ?_⟩
    cases d with
    | ref n =>
      simp only at q0
      cases c0 : lstO st0.mu[n]? with
      | none => simp only [c0] at q0; exact q0.elim
      | some xs0 =>
        simp only [c0] at q0
        obtain ⟨a, e1, h1⟩ := rep_ref rv
        subst e1
        obtain ⟨vs, h3, h4⟩ := r0.cellAt (lstO_some c0) h1
        refine ⟨.inl ⟨rfl, vs, SqL.of h3⟩, Fx, ι0, st0, r0, q0.bind.imp fun dy ι1 H1 st1 s1 r1 q1 w rw' => ?_⟩
        cases c1 : lstO st1.mu[n]? with
        | none => simp only [c1] at q1; exact q1.elim
        | some xs =>
          simp only [c1] at q1
          split at q1
          · rename_i hl
            have g1 := s1.ce n a h1
            obtain ⟨vs', g3, g4⟩ := r1.cellAt (lstO_some c1) g1
            refine ⟨a, vs', w, rfl, rfl, g3, by rw [← g4.length]; exact Nat.lt_of_lt_of_le hl lim_line, ?_⟩
            have rp := g4.append (.cons rw' .nil)
            have su := step_upd (H := H1) (o := .lst (vs' ++ [w])) ⟨_, g1⟩
            exact q1 ι1 _ su (r1.ceset (List.getElem?_eq_some_iff.mp (lstO_some c1)).1 g1 ⟨_, upd_same, RepAll.car su.car _ _ rp⟩) _ mk_non
          · exact q1.elim
    | _ => exact q0.elim
/-- e.pop(), e a cell -/
def mPopC (f : M D) : M D := fun st => (f st).bind fun x st1 => match x with
  | .ref n => (match lstO st1.mu[n]? with
    | some xs => (match xs.getLast? with
      | some y => .ok y ⟨st1.sl, st1.mu.set n (.lst xs.dropLast)⟩
      | none => .bad)
    | none => .bad)
  | _ => .bad
theorem PEd.popC (ho : PEd X W o fo) (hbase : attributeBase o "pop" X.env (eval o X.env) = eval o X.env) (hline : (apos.endLine == pos.line) = true) :
    PEd X W (.Call (.Attribute o "pop" apos) [] [] pos) (mPopC fo) :=
  PE.imp (pe_bm0 PySem.F.plainAttrs_list PySem.F.slot_list_pop PySem.F.type_list_pop mt_pop ho hbase hline) fun σ H Q h => by
    obtain ⟨Fx, ι, st, r, q⟩ := h
    refine ⟨Fx, ι, st, r, q.bind.imp fun d ι0 H0 st0 s0 r0 q0 v rv => ?_⟩
    cases d with
    | ref n =>
      simp only at q0
      cases c0 : lstO st0.mu[n]? with
      | none => simp only [c0] at q0; exact q0.elim
      | some xs =>
        simp only [c0] at q0
        obtain ⟨a, e1, h1⟩ := rep_ref rv
        subst e1
        obtain ⟨vs, h3, h4⟩ := r0.cellAt (lstO_some c0) h1
        cases el : xs.getLast? with
        | none =>
          simp only [el] at q0
          exact q0.elim
        | some w =>
          simp only [el] at q0
          rw [List.getLast?_eq_getElem?] at el
          obtain ⟨u, g1, g2⟩ := h4.get el
          refine ⟨.inl ⟨rfl, vs, SqL.of h3⟩, a, vs, u, rfl, rfl, h3, by rw [← h4.length]; exact g1, ?_⟩
          have su := step_upd (H := H0) (o := .lst vs.dropLast) ⟨_, h1⟩
          exact q0 ι0 _ su (r0.ceset (List.getElem?_eq_some_iff.mp (lstO_some c0)).1 h1 ⟨_, upd_same, RepAll.car su.car _ _ h4.dropLast⟩) u (Rep.car su.car _ _ g2)
    | _ => exact q0.elim
/-- e.extend(ys), e a cell, ys a list or a cell -/
def mExtC (f g : M D) : M D := fun st => (f st).bind fun x st1 => match x with
  | .ref n => (match lstO st1.mu[n]? with
    | some _ => (g st1).bind fun y st2 => (match dr st2.mu y with
      | .lst ys => (match lstO st2.mu[n]? with
        | some xs => if xs.length + ys.length ≤ lim then .ok .non ⟨st2.sl, st2.mu.set n (.lst (xs ++ ys))⟩ else .bad
        | none => .bad)
      | _ => .bad)
    | none => .bad)
  | _ => .bad
theorem PEd.extC (ho : PEd X W o fo) (he : PEd X W e f) (hbase : attributeBase o "extend" X.env (eval o X.env) = eval o X.env) (hs : starEach [e] X.env = (false, eval e X.env) :: starEach [] X.env)
    (hfew : ((backTo pos (starEach [e] X.env)).all (fun x => !x.1) && (backToKw pos (keywordEach [] X.env)).all (fun x => x.1.isSome) && decide (([e] : List Expr).length + ([] : List Keyword).length + (if ([] : List Keyword).isEmpty then 0 else 1) < 30)) = true)
    (hline : (apos.endLine == pos.line) = true) : PEd X W (.Call (.Attribute o "extend" apos) [e] [] pos) (mExtC fo f) :=
  PE.imp (pe_bm PySem.F.plainAttrs_list PySem.F.slot_list_extend PySem.F.type_list_extend mt_extend ho (pa_cons he pa_nil hs) hbase hfew hline hs (by rfl)) fun σ H Q h => by
    obtain ⟨Fx, ι, st, r, q⟩ := h
    refine ⟨Fx, ι, st, r, q.bind.imp fun d ι0 H0 st0 s0 r0 q0 v rv => ?_⟩
    cases d with
    | ref n =>
      simp only at q0
      cases c0 : lstO st0.mu[n]? with
      | none => simp only [c0] at q0; exact q0.elim
      | some xs0 =>
        simp only [c0] at q0
        obtain ⟨a, e1, h1⟩ := rep_ref rv
        subst e1
        obtain ⟨vs, h3, h4⟩ := r0.cellAt (lstO_some c0) h1
        refine ⟨.inl ⟨rfl, vs, SqL.of h3⟩, Fx, ι0, st0, r0, q0.bind.imp fun dy ι1 H1 st1 s1 r1 q1 w rw' => ?_⟩
        have rb := repB_dr r1 (.inl rw')
        split at q1
        · rename_i ys ey
          rw [ey] at rb
          cases c1 : lstO st1.mu[n]? with
          | none => simp only [c1] at q1; exact q1.elim
          | some xs =>
            simp only [c1] at q1
            split at q1
            · rename_i hl
              have g1 := s1.ce n a h1
              obtain ⟨vs', g3, g4⟩ := r1.cellAt (lstO_some c1) g1
              obtain ⟨b, ws, k1, k2, k4⟩ := repB_lst rb
              subst k1
              refine ⟨a, b, vs', ws, rfl, rfl, g3, k2, by rw [← g4.length, ← k4.length]; exact Nat.le_trans hl lim_line, ?_⟩
              have rp := g4.append k4
              have su := step_upd (H := H1) (o := .lst (vs' ++ ws)) ⟨_, g1⟩
              exact q1 ι1 _ su (r1.ceset (List.getElem?_eq_some_iff.mp (lstO_some c1)).1 g1 ⟨_, upd_same, RepAll.car su.car _ _ rp⟩) _ mk_non
            · exact q1.elim
        · exact q1.elim
    | _ => exact q0.elim
/-- o[i] = v, o a cell -/
def sIxSet (fv fo fi : M D) : MS := fun st => (fv st).bind fun v st1 => (fo st1).bind fun x st2 => (fi st2).bind fun k st3 => match x, k with
  | .ref n, .int i => (match lstO st3.mu[n]? with
    | some xs => (match ixN xs.length i with
      | some j => .ok .nx ⟨st3.sl, st3.mu.set n (.lst (xs.set j v))⟩
      | none => .bad)
    | none => .bad)
  | _, _ => .bad
theorem PSd.ixSet {v i : Expr} {fv fi : M D} {p' : Pos} (hv : PEd X W v fv) (ho : PEd X W o fo) (hi : PEd X W i fi) (hs : swapsWithSole [.Subscript o i p'] v pos.line X.env = pure false) (hw : swappedStores [.Subscript o i p'] v X.env = pure none)
    (hsl : ∀ a b c p, i ≠ .Slice a b c p) (h1 : (assignEach [.Subscript o i p'] X.env).map (·.2) = [assign (.Subscript o i p') X.env]) : PSd X W (.Assign [.Subscript o i p'] v pos) (sIxSet fv fo fi) :=
  PS.imp (ps_asg hv (pg_sub ho hi set_list (ha := by intro v; cases i <;> first | rfl | exact absurd rfl (hsl _ _ _ _))) hs hw h1) fun Dn σ H h => by
    obtain ⟨Fx, ι, st, r, q⟩ := h
    refine ⟨Fx, ι, st, r, (AftS.bind (σ := σ) q).imp fun d ι1 H1 st1 s1 r1 q1 x rx => ?_⟩
    refine ⟨Fx, ι1, st1, r1, (AftS.bind (σ := σ) q1).imp fun dn ι2 H2 st2 s2 r2 q2 y ry => ?_⟩
    refine ⟨Fx, ι2, st2, r2, (AftS.bind (σ := σ) q2).imp fun dk ι3 H3 st3 s3 r3 q3 z rz => ?_⟩
    cases dn with
    | ref n =>
      cases dk with
      | int k =>
        simp only at q3
        cases c0 : lstO st3.mu[n]? with
        | none => simp only [c0] at q3; exact q3.elim
        | some xs =>
          simp only [c0] at q3
          cases c1 : ixN xs.length k with
          | none => simp only [c1] at q3; exact q3.elim
          | some j =>
            simp only [c1] at q3
            obtain ⟨a, e1, h1⟩ := rep_ref ry
            subst e1
            cases rep_int rz
            have g1 := s3.ce n a h1
            obtain ⟨vs, g3, g4⟩ := r3.cellAt (lstO_some c0) g1
            refine ⟨a, vs, k, j, rfl, rfl, g3, by rw [← g4.length]; exact c1, ?_⟩
            have rp := g4.set (Rep.car (s2.trans s3).car _ _ rx) j
            have su := step_upd (H := H3) (o := .lst (vs.set j x)) ⟨_, g1⟩
            exact q3 ι3 _ σ su (r3.ceset (List.getElem?_eq_some_iff.mp (lstO_some c0)).1 g1 ⟨_, upd_same, RepAll.car su.car _ _ rp⟩)
      | _ => exact q3.elim
    | _ => exact q3.elim
end
/-- a slice, of a cell too -/
def mCutC (f : M D) (lo hi : MO) : M D := fun st => (f st).bind fun x st1 => (lo st1).bind fun l st2 => (hi st2).bind fun h st3 => mPur (dCut (dr st3.mu x) l h) st3
def mCutVC (i : Nat) (lo hi : MO) : M D := fun st => match rd st i with
  | none => .bad
  | some _ => (lo st).bind fun l st2 => (hi st2).bind fun h st3 => match rd st3 i with
    | some x => mPur (dCut (dr st3.mu x) l h) st3
    | none => .bad
section
variable {X : Cx} {W : WX} {e : Expr} {f : M D} {pos : Pos} {lo hi : Option Expr} {fl fh : MO} {p2 : Pos}
theorem PEd.cutC (he : PEd X W e f) (hl : POd X W lo fl) (hu : POd X W hi fh) : PEd X W (.Subscript e (.Slice lo hi .none p2) pos) (mCutC f fl fh) := PE.imp (pe_slice slB he hl hu) fun σ H Q h => by
  obtain ⟨Fx, ι, st, r, q⟩ := h
  refine ⟨Fx, ι, st, r, q.bind.imp fun dx ι1 H1 st1 s1 r1 q1 x rx => ⟨Fx, ι1, st1, r1, q1.bind.imp fun l ι2 H2 st2 s2 r2 q2 => ⟨Fx, ι2, st2, r2, q2.bind.imp fun u ι3 H3 st3 s3 r3 q3 => ?_⟩⟩⟩
  unfold mPur at q3
  split at q3
  · rename_i d e
    exact ⟨Fx, ι3, σ, st3, dr st3.mu dx, d, r3, repB_dr r3 (.inl (Rep.car (s2.trans s3).car _ _ rx)), e, fun w H' gr rp => q3 ι3 H' gr.step (r3.same gr) w rp⟩
  · exact q3.elim
theorem PEd.cutVC {i : Nat} {x : Str} {p : Pos} (hN : X.N[i]? = Option.some x) (hv : Vis X.env.scope x) (hd : (x == ("__debug__" : Str)) = false) (hcd : (x == ("__classdict__" : Str)) = false) (hl : POd X W lo fl) (hu : POd X W hi fh) :
    PEd X W (.Subscript (.Name x p) (.Slice lo hi .none p2) pos) (mCutVC i fl fh) := PE.imp (pe_slice slB (pe_var hN hv hd hcd) hl hu) fun σ H Q h => by
  obtain ⟨Fx, ι, st, r, q⟩ := h
  unfold mCutVC at q
  cases e1 : Pv.rd st i with
  | none =>
    simp only [e1] at q
    exact q.elim
  | some d1 =>
    simp only [e1] at q
    obtain ⟨v, hv, _⟩ := r.rd e1
    refine ⟨v, hv, Fx, ι, st, r, q.bind.imp fun l ι2 H2 st2 s2 r2 q2 => ⟨Fx, ι2, st2, r2, q2.bind.imp fun u ι3 H3 st3 s3 r3 q3 => ?_⟩⟩
    cases e2 : Pv.rd st3 i with
    | none =>
      simp only [e2] at q3
      exact q3.elim
    | some dx =>
      simp only [e2] at q3
      obtain ⟨v', hv', rb⟩ := r3.rd e2
      rw [hv] at hv'
      cases hv'
      unfold mPur at q3
      split at q3
      · rename_i d e
        exact ⟨Fx, ι3, σ, st3, dr st3.mu dx, d, r3, repB_dr r3 rb, e, fun w H' gr rp => q3 ι3 H' gr.step (r3.same gr) w rp⟩
      · exact q3.elim
end
/-! ### one of two words, by a slot; new lists -/
theorem PE.or2 {X : Cx} {e : Expr} {t t' : TE} (h : PE X e t) (h' : PE X e t') : PE X e (fun σ H Q => t σ H Q ∨ t' σ H Q) := ⟨fun pins s σ H Q I q => q.elim (h.run pins s σ H Q I) (h'.run pins s σ H Q I)⟩
/-- a slot's own list, or what it holds -/
def mSel (i : Nat) (f g : M D) : M D := fun st => match st.sl[i]? with
  | some (.ac _) => f st
  | _ => g st
section
variable {X : Cx} {W : WX} {e a b : Expr} {f g fa fb : M D} {pos : Pos}
theorem PEd.sel {i : Nat} (h : PEd X W e f) (h' : PEd X W e g) : PEd X W e (mSel i f g) := PE.imp (PE.or2 h h') fun σ H Q q => by
  obtain ⟨Fx, ι, st, r, q⟩ := q
  unfold mSel at q
  split at q
  · exact .inl ⟨Fx, ι, st, r, q⟩
  · exact .inr ⟨Fx, ι, st, r, q⟩
/-- two lists, one behind the other: a new list -/
def mCat (fa fb : M D) : M (List D) := fun st => (fa st).bind fun x st1 => (fb st1).bind fun y st2 => match dr st2.mu x, dr st2.mu y with
  | .lst xs, .lst ys => if xs.length + ys.length ≤ lim then .ok (xs ++ ys) st2 else .bad
  | _, _ => .bad
theorem tCat_of {g : Gx} {σ : L2.St} {H : Hp} {Q : VK} (h : tF g W (mCat fa fb) σ H Q) : tOp rCat (tE g W fa) (tE g W fb) σ H Q := by
  obtain ⟨Fx, ι, st, r, q⟩ := h
  refine ⟨Fx, ι, st, r, q.bind.imp fun dx ι1 H1 st1 s1 r1 q1 x rx => ⟨Fx, ι1, st1, r1, q1.bind.imp fun dy ι2 H2 st2 s2 r2 q2 y ry => ?_⟩⟩
  have bx := repB_dr r2 (.inl (Rep.car s2.car _ _ rx))
  have by' := repB_dr r2 (.inl ry)
  split at q2
  · rename_i xs ys ex ey
    rw [ex] at bx
    rw [ey] at by'
    split at q2
    · rename_i hl
      obtain ⟨a1, v1, e1, t1, p1⟩ := repB_lst bx
      obtain ⟨a2, v2, e2, t2, p2⟩ := repB_lst by'
      refine ⟨a1, a2, v1, v2, e1, e2, t1, t2, by rw [← p1.length, ← p2.length]; exact Nat.le_trans hl lim_line, fun p hp => ?_⟩
      have k : Car Fx ι2 H2 (fun b => Fx b ∨ b = p) ι2 (upd H2 p (.lst (v1 ++ v2))) := ⟨fun b u e _ => Grow.new hp b u e, fun b z => by
        rcases z with (z | z) | z
        · exact .inl (.inl z)
        · rw [z]
          exact .inr hp
        · exact .inl (.inr z), fun _ _ z => z⟩
      exact q2 ι2 _ (step_new hp) (r2.new hp) p (v1 ++ v2) ((s1.trans s2).none hp) upd_same (r2.apart hp) (RepAll.car k _ _ (p1.append p2))
    · exact q2.elim
  · exact q2.elim
theorem PFd.cat (ha : PEd X W a fa) (hb : PEd X W b fb) : PFd X W (.BinOp a .Add b pos) (mCat fa fb) := PE.imp (pe_op op_cat ha hb) fun σ H Q h => tCat_of h
/-- a + b, of lists: a new cell -/
def isL : D → Bool
  | .lst _ => true
  | _ => false
def mAddC (fa fb : M D) : M D := fun st => (fa st).bind fun x st1 => (fb st1).bind fun y st2 => match dr st2.mu x, dr st2.mu y with
  | .lst xs, .lst ys => if xs.length + ys.length ≤ lim then .ok (.ref st2.mu.length) ⟨st2.sl, st2.mu ++ [.lst (xs ++ ys)]⟩ else .bad
  | _, _ => (match dAdd st2.mu x y with
    | some d => .ok d st2
    | none => .bad)
theorem OpR.or {X : Cx} {f : Value → Value → Sem Value} {r r' : R2} (h : OpR X f r) (h' : OpR X f r') : OpR X f (fun x y H Q => r x y H Q ∨ r' x y H Q) := fun pins s σ H x y v u Q I rx ry q => q.elim (h pins s σ H x y v u Q I rx ry) (h' pins s σ H x y v u Q I rx ry)
theorem PEd.addC (ha : PEd X W a fa) (hb : PEd X W b fb) : PEd X W (.BinOp a .Add b pos) (mAddC fa fb) := PE.imp (pe_op (OpR.or op_cat opAdd) ha hb) fun σ H Q h => by
  obtain ⟨Fx, ι, st, r, q⟩ := h
  refine ⟨Fx, ι, st, r, q.bind.imp fun dx ι1 H1 st1 s1 r1 q1 x rx => ⟨Fx, ι1, st1, r1, q1.bind.imp fun dy ι2 H2 st2 s2 r2 q2 y ry => ?_⟩⟩
  have rx2 := Rep.car s2.car _ _ rx
  have bx := repB_dr r2 (.inl rx2)
  have by' := repB_dr r2 (.inl ry)
  split at q2
  · rename_i xs ys ex ey
    rw [ex] at bx
    rw [ey] at by'
    split at q2
    · rename_i hl
      obtain ⟨a1, v1, e1, t1, p1⟩ := repB_lst bx
      obtain ⟨a2, v2, e2, t2, p2⟩ := repB_lst by'
      refine .inl ⟨a1, a2, v1, v2, e1, e2, t1, t2, by rw [← p1.length, ← p2.length]; exact Nat.le_trans hl lim_line, fun p hp => ?_⟩
      obtain ⟨z1, z2, z3⟩ := r2.newCell hp (p1.append p2)
      exact q2 _ _ z1 z2 _ z3
    · exact q2.elim
  · cases e3 : dAdd st2.mu dx dy with
    | none =>
      simp only [e3] at q2
      exact q2.elim
    | some d =>
      simp only [e3] at q2
      exact .inr ⟨Fx, ι2, σ, st2, dx, dy, d, r2, rx2, ry, e3, fun v H' gr rp => q2 ι2 H' gr.step (r2.same gr) v rp⟩
/-- all([..]) -/
def blsOf : List D → Option (List Bool)
  | [] => some []
  | .bl b :: r => (blsOf r).map (b :: ·)
  | _ => none
def kAll (mu : List Cell) : List D → Option D
  | [d] => (match dr mu d with
    | .lst xs => (blsOf xs).map fun bs => .bl (bs.all id)
    | _ => none)
  | _ => none
theorem bls_rep {K : PySem.W.Frag} {H : Hp} {Fx : Addr → Prop} {ι : Io} : ∀ {xs : List D} {vs : List V} {bs : List Bool}, RepAll K H Fx ι xs vs → blsOf xs = some bs → vs = bs.map V.bl
  | [], vs, bs, h, e => by
    cases e
    simpa [RepAll] using h
  | x :: xs, vs, bs, h, e => by
    simp only [RepAll] at h
    obtain ⟨v, r, rfl, h1, h2⟩ := h
    cases x with
    | bl b =>
      unfold blsOf at e
      cases e2 : blsOf xs with
      | none => rw [e2] at e; cases e
      | some cs =>
        rw [e2] at e
        cases e
        rw [rep_bl h1, bls_rep h2 e2]
        rfl
    | _ => cases e
theorem callAll (hc : X.calm = true) : CallK X (.builtin "all") kAll := by
  intro pins s σ H xs us Q I r h'
  obtain ⟨Fx, ι, σ', st, ds, d, rr, hx, e, q⟩ := h'
  unfold kAll at e
  split at e
  · rename_i d0
    obtain ⟨v, rfl, rv⟩ := rep1 hx
    have rb := repB_dr rr (.inl rv)
    split at e
    · rename_i ys ey
      rw [ey] at rb
      cases e2 : blsOf ys with
      | none => rw [e2] at e; cases e
      | some bs =>
        rw [e2] at e
        cases e
        obtain ⟨a, vs, e1, h1, h2⟩ := repB_lst rb
        subst e1
        rw [bls_rep h2 e2] at h1
        exact cr_all hc pins s σ H _ us Q I r ⟨a, bs, rfl, SqL.of h1, q _ H (Grow.refl H) mk_bl⟩
    · cases e
  · cases e
end
end Pv
/-! Pv24 (between Pv23 and Pv10): loops and comprehensions over lists that are cells, watched. -/
namespace Pv
open PySem PySem.Spec L2
/-- these cells are as they were -/
def WP (w : List (Nat × List D)) (mu : List Cell) : Prop := ∀ p ∈ w, mu[p.1]? = some (.lst p.2)
theorem WP.nil {mu : List Cell} : WP [] mu := fun p h => by cases h
/-- what is walked, and the cells that are watched -/
abbrev MI := M (List D × List (Nat × List D))
def IterW (g : Gx) (Fx : Addr → Prop) (ι : Io) (H : Hp) (items : List D) (J : It) (w : List (Nat × List D)) : Prop :=
  ∃ (G : Hp → Prop) (Y : Nat → Hp → V → Hp → Prop), Walk J items.length G Y ∧ (∀ Fx' ι' H' σ' st', Step ι H ι' H' → Car Fx ι H Fx' ι' H' → SRel g Fx' ι' H' σ' st' → WP w st'.mu → G H') ∧
    ∀ i Fx' ι' H' σ' st' x H2, i < items.length → Car Fx ι H Fx' ι' H' → SRel g Fx' ι' H' σ' st' → WP w st'.mu → Y i H' x H2 → Grow H' H2 ∧ ∃ d, items[i]? = some d ∧ Rep g.K H2 Fx' ι' d x
def tIW (g : Gx) (W : WX) (f : MI) : TI := fun σ H R => ∃ Fx ι st, SRel g Fx ι H σ st ∧ Aft g W Fx ι H σ (f st) fun p ι' H' _ => ∀ J, IterW g Fx ι' H' p.1 J p.2 → R J H'
def PIW (X : Cx) (W : WX) (tg iter : Expr) (f : MI) : Prop := PI X tg iter (tIW (gx X) W f)
/-- a list, with what is watched -/
def srcOf (mu : List Cell) : D → Option (List D × List (Nat × List D))
  | .lst xs => some (xs, [])
  | .lk xs => some (xs, [])
  | .ref n => (lstO mu[n]?).map fun xs => (xs, [(n, xs)])
  | _ => none
theorem src_ok {g : Gx} {Fx : Addr → Prop} {ι : Io} {H : Hp} {σ : L2.St} {st : ES} (r : SRel g Fx ι H σ st) {d : D} {v : V} {xs : List D} {w : List (Nat × List D)} (h : Rep g.K H Fx ι d v) (e : srcOf st.mu d = some (xs, w)) :
    ∃ a vs, v = .ref a ∧ SqL g.K H a vs ∧ (∀ Fx' ι' H' σ' st', Car Fx ι H Fx' ι' H' → SRel g Fx' ι' H' σ' st' → WP w st'.mu → ∃ vs', SqL g.K H' a vs' ∧ RepAll g.K H' Fx' ι' xs vs') := by
  unfold srcOf at e
  split at e
  · cases e
    obtain ⟨a, vs, e1, h1, n, h2⟩ := rep_lst h
    exact ⟨a, vs, e1, SqL.of h1, fun Fx' ι' H' σ' st' c r' _ => ⟨vs, SqL.of (c.keep a _ h1 n), RepAll.car c _ _ h2⟩⟩
  · cases e
    obtain ⟨a, vs, e1, h1, h2⟩ := rep_lk h
    exact ⟨a, vs, e1, h1.sq, fun Fx' ι' H' σ' st' c r' _ => ⟨vs, (LkAt.car c h1).sq, RepAll.car c _ _ h2⟩⟩
  · rename_i n
    cases e0 : lstO st.mu[n]? with
    | none => rw [e0] at e; cases e
    | some ys =>
      rw [e0] at e
      cases e
      obtain ⟨a, e1, h1⟩ := rep_ref h
      obtain ⟨vs, g1, g2⟩ := r.cellAt (lstO_some e0) h1
      refine ⟨a, vs, e1, SqL.of g1, fun Fx' ι' H' σ' st' c r' wp => ?_⟩
      obtain ⟨vs', k1, k2⟩ := r'.cellAt (wp (n, xs) (by simp)) (c.ce n a h1)
      exact ⟨vs', SqL.of k1, k2⟩
  · cases e
section
variable {g : Gx} {Fx : Addr → Prop} {ι : Io} {H : Hp} {a b : Addr} {xs ys : List D} {w w' : List (Nat × List D)}
abbrev Src (g : Gx) (Fx : Addr → Prop) (ι : Io) (H : Hp) (a : Addr) (xs : List D) (w : List (Nat × List D)) : Prop := ∀ Fx' ι' H' σ' st', Car Fx ι H Fx' ι' H' → SRel g Fx' ι' H' σ' st' → WP w st'.mu → ∃ vs', SqL g.K H' a vs' ∧ RepAll g.K H' Fx' ι' xs vs'
theorem iterW_list (h : Src g Fx ι H a xs w) : IterW g Fx ι H xs (Itl g.K a) w := by
  refine ⟨fun H' => ∃ vs', SqL g.K H' a vs' ∧ xs.length = vs'.length, fun i H' x H2 => H2 = H' ∧ ∀ vs', SqL g.K H' a vs' → vs'[i]? = some x, ⟨fun i H' hi q => ?_, fun H' q => ?_, fun i H' x H2 hi q y => y⟩, fun Fx' ι' H' σ' st' _ c r wp => ?_, fun i Fx' ι' H' σ' st' x H2 hi c r wp y => ?_⟩
  · obtain ⟨vs', q1, q2⟩ := q
    exact ⟨vs', vs'[i]'(by omega), q1, by simp [show i < vs'.length by omega]⟩
  · obtain ⟨vs', q1, q2⟩ := q
    exact ⟨vs', q1, by omega⟩
  · obtain ⟨vs', q1, q2⟩ := h Fx' ι' H' σ' st' c r wp
    exact ⟨vs', q1, q2.length⟩
  · obtain ⟨vs', q1, q2⟩ := h Fx' ι' H' σ' st' c r wp
    obtain ⟨rfl, y⟩ := y
    obtain ⟨d, k1, k2⟩ := q2.get' (y vs' q1)
    exact ⟨Grow.refl _, d, k1, k2⟩
theorem iterW_enum (h : Src g Fx ι H a xs w) : IterW g Fx ι H (enumD xs) (Ite g.K a) w := by
  have hn : (enumD xs).length = xs.length := by simp [enumD]
  refine ⟨fun H' => ∃ vs', SqL g.K H' a vs' ∧ xs.length = vs'.length, (Ite g.K a).yld, ⟨fun i H' hi q => ?_, fun H' q => ?_, fun i H' x H2 hi q y => y⟩, fun Fx' ι' H' σ' st' _ c r wp => ?_, fun i Fx' ι' H' σ' st' x H2 hi c r wp y => ?_⟩
  · obtain ⟨vs', q1, q2⟩ := q
    exact ⟨vs', vs'[i]'(by omega), q1, by simp [show i < vs'.length by omega]⟩
  · obtain ⟨vs', q1, q2⟩ := q
    exact ⟨vs', q1, by omega⟩
  · obtain ⟨vs', q1, q2⟩ := h Fx' ι' H' σ' st' c r wp
    exact ⟨vs', q1, q2.length⟩
  · obtain ⟨vs', q1, q2⟩ := h Fx' ι' H' σ' st' c r wp
    obtain ⟨T, z, rfl, hT, rfl, y⟩ := y
    obtain ⟨d, k1, k2⟩ := q2.get' (y vs' q1)
    exact ⟨Grow.new hT, .tup [.int (i : Nat), d], by simp [enumD, k1], newPair r hT k2⟩
theorem WP.left {mu : List Cell} (h : WP (w ++ w') mu) : WP w mu := fun p hp => h p (List.mem_append_left _ hp)
theorem WP.right {mu : List Cell} (h : WP (w ++ w') mu) : WP w' mu := fun p hp => h p (List.mem_append_right _ hp)
theorem iterW_zip (h : Src g Fx ι H a xs w) (h' : Src g Fx ι H b ys w') : IterW g Fx ι H (zipD xs ys) (Itz g.K a b) (w ++ w') := by
  have hn : (zipD xs ys).length = min xs.length ys.length := by simp [zipD]
  refine ⟨fun H' => ∃ vs' ws', SqL g.K H' a vs' ∧ xs.length = vs'.length ∧ SqL g.K H' b ws' ∧ ys.length = ws'.length, (Itz g.K a b).yld, ⟨fun i H' hi q => ?_, fun H' q => ?_, fun i H' x H2 hi q y => y⟩, fun Fx' ι' H' σ' st' _ c r wp => ?_, fun i Fx' ι' H' σ' st' x H2 hi c r wp y => ?_⟩
  · obtain ⟨vs', ws', q1, q2, q3, q4⟩ := q
    exact ⟨vs', ws', vs'[i]'(by omega), ws'[i]'(by omega), q1, q3, by simp [show i < vs'.length by omega], by simp [show i < ws'.length by omega]⟩
  · obtain ⟨vs', ws', q1, q2, q3, q4⟩ := q
    exact ⟨vs', ws', q1, q3, by omega⟩
  · obtain ⟨vs', q1, q2⟩ := h Fx' ι' H' σ' st' c r wp.left
    obtain ⟨ws', q3, q4⟩ := h' Fx' ι' H' σ' st' c r wp.right
    exact ⟨vs', ws', q1, q2.length, q3, q4.length⟩
  · obtain ⟨vs', q1, q2⟩ := h Fx' ι' H' σ' st' c r wp.left
    obtain ⟨ws', q3, q4⟩ := h' Fx' ι' H' σ' st' c r wp.right
    obtain ⟨T, z, z', rfl, hT, rfl, y1, y2⟩ := y
    obtain ⟨d, k1, k2⟩ := q2.get' (y1 vs' q1)
    obtain ⟨d', k3, k4⟩ := q4.get' (y2 ws' q3)
    exact ⟨Grow.new hT, _, zip_get k1 k3, newTwo r hT k2 k4⟩
end
theorem IterOk.w {g : Gx} {Fx : Addr → Prop} {ι : Io} {H : Hp} {items : List D} {J : It} (h : IterOk g Fx ι H items J) : IterW g Fx ι H items J [] := by
  obtain ⟨G, Y, hw, hG, hY⟩ := h
  exact ⟨G, Y, hw, fun Fx' ι' H' σ' st' s c r wp => hG ι' H' s, fun i Fx' ι' H' σ' st' x H2 hi c r wp y => hY i Fx' ι' H' σ' st' x H2 hi c r y⟩
/-- what is walked as it was, nothing watched -/
def mOld (f : M (List D)) : MI := fun st => (f st).bind fun xs st1 => .ok (xs, []) st1
/-- a value's items -/
def mItC (f : M D) : MI := fun st => (f st).bind fun d st1 => match srcOf st1.mu d with
  | some p => .ok p st1
  | none => (match itemsOf d with
    | some xs => .ok (xs, []) st1
    | none => .bad)
def mEnC (f : M (List D)) : MI := fun st => (f st).bind fun ds st1 => match ds with
  | [d] => (match srcOf st1.mu d with
    | some p => .ok (enumD p.1, p.2) st1
    | none => .bad)
  | _ => .bad
def mZpC (f : M (List D)) : MI := fun st => (f st).bind fun ds st1 => match ds with
  | [d, e] => (match srcOf st1.mu d, srcOf st1.mu e with
    | some p, some q => .ok (zipD p.1 q.1, p.2 ++ q.2) st1
    | _, _ => .bad)
  | _ => .bad
section
variable {X : Cx} {W : WX} {e a : Expr} {f : M D} {fs : M (List D)} {p pos : Pos}
theorem PIW.old {tg iter : Expr} (h : PId X W tg iter fs) : PIW X W tg iter (mOld fs) := PI.imp h fun σ H R q => by
  obtain ⟨Fx, ι, st, r, q⟩ := q
  exact ⟨Fx, ι, st, r, q.bind.imp fun xs ι1 H1 st1 s1 r1 q1 J hJ => q1.ok r1 J hJ.w⟩
theorem PIW.items {tg : Expr} (he : PEd X W e f) : PIW X W tg e (mItC f) :=
  PI.imp (PI.or (pi_list he) (PI.or (pi_tup he) (pi_str he))) fun σ H R h => by
    obtain ⟨Fx, ι, st, r, q⟩ := h
    have q' : Aft (gx X) W Fx ι H σ (f st) _ := q.bind
    cases e : f st with
    | ok d st1 =>
      rw [e] at q'
      cases es : srcOf st1.mu d with
      | some pr =>
        obtain ⟨xs, w⟩ := pr
        refine .inl ⟨Fx, ι, st, r, ?_⟩
        rw [e]
        intro ι1 H1 s1 r1 v rv
        have z := q' ι1 H1 s1 r1
        simp only [es] at z
        obtain ⟨a, vs, e1, h1, h2⟩ := src_ok r1 rv es
        exact ⟨a, e1, ⟨vs, h1⟩, z.ok r1 _ (iterW_list h2)⟩
      | none =>
        have q2 : ∀ ι1 H1, Step ι H ι1 H1 → SRel (gx X) Fx ι1 H1 σ st1 → ∀ xs, itemsOf d = some xs → ∀ J, IterOk (gx X) Fx ι1 H1 xs J → R J H1 := fun ι1 H1 s1 r1 xs hx J hJ => by
          have z := q' ι1 H1 s1 r1
          simp only [es, hx] at z
          exact z.ok r1 J hJ.w
        cases d with
        | lst xs => simp [srcOf] at es
        | lk xs => simp [srcOf] at es
        | tup xs =>
          refine .inr (.inl ⟨Fx, ι, st, r, ?_⟩)
          rw [e]
          intro ι1 H1 s1 r1 v rv
          obtain ⟨a, vs, e1, h1, h3⟩ := rep_tup rv
          exact ⟨a, e1, ⟨vs, h1.sq⟩, q2 ι1 H1 s1 r1 xs rfl _ (iterTup h1 h3)⟩
        | str s =>
          refine .inr (.inr ⟨Fx, ι, st, r, ?_⟩)
          rw [e]
          intro ι1 H1 s1 r1 v rv
          obtain ⟨e1, o⟩ := rep_str rv
          exact ⟨_, e1, q2 ι1 H1 s1 r1 _ rfl _ (iterStr o)⟩
        | _ =>
          refine .inl ⟨Fx, ι, st, r, ?_⟩
          rw [e]
          intro ι1 H1 s1 r1 v rv
          have z := q' ι1 H1 s1 r1
          simp only [es, itemsOf] at z
          exact z.elim
    | er x st1 =>
      rw [e] at q'
      refine .inl ⟨Fx, ι, st, r, ?_⟩
      rw [e]
      exact q'
    | bad =>
      rw [e] at q'
      exact q'.elim
theorem PIW.enum {elts : List Expr} {kk : Nat} {tpos : Pos} (hg : Gl X "enumerate") (hm : X.mg "enumerate" = none) (ha : PAd X W [e] fs) (hs : starEach [e] X.env = [(false, eval e X.env)]) : PIW X W (.Tuple elts kk tpos) (.Call (.Name "enumerate" p) [e] [] pos) (mEnC fs) :=
  PI.imp (pi_enum hg hm ha hs) fun σ H R h => by
    obtain ⟨Fx, ι, st, r, q⟩ := h
    refine ⟨Fx, ι, st, r, q.bind.imp fun ds ι1 H1 st1 s1 r1 q1 vs rv => ?_⟩
    split at q1
    · rename_i d
      obtain ⟨v, rfl, k1⟩ := rep1 rv
      cases es : srcOf st1.mu d with
      | none => simp only [es] at q1; exact q1.elim
      | some pr =>
        obtain ⟨xs, w⟩ := pr
        simp only [es] at q1
        obtain ⟨a, ws, rfl, h1, h2⟩ := src_ok r1 k1 es
        exact ⟨a, ws, rfl, h1, q1.ok r1 _ (iterW_enum h2)⟩
    · exact q1.elim
theorem PIW.zip {elts : List Expr} {kk : Nat} {tpos : Pos} (hg : Gl X "zip") (hm : X.mg "zip" = none) (ha : PAd X W [a, e] fs) (hs : starEach [a, e] X.env = (false, eval a X.env) :: starEach [e] X.env) (hs2 : ((backTo pos (starEach [e] X.env)).any fun x => x.1) = false) :
    PIW X W (.Tuple elts kk tpos) (.Call (.Name "zip" p) [a, e] [] pos) (mZpC fs) :=
  PI.imp (RZ.pi_zipA hg hm ha hs hs2) fun σ H R h => by
    obtain ⟨Fx, ι, st, r, q⟩ := h
    refine ⟨Fx, ι, st, r, q.bind.imp fun ds ι1 H1 st1 s1 r1 q1 vs rv => ?_⟩
    split at q1
    · rename_i d d'
      obtain ⟨v, v', rfl, k1, k2⟩ := rep2 rv
      cases es : srcOf st1.mu d with
      | none => simp only [es] at q1; exact q1.elim
      | some pr =>
        obtain ⟨xs, w⟩ := pr
        cases es2 : srcOf st1.mu d' with
        | none => simp only [es, es2] at q1; exact q1.elim
        | some pr2 =>
          obtain ⟨ys, w2⟩ := pr2
          simp only [es, es2] at q1
          obtain ⟨a1, vs, rfl, h1, h2⟩ := src_ok r1 k1 es
          obtain ⟨a2, ws, rfl, g1, g2⟩ := src_ok r1 k2 es2
          exact ⟨a1, a2, vs, ws, rfl, .inl ⟨h1, g1, q1.ok r1 _ (iterW_zip h2 g2)⟩⟩
    · exact q1.elim
end
/-! ### loops -/
open Classical in
noncomputable def loopC (w : List (Nat × List D)) (T : Tg) (body : MS) : List D → MS
  | [], st => if WP w st.mu then .ok .nx st else .bad
  | d :: ds, st => if WP w st.mu then (match T.put d st.sl with
    | none => .bad
    | some sl => (body ⟨sl, st.mu⟩).bind fun a st1 => match a with
      | .nx => loopC w T body ds st1
      | .ct => loopC w T body ds st1
      | .bk => .ok .nx st1
      | .rt d => .ok (.rt d) st1) else .bad
noncomputable def sForC (T : Tg) (its : MI) (body : MS) : MS := fun st => (its st).bind fun p st1 => loopC p.2 T body p.1 st1
section
variable {w : List (Nat × List D)} {T : Tg} {body : MS} {st : ES} {d : D} {ds : List D}
theorem loopC_bad (h : ¬ WP w st.mu) : loopC w T body ds st = .bad := by
  cases ds <;> (unfold loopC; rw [if_neg h])
theorem loopC_nil (h : WP w st.mu) : loopC w T body [] st = .ok .nx st := by
  unfold loopC
  rw [if_pos h]
theorem loopC_cons (h : WP w st.mu) : loopC w T body (d :: ds) st = (match T.put d st.sl with
    | none => .bad
    | some sl => (body ⟨sl, st.mu⟩).bind fun a st1 => match a with
      | .nx => loopC w T body ds st1
      | .ct => loopC w T body ds st1
      | .bk => .ok .nx st1
      | .rt d => .ok (.rt d) st1) := by
  conv => lhs; unfold loopC
  rw [if_pos h]
end
section
variable {X : Cx} {W : WX} {f : M D} {pos : Pos}
theorem tForC_of {g : Gx} {T : Tg} {its : MI} {body : MS} {Dn : Ends} {σ : L2.St} {H : Hp} (h : tS g W (sForC T its body) Dn σ H) : tFor (tIW g W its) (tG g T) (tS g W body) Dn σ H := by
  obtain ⟨Fx, ι, st, r, q⟩ := h
  refine ⟨Fx, ι, st, r, (AftS.bind (σ := σ) q).imp fun pw ι1 H1 st1 s1 r1 q1 J hJ => ?_⟩
  obtain ⟨items, w⟩ := pw
  simp only at hJ q1
  obtain ⟨G, Y, hw, hG, hY⟩ := hJ
  have wpOf : ∀ {ι' : Io} {H' : Hp} {st' : ES} {ds : List D}, AftS g W Fx ι' H' (loopC w T body ds st') Dn → WP w st'.mu := fun {ι' H' st' ds} q => Classical.byContradiction fun n => by
    rw [loopC_bad n] at q
    exact q.elim
  refine for_it hw (fun i σ' H' => ∃ ι' st', Step ι1 H1 ι' H' ∧ SRel g Fx ι' H' σ' st' ∧ AftS g W Fx ι' H' (loopC w T body (items.drop i) st') Dn) ⟨ι1, st1, Step.refl, r1, by simpa using q1⟩ (fun i σ' H' _ ⟨ι', st', s', r', q'⟩ => hG _ ι' H' σ' st' s' s'.car r' (wpOf q')) ?_ ?_
  · rintro i x σ' H' H2 hi ⟨ι', st', s', r', q'⟩ y
    have wp := wpOf q'
    obtain ⟨gr, d, hd, rd⟩ := hY i Fx ι' H' σ' st' x H2 hi s'.car r' wp y
    have hdrop : items.drop i = d :: items.drop (i + 1) := by
      rw [List.drop_eq_getElem_cons hi]
      have : items[i] = d := by
        rw [List.getElem?_eq_getElem hi] at hd
        exact Option.some.inj hd
      rw [this]
    rw [hdrop, loopC_cons wp] at q'
    cases e : T.put d st'.sl with
    | none =>
      simp only [e] at q'
      exact q'.elim
    | some sl =>
      simp only [e] at q'
      refine ⟨Fx, ι', st', d, sl, r'.same gr, rd, e, fun ι2 σ2 s2 r2 _ => ?_⟩
      have s3 : Step ι' H' ι2 H2 := gr.step.trans s2
      refine ⟨Fx, ι2, _, r2, ?_⟩
      have q3 := AftS.later s3 q'
      cases eb : body ⟨sl, st'.mu⟩ with
      | ok a st2 =>
        rw [eb] at q3
        intro ι4 H4 σ4 s4 r4
        cases a with
        | nx => exact ⟨ι4, st2, (s'.trans s3).trans s4, r4, AftS.later s4 q3⟩
        | ct => exact ⟨ι4, st2, (s'.trans s3).trans s4, r4, AftS.later s4 q3⟩
        | bk => exact q3 ι4 H4 σ4 s4 r4
        | rt d' => exact q3 ι4 H4 σ4 s4 r4
      | er x st2 =>
        rw [eb] at q3
        exact q3
      | bad =>
        rw [eb] at q3
        exact q3
  · rintro σ' H' ⟨ι', st', s', r', q'⟩
    have wp := wpOf q'
    rw [List.drop_length, loopC_nil wp] at q'
    exact q' ι' H' σ' Step.refl r'
theorem PSd.forC {tg iter : Expr} {T : Tg} {its : MI} {body : List Stmt} {fb : MS} (hp : PassesOwn (model X.prog X.w) X.A X.env X.xe) (hc : X.calm = true) (hi : PIW X W tg iter its) (hg : PGd X tg T) (hb : PSsd X W body fb)
    (hs : ∀ x, foldedSetIterable iter X.env x = pure x) : PSd X W (.For tg iter body [] pos) (sForC T its fb) := PS.imp (ps_for hp hc hi hg hb hs) fun Dn σ H h => tForC_of h
end
/-! ### comprehensions -/
open Classical in
noncomputable def compLoopC (w : List (Nat × List D)) (T : Tg) (c : M Bool) (elt : M D) (vs : List Nat) : List D → List D → ES → R (List D)
  | [], acc, st => if WP w st.mu then .ok acc st else .bad
  | d :: ds, acc, st => if WP w st.mu then (match T.put d (wipeS st.sl vs) with
    | none => .bad
    | some sl => (noEr (c ⟨sl, st.mu⟩)).bind fun b st1 => if b then (noEr (elt st1)).bind fun y st2 => (if acc.length < lim then compLoopC w T c elt vs ds (acc ++ [y]) st2 else .bad) else compLoopC w T c elt vs ds acc st1) else .bad
noncomputable def mCompC (its : MI) (T : Tg) (c : M Bool) (elt : M D) (vs : List Nat) : M (List D) := fun st => (its st).bind fun p st1 =>
  (compLoopC p.2 T c elt vs p.1 [] st1).bind fun ys st2 => .ok ys ⟨restS st1.sl (wipeS st2.sl vs) vs, st2.mu⟩
section
variable {w : List (Nat × List D)} {T : Tg} {c : M Bool} {elt : M D} {vs : List Nat} {st : ES} {d : D} {ds acc : List D}
theorem compLoopC_bad (h : ¬ WP w st.mu) : compLoopC w T c elt vs ds acc st = .bad := by
  cases ds <;> (unfold compLoopC; rw [if_neg h])
theorem compLoopC_nil (h : WP w st.mu) : compLoopC w T c elt vs [] acc st = .ok acc st := by
  unfold compLoopC
  rw [if_pos h]
theorem compLoopC_cons (h : WP w st.mu) : compLoopC w T c elt vs (d :: ds) acc st = (match T.put d (wipeS st.sl vs) with
    | none => .bad
    | some sl => (noEr (c ⟨sl, st.mu⟩)).bind fun b st1 => if b then (noEr (elt st1)).bind fun y st2 => (if acc.length < lim then compLoopC w T c elt vs ds (acc ++ [y]) st2 else .bad) else compLoopC w T c elt vs ds acc st1) := by
  conv => lhs; unfold compLoopC
  rw [if_pos h]
end
section
variable {X : Cx} {W : WX} {f : M D}
theorem tLcC_of {g : Gx} {W0 : WX} {T : Tg} {its : MI} {c : M Bool} {elt : M D} {vs : List Nat} {σ : L2.St} {H : Hp} {Q : VK} (hT : T_in T vs) (h : tF g W (mCompC its T c elt vs) σ H Q) :
    tLc (tIW g W its) (tG g T) (tT g W0 c) (tE g W0 elt) vs σ H Q := by
  obtain ⟨Fx, ι, st, r, q⟩ := h
  refine ⟨Fx, ι, st, r, q.bind.imp fun pw ι1 H1 st1 s1 r1 q1 J hJ D hD => ?_⟩
  obtain ⟨items, w⟩ := pw
  simp only at hJ
  obtain ⟨G, Y, hw, hG, hY⟩ := hJ
  have rD := r1.apart (o := .lst []) hD
  obtain ⟨ι2, s2, r2⟩ := rD.wiped vs
  have stepD : Step ι1 H1 ι2 (upd H1 D (.lst [])) := (step_new hD).trans s2
  have carD : ∀ {ι' : Io} {H' : Hp}, Step ι1 H1 ι' H' → Car Fx ι1 H1 (fun b => Fx b ∨ b = D) ι' H' := fun {ι' H'} s' => ⟨fun b o e n => s'.keep b o e fun z => n (.inr z), fun b z => by
      rcases z with (z | z) | z
      · exact .inl (.inl z)
      · rw [z]
        exact .inr hD
      · rcases s'.ow b z with z | z
        · exact .inl (.inr z)
        · exact .inr z, s'.ce⟩
  have nbad : ∀ {r : R (List Pv.D)}, compLoopC w T c elt vs items [] st1 = r → r = .bad → False := fun {r} e1 e2 => by
    have q2 : Aft g W Fx ι1 H1 σ ((compLoopC w T c elt vs items [] st1).bind fun ys st2 => .ok ys ⟨restS st1.sl (wipeS st2.sl vs) vs, st2.mu⟩) _ := q1
    rw [e1, e2] at q2
    exact q2
  have wpOf : ∀ {st' : ES} {i : Nat} {acc : List Pv.D}, compLoopC w T c elt vs items [] st1 = compLoopC w T c elt vs (items.drop i) acc st' → WP w st'.mu := fun {st' i acc} e => Classical.byContradiction fun n => nbad e (compLoopC_bad n)
  refine lc_it hw (fun i H' => ∃ ι' st' acc accV, Step ι1 H1 ι' H' ∧ SRel g (fun b => Fx b ∨ b = D) ι' H' (wipe σ vs) ⟨wipeS st'.sl vs, st'.mu⟩ ∧ H' D = some (.lst accV) ∧ RepAll g.K H' (fun b => Fx b ∨ b = D) ι' acc accV ∧ compLoopC w T c elt vs items [] st1 = compLoopC w T c elt vs (items.drop i) acc st')
    ⟨ι2, st1, [], [], stepD, r2, upd_same, .nil, by simp⟩ (fun i H' _ ⟨ι', st', acc, accV, s', r', _, _, eq'⟩ => hG _ ι' H' _ _ s' (carD s') r' (wpOf (st' := st') eq')) ?_ ?_
  · rintro i x H' H2 hi ⟨ι', st', acc, accV, s', r', hl', ra', eq'⟩ y
    have wp := wpOf eq'
    obtain ⟨gr, d, hd, rd⟩ := hY i _ ι' H' (wipe σ vs) ⟨wipeS st'.sl vs, st'.mu⟩ x H2 hi (carD s') r' wp y
    have hdrop : items.drop i = d :: items.drop (i + 1) := by
      rw [List.drop_eq_getElem_cons hi]
      have : items[i] = d := by
        rw [List.getElem?_eq_getElem hi] at hd
        exact Option.some.inj hd
      rw [this]
    rw [hdrop] at eq'
    rw [compLoopC_cons wp] at eq'
    cases e : T.put d (wipeS st'.sl vs) with
    | none =>
      simp only [e] at eq'
      exact (nbad eq' rfl).elim
    | some sl =>
      simp only [e] at eq'
      refine ⟨fun b => Fx b ∨ b = D, ι', ⟨wipeS st'.sl vs, st'.mu⟩, d, sl, r'.same gr, rd, e, fun ι3 σ3 s3 r3 hσ => ⟨?_, ?_⟩⟩
      · refine wipe_eq ?_ fun j hj => hσ j ?_
        · have h1 := r3.len
          have h2 : sl.length = _ := Tg.put_len e
          have h3 := r'.len
          rw [wipe_length] at h3
          simp only at h1 h3
          omega
        · cases T with
          | nm i =>
            have : i ∈ vs := hT
            exact fun z => hj (by rw [z]; exact this)
          | tp is =>
            have : ∀ i ∈ is, i ∈ vs := hT
            exact fun z => hj (this j z)
      · -- the test
        have s4 : Step ι1 H1 ι3 H2 := s'.trans (gr.step.trans s3)
        have hD2 : H2 D = some (.lst accV) := gr D _ hl'
        have ra2 : RepAll g.K H2 (fun b => Fx b ∨ b = D) ι3 acc accV := RepAll.car ((gr.step (ι := ι')).trans s3).car _ _ ra'
        refine ⟨fun b => Fx b ∨ b = D, ι3, ⟨sl, st'.mu⟩, r3, ?_⟩
        cases ec : c ⟨sl, st'.mu⟩ with
        | er x5 st5 =>
          rw [ec] at eq'
          exact (nbad eq' rfl).elim
        | bad =>
          rw [ec] at eq'
          exact (nbad eq' rfl).elim
        | ok b st5 =>
          rw [ec] at eq'
          have eq5 : compLoopC w T c elt vs items [] st1 = if b then (noEr (elt st5)).bind fun y st2 => (if acc.length < lim then compLoopC w T c elt vs (items.drop (i + 1)) (acc ++ [y]) st2 else .bad) else compLoopC w T c elt vs (items.drop (i + 1)) acc st5 := eq'
          intro ι5 H5 s5 r5
          have s15 : Step ι1 H1 ι5 H5 := s4.trans s5
          have hD5 : H5 D = some (.lst accV) := s5.keep D _ hD2 (r3.fx D (.inr rfl))
          have ra5 : RepAll g.K H5 (fun b => Fx b ∨ b = D) ι5 acc accV := RepAll.car s5.car _ _ ra2
          have hw3 : wipe σ3 vs = wipe σ vs := by
            refine wipe_eq ?_ fun j hj => hσ j ?_
            · have h1 := r3.len
              have h2 : sl.length = _ := Tg.put_len e
              have h3 := r'.len
              rw [wipe_length] at h3
              simp only at h1 h3
              omega
            · cases T with
              | nm i =>
                have : i ∈ vs := hT
                exact fun z => hj (by rw [z]; exact this)
              | tp is =>
                have : ∀ i ∈ is, i ∈ vs := hT
                exact fun z => hj (this j z)
          cases b with
          | false =>
            rw [if_neg (by decide)] at eq5
            refine iteF ?_
            obtain ⟨ι6, s6, r6⟩ := r5.wiped vs
            rw [hw3] at r6
            exact ⟨ι6, st5, acc, accV, s15.trans s6, r6, hD5, RepAll.car s6.car _ _ ra5, eq5⟩
          | true =>
            rw [if_pos rfl] at eq5
            refine iteT ?_
            refine ⟨fun b => Fx b ∨ b = D, ι5, st5, r5, ?_⟩
            cases ee : elt st5 with
            | er x7 st7 =>
              rw [ee] at eq5
              exact (nbad eq5 rfl).elim
            | bad =>
              rw [ee] at eq5
              exact (nbad eq5 rfl).elim
            | ok y7 st7 =>
              rw [ee] at eq5
              have eq7 : compLoopC w T c elt vs items [] st1 = (if acc.length < lim then compLoopC w T c elt vs (items.drop (i + 1)) (acc ++ [y7]) st7 else .bad) := eq5
              intro ι7 H7 s7 r7 v7 rv7
              split at eq7
              · rename_i hlen
                have hD7 : H7 D = some (.lst accV) := s7.keep D _ hD5 (r5.fx D (.inr rfl))
                have ra7 : RepAll g.K H7 (fun b => Fx b ∨ b = D) ι7 acc accV := RepAll.car s7.car _ _ ra5
                refine ⟨accV, hD7, by rw [← ra7.length]; exact Nat.lt_of_lt_of_le hlen lim_line, ?_⟩
                obtain ⟨ι8, s8, r8⟩ := (r7.apartUpd (o := .lst (accV ++ [v7]))).wiped vs
                rw [hw3] at r8
                have sU : Step ι1 H1 ι7 (upd H7 D (.lst (accV ++ [v7]))) := by
                  have z := s15.trans s7
                  refine ⟨fun b o e n => ?_, z.ow, z.ce, fun b o e => ?_⟩
                  · rw [upd_ne (ne_of_none e hD)]
                    exact z.keep b o e n
                  · obtain ⟨o', e'⟩ := z.th b o e
                    exact upd_th b o' e'
                exact ⟨ι8, st7, acc ++ [y7], accV ++ [v7], sU.trans s8, r8, upd_same, RepAll.car s8.car _ _ (car_upd (ra7.append (.cons rv7 .nil))), eq7⟩
              · exact (nbad eq7 rfl).elim
  · rintro H' ⟨ι', st', acc, accV, s', r', hl', ra', eq'⟩
    have wp := wpOf (i := items.length) eq'
    rw [List.drop_length, compLoopC_nil wp] at eq'
    have q2 : Aft g W Fx ι1 H1 σ ((compLoopC w T c elt vs items [] st1).bind fun ys st2 => .ok ys ⟨restS st1.sl (wipeS st2.sl vs) vs, st2.mu⟩) _ := q1
    rw [eq'] at q2
    have rr := r'.restored r1 (carD s') fun j x hj e => wipeS_in hj e
    exact q2 ι' H' s' (rr.fxle fun b z => .inl z) D accV (s1.none hD) hl' rr ra'
variable {tg iter elt c₁ : Expr} {scope : Scope} {own : List (Str × Nat)} {pos spos py : Pos} {T : Tg} {its : MI} {fc : M Bool} {fe : M D}
theorem PFd.compC0 (hc : X.calm = true) (hN : X.N.Nodup) (hi : PIW X W tg iter its) (ok : BlkOk X.N X.env.scope scope own) (hT : T_in T (own.map (·.2)))
    (hg : ∀ s H C cl fp, PGd (blkX X scope s H C cl fp) tg T) (he : ∀ s H C cl fp, PEd (blkX X scope s H C cl fp) noW elt fe) (hs : ∀ x, foldedSetIterable iter X.env x = pure x) :
    PFd X W (.ListComp elt [⟨tg, iter, [], 0⟩] scope pos) (mCompC its T mYes fe (own.map (·.2))) :=
  PE.imp (pe_lc (g := tG (gx X) T) (tt := tT (gx X) noW mYes) (te := tE (gx X) noW fe) hc hN hi ok hg (fun _ _ _ _ _ => (⟨fun pins s σ H Q I hw => by
    obtain ⟨Fx, ι, st, r, q⟩ := hw
    exact pts_nil.run pins s σ H Q I (q.ok r)⟩ : PTs _ [] (tT (gx X) noW mYes))) he hs) fun σ H Q h => tLcC_of hT h
theorem PFd.compC1 (hc : X.calm = true) (hN : X.N.Nodup) (hi : PIW X W tg iter its) (ok : BlkOk X.N X.env.scope scope own) (hT : T_in T (own.map (·.2)))
    (hg : ∀ s H C cl fp, PGd (blkX X scope s H C cl fp) tg T) (ht : ∀ s H C cl fp, PTd (blkX X scope s H C cl fp) noW c₁ fc) (he : ∀ s H C cl fp, PEd (blkX X scope s H C cl fp) noW elt fe) (hs : ∀ x, foldedSetIterable iter X.env x = pure x) :
    PFd X W (.ListComp elt [⟨tg, iter, [c₁], 0⟩] scope pos) (mCompC its T fc fe (own.map (·.2))) :=
  PE.imp (pe_lc (g := tG (gx X) T) (tt := tT (gx X) noW fc) (te := tE (gx X) noW fe) hc hN hi ok hg (fun s H C cl fp => pts_one (ht s H C cl fp)) he hs) fun σ H Q h => tLcC_of hT h
/-- name = [..] -/
theorem PSd.setCC0 {i : Nat} {y : Str} (hc : X.calm = true) (hN : X.N.Nodup) (hy : X.N[i]? = some y) (hyl : X.env.scope.names.lookup y = some .local) (hsw : swapsWith (.ListComp elt [⟨tg, iter, [], 0⟩] scope pos) (some (.Name y py)) spos.line X.env = pure true)
    (hi : PIW X W tg iter its) (ok : BlkOk X.N X.env.scope scope own) (hT : T_in T (own.map (·.2)))
    (hg : ∀ s H C cl fp, PGd (blkX X scope s H C cl fp) tg T) (he : ∀ s H C cl fp, PEd (blkX X scope s H C cl fp) noW elt fe) (hs : ∀ x, foldedSetIterable iter X.env x = pure x) :
    PSd X W (.Assign [.Name y py] (.ListComp elt [⟨tg, iter, [], 0⟩] scope pos) spos) (sSet i (mCell (mCompC its T mYes fe (own.map (·.2))))) :=
  PS.imp (ps_setLc (g := tG (gx X) T) (tt := tT (gx X) noW mYes) (te := tE (gx X) noW fe) hc hN hy hyl hsw hi ok hg (fun _ _ _ _ _ => (⟨fun pins s σ H Q I hw => by
    obtain ⟨Fx, ι, st, r, q⟩ := hw
    exact pts_nil.run pins s σ H Q I (q.ok r)⟩ : PTs _ [] (tT (gx X) noW mYes))) he hs) fun Dn σ H h => by
      exact tLcC_of hT (show tF _ _ _ σ H _ from tAsg_cell h)
theorem PSd.setCC1 {i : Nat} {y : Str} (hc : X.calm = true) (hN : X.N.Nodup) (hy : X.N[i]? = some y) (hyl : X.env.scope.names.lookup y = some .local) (hsw : swapsWith (.ListComp elt [⟨tg, iter, [c₁], 0⟩] scope pos) (some (.Name y py)) spos.line X.env = pure true)
    (hi : PIW X W tg iter its) (ok : BlkOk X.N X.env.scope scope own) (hT : T_in T (own.map (·.2)))
    (hg : ∀ s H C cl fp, PGd (blkX X scope s H C cl fp) tg T) (ht : ∀ s H C cl fp, PTd (blkX X scope s H C cl fp) noW c₁ fc) (he : ∀ s H C cl fp, PEd (blkX X scope s H C cl fp) noW elt fe) (hs : ∀ x, foldedSetIterable iter X.env x = pure x) :
    PSd X W (.Assign [.Name y py] (.ListComp elt [⟨tg, iter, [c₁], 0⟩] scope pos) spos) (sSet i (mCell (mCompC its T fc fe (own.map (·.2))))) :=
  PS.imp (ps_setLc (g := tG (gx X) T) (tt := tT (gx X) noW fc) (te := tE (gx X) noW fe) hc hN hy hyl hsw hi ok hg (fun s H C cl fp => pts_one (ht s H C cl fp)) he hs) fun Dn σ H h => tLcC_of hT (show tF _ _ _ σ H _ from tAsg_cell h)
/-- name = [..] -/
theorem PSd.setLC0 {i : Nat} {y : Str} (hc : X.calm = true) (hN : X.N.Nodup) (hy : X.N[i]? = some y) (hyl : X.env.scope.names.lookup y = some .local) (hsw : swapsWith (.ListComp elt [⟨tg, iter, [], 0⟩] scope pos) (some (.Name y py)) spos.line X.env = pure true)
    (hi : PIW X W tg iter its) (ok : BlkOk X.N X.env.scope scope own) (hT : T_in T (own.map (·.2)))
    (hg : ∀ s H C cl fp, PGd (blkX X scope s H C cl fp) tg T) (he : ∀ s H C cl fp, PEd (blkX X scope s H C cl fp) noW elt fe) (hs : ∀ x, foldedSetIterable iter X.env x = pure x) :
    PSd X W (.Assign [.Name y py] (.ListComp elt [⟨tg, iter, [], 0⟩] scope pos) spos) (sSetL i (mCompC its T mYes fe (own.map (·.2)))) :=
  PS.imp (ps_setLc (g := tG (gx X) T) (tt := tT (gx X) noW mYes) (te := tE (gx X) noW fe) hc hN hy hyl hsw hi ok hg (fun _ _ _ _ _ => (⟨fun pins s σ H Q I hw => by
    obtain ⟨Fx, ι, st, r, q⟩ := hw
    exact pts_nil.run pins s σ H Q I (q.ok r)⟩ : PTs _ [] (tT (gx X) noW mYes))) he hs) fun Dn σ H h => by
      exact tLcC_of hT (show tF _ _ _ σ H _ from tF_set h)
theorem PSd.setLC1 {i : Nat} {y : Str} (hc : X.calm = true) (hN : X.N.Nodup) (hy : X.N[i]? = some y) (hyl : X.env.scope.names.lookup y = some .local) (hsw : swapsWith (.ListComp elt [⟨tg, iter, [c₁], 0⟩] scope pos) (some (.Name y py)) spos.line X.env = pure true)
    (hi : PIW X W tg iter its) (ok : BlkOk X.N X.env.scope scope own) (hT : T_in T (own.map (·.2)))
    (hg : ∀ s H C cl fp, PGd (blkX X scope s H C cl fp) tg T) (ht : ∀ s H C cl fp, PTd (blkX X scope s H C cl fp) noW c₁ fc) (he : ∀ s H C cl fp, PEd (blkX X scope s H C cl fp) noW elt fe) (hs : ∀ x, foldedSetIterable iter X.env x = pure x) :
    PSd X W (.Assign [.Name y py] (.ListComp elt [⟨tg, iter, [c₁], 0⟩] scope pos) spos) (sSetL i (mCompC its T fc fe (own.map (·.2)))) :=
  PS.imp (ps_setLc (g := tG (gx X) T) (tt := tT (gx X) noW fc) (te := tE (gx X) noW fe) hc hN hy hyl hsw hi ok hg (fun s H C cl fp => pts_one (ht s H C cl fp)) he hs) fun Dn σ H h => tLcC_of hT (show tF _ _ _ σ H _ from tF_set h)
end
section
variable {X : Cx} {W : WX} {tg iter elt c₁ : Expr} {scope : Scope} {own : List (Str × Nat)} {pos spos py : Pos} {T : Tg} {its : M (List D)} {fc : M Bool} {fe : M D}
/-- name = [..] -/
theorem PSd.setT0 {i : Nat} {y : Str} (hc : X.calm = true) (hN : X.N.Nodup) (hy : X.N[i]? = some y) (hyl : X.env.scope.names.lookup y = some .local) (hsw : swapsWith (.ListComp elt [⟨tg, iter, [], 0⟩] scope pos) (some (.Name y py)) spos.line X.env = pure true)
    (hi : PId X W tg iter its) (ok : BlkOk X.N X.env.scope scope own) (hT : T_in T (own.map (·.2)))
    (hg : ∀ s H C cl fp, PGd (blkX X scope s H C cl fp) tg T) (he : ∀ s H C cl fp, PEd (blkX X scope s H C cl fp) noW elt fe) (hs : ∀ x, foldedSetIterable iter X.env x = pure x) :
    PSd X W (.Assign [.Name y py] (.ListComp elt [⟨tg, iter, [], 0⟩] scope pos) spos) (sSet i (mCell (mComp its T mYes fe (own.map (·.2))))) :=
  PS.imp (ps_setLc (g := tG (gx X) T) (tt := tT (gx X) noW mYes) (te := tE (gx X) noW fe) hc hN hy hyl hsw hi ok hg (fun _ _ _ _ _ => (⟨fun pins s σ H Q I hw => by
    obtain ⟨Fx, ι, st, r, q⟩ := hw
    exact pts_nil.run pins s σ H Q I (q.ok r)⟩ : PTs _ [] (tT (gx X) noW mYes))) he hs) fun Dn σ H h => by
      exact tLc_of hT (show tF _ _ _ σ H _ from tAsg_cell h)
theorem PSd.setT1 {i : Nat} {y : Str} (hc : X.calm = true) (hN : X.N.Nodup) (hy : X.N[i]? = some y) (hyl : X.env.scope.names.lookup y = some .local) (hsw : swapsWith (.ListComp elt [⟨tg, iter, [c₁], 0⟩] scope pos) (some (.Name y py)) spos.line X.env = pure true)
    (hi : PId X W tg iter its) (ok : BlkOk X.N X.env.scope scope own) (hT : T_in T (own.map (·.2)))
    (hg : ∀ s H C cl fp, PGd (blkX X scope s H C cl fp) tg T) (ht : ∀ s H C cl fp, PTd (blkX X scope s H C cl fp) noW c₁ fc) (he : ∀ s H C cl fp, PEd (blkX X scope s H C cl fp) noW elt fe) (hs : ∀ x, foldedSetIterable iter X.env x = pure x) :
    PSd X W (.Assign [.Name y py] (.ListComp elt [⟨tg, iter, [c₁], 0⟩] scope pos) spos) (sSet i (mCell (mComp its T fc fe (own.map (·.2))))) :=
  PS.imp (ps_setLc (g := tG (gx X) T) (tt := tT (gx X) noW fc) (te := tE (gx X) noW fe) hc hN hy hyl hsw hi ok hg (fun s H C cl fp => pts_one (ht s H C cl fp)) he hs) fun Dn σ H h => tLc_of hT (show tF _ _ _ σ H _ from tAsg_cell h)
end
end Pv
/-! Pv28 (between Pv24 and Pv10): list(reversed(x)). -/
namespace Pv
open PySem PySem.W PySem.Spec PyProof.Rows
/-! ### list(reversed(x)) -/
section
open RT RZ
variable {prog : Program} {w : World} {A : Around} {E : Value → Shared → Prop} {s : Shared}
theorem extend_rev {R : Result → Shared → Prop} {it l S : Addr} {items : Array Value} {c₀ : Nat} {res : Value} (hh : A.handled = none) (hS : s.heap.get? S = some { cls := .type "list", data := .seq #[] c₀ }) (hit : s.heap.IsRevIter it l ((items.size : Int) - 1)) (hl : s.heap.IsList l items) (hne : l ≠ it) (hSi : S ≠ it) (hSl : S ≠ l) (hn : items.size ≤ sizeLine)
    (hR : ∀ h' tk acc' c', (∀ b o, b ≠ S → b ≠ it → s.heap.get? b = some o → h'.get? b = some o) → h'.get? S = some { cls := .type "list", dict := none, data := .seq acc' c', slots := #[] } →
      ItemsOf (fun i v => items[items.size - 1 - i]? = some v) acc' items.size → R (.ok (.ret res)) { s with heap := h', toks := tk }) :
    wpAny (model prog w) A.in1 (Builtin.List.listExtendWith (.ref S) (.ref it) res)
      (fun fin s' => match fin with | .done f => R (.ok f) s' | .again c' => c'.quiet = true ∧ codeAny (model prog w) A c' R s') (fun e s' => R (.error e) s') s := by
  have W := (Walks.listRev (prog := prog) (w := w) (A := A.in1) hh it l hne items).toS
  have hSf : S ∉ [it, l] := by simp [hSi, hSl]
  have hT : s.TypeIs (.ref it) "list_reverseiterator" := hit.typeIs
  unfold Builtin.List.listExtendWith
  refine wpAny_bind (wpAny_typeOf hT ?_)
  rw [if_neg (by simp [Builtin.List.listSameRef, hSi])]
  refine wpAny_bind (wpAny_pyIter_revIter hit (wpAny_bind (wpAny_holding ?_)))
  unfold Builtin.List.listLengthHint
  refine wpAny_bind (wpAny_specialOf hT nolen_lri ?_)
  show wpAny _ A.in1 (specialOf (Value.ref it) (Str.ofString "__length_hint__") >>= _) _ _ _
  refine wpAny_bind (wpAny_specialOf hT hint_lri ?_)
  generalize hid : ("list_reverseiterator.__length_hint__" : String) = id0
  wp_delta
  rw [show splitId id0 = some ("list_reverseiterator", "__length_hint__") from by subst hid; decide +kernel]
  subst hid
  refine wpAny_bind (wpAny_isInstance (b := true) hT (by rw [isSubtype_type]; kernel_rfl) (wpAny_pure ?_))
  rw [if_neg (by decide)]
  have e0 : ((items.size : Nat) : Int) - 1 - ((0 : Nat) : Int) = (items.size : Int) - 1 := by omega
  refine wpAny_pure ⟨plainId_quiet F.plain_extend_loop _, codeAny_extend_loopS W hn _ hSf _ items.size 0 _ _ _ rfl (Nat.zero_le _) ⟨Nat.zero_le _, by rw [e0]; exact hit, hl⟩ hS (ItemsOf.nil _) fun s' acc' c' hm hS' hacc => ?_⟩
  rw [Moved.eq_with hm]
  refine hR s'.heap s'.toks acc' c' (fun b o hb hb2 e => hm.heap b o (fun hmem => ?_) e) hS' hacc
  rcases List.mem_cons.mp hmem with e' | hmem
  · exact hb e'
  · exact hb2 (List.mem_singleton.mp hmem)
theorem call_list_rev {it l : Addr} {items : Array Value} {Q : Value → Shared → Prop} (hh : A.handled = none) (hit : s.heap.IsRevIter it l ((items.size : Int) - 1)) (hl : s.heap.IsList l items) (hne : l ≠ it) (hn : items.size ≤ sizeLine)
    (hQ : ∀ h' tk acc' c', (∀ b o, b ≠ it → s.heap.get? b = some o → h'.get? b = some o) → h'.get? s.heap.objs.size = some { cls := .type "list", dict := none, data := .seq acc' c', slots := #[] } → ItemsOf (fun i v => items[items.size - 1 - i]? = some v) acc' items.size →
      Q (.ref s.heap.objs.size) { s with heap := h', toks := tk }) : wpAny (model prog w) A (call (.type "list") [.ref it]) Q E s := by
  have hi : it < s.heap.objs.size := by obtain ⟨_, e, _⟩ := id hit; exact Heap.lt_size e
  have hll : l < s.heap.objs.size := by obtain ⟨_, e, _⟩ := id hl; exact Heap.lt_size e
  refine callType_codes (Q₁ := fun obj s₁ => obj = .ref s.heap.objs.size ∧ s₁ = { s with heap := s.heap.push { cls := .type "list", data := .seq #[] } }) F.called_list (F.typeCall_list_1 _) F.entry_list_init (code_list_new _ ⟨rfl, rfl⟩) fun obj s₁ h₁ => ?_
  obtain ⟨rfl, rfl⟩ := h₁
  have hS : (s.heap.push { cls := .type "list", data := .seq #[] }).get? s.heap.objs.size = some { cls := .type "list", data := .seq #[] } := Heap.get?_push_size _ rfl
  refine ⟨⟨_, hS, rfl⟩, F.args_list_init_2 _ _, ?_⟩
  show wpAny _ _ (do let old ← Builtin.List.listItems (.ref s.heap.objs.size); Builtin.List.listUpdate (.ref s.heap.objs.size) (fun _ => #[]); letGo old.toList.reverse; Builtin.List.listExtendWith (.ref s.heap.objs.size) (.ref it) .none) _ _ _
  refine wpAny_bind ?_
  unfold Builtin.List.listItems
  refine wpAny_bind (wpAny_seqItems hS rfl (wpAny_pure ?_))
  show wpAny _ _ (updateSeq s.heap.objs.size (fun _ => #[]) >>= fun _ => letGo (#[] : Array Value).toList.reverse >>= fun _ => Builtin.List.listExtendWith (.ref s.heap.objs.size) (.ref it) .none) _ _ _
  refine wpAny_bind (wpAny_updateSeq hS rfl ?_)
  have hS₂ := Heap.get?_update_self (Obj.mapSeq (fun _ => (#[] : Array Value))) hS rfl
  have oth : ∀ b o, b ≠ s.heap.objs.size → s.heap.get? b = some o → ((s.heap.push { cls := .type "list", data := .seq #[] }).update s.heap.objs.size (Obj.mapSeq (fun _ => (#[] : Array Value)))).get? b = some o :=
    fun b o hb e => (Heap.get?_update_other _ _ (Ne.symm hb)).trans (Heap.get?_push_of_some _ e)
  refine wpAny_bind (wpAny_letGo ?_)
  refine extend_rev (A := A.in1) hh hS₂ (hit.at fun o e => oth _ _ (Nat.ne_of_lt hi) e) (hl.at fun o e => oth _ _ (Nat.ne_of_lt hll) e) hne (Nat.ne_of_gt hi) (Nat.ne_of_gt hll) hn fun h' tk acc' c' hk hS' hacc => ?_
  exact ⟨rfl, hQ h' tk acc' c' (fun b o hb e => hk b o (Nat.ne_of_lt (Heap.lt_size e)) hb (oth b o (Nat.ne_of_lt (Heap.lt_size e)) e)) hS' hacc⟩
end
open L2 in
/-- list(reversed(x)), x a list: a new list -/
theorem pe_listRev {X : Cx} {e : Expr} {te : TE} {p p2 pos pos2 : Pos} (hc : X.calm = true) (hg : Gl X "list") (hm : X.mg "list" = none) (hg2 : Gl X "reversed") (hm2 : X.mg "reversed" = none) (he : PE X e te)
    (hs : starEach [e] X.env = (false, eval e X.env) :: starEach [] X.env) (hs2 : starEach [.Call (.Name "reversed" p2) [e] [] pos2] X.env = (false, eval (.Call (.Name "reversed" p2) [e] [] pos2) X.env) :: starEach [] X.env) :
    PE X (.Call (.Name "list" p) [.Call (.Name "reversed" p2) [e] [] pos2] [] pos) (fun σ H Q => te σ H fun v H1 => ∃ (a : Addr) (xs : List V), v = .ref a ∧ SqL X.K H1 a xs ∧ ∀ q, H1 q = none → Q (.ref q) (upd H1 q (.lst xs.reverse))) := by
  refine ⟨fun pins s σ H Q I h => ?_⟩
  refine Call_ (ld_blt I hg hm boot_list (PyProof.Rows.callWith_type1 (args_cons (Call_ (ld_blt I hg2 hm2 PyProof.Rows.boot_reversed (PyProof.Rows.callWith_type1 (args_cons (thn (he.run pins s σ H _ I h) fun u s1 ⟨v, H1, I1, r1, q1⟩ => args_nil ?_) hs) hs rfl))) hs2) hs2 rfl))
  obtain ⟨a, xs, rfl, hq, q⟩ := q1
  obtain rfl : u = Value.ref a := r1
  obtain ⟨its, rv, p', hz⟩ := I1.list hq
  have hl := p'.isList
  have hlt : a < s1.heap.objs.size := by obtain ⟨_, e, _⟩ := id hl; exact Heap.lt_size e
  have hn : its.toArray.size ≤ sizeLine := by rw [List.size_toArray, ← rv.length]; exact hz
  refine call_reversed_list hl (args_nil (call_list_rev (I1.ok.hd hc) ⟨_, Heap.get?_push_size _ rfl, rfl, rfl⟩ (hl.push _) (Nat.ne_of_lt hlt) hn fun h' tk acc c' hk hS hi => ?_))
  have k1 : ∀ b o, s1.heap.get? b = some o → h'.get? b = some o := fun b o e => hk b o (Nat.ne_of_lt (Heap.lt_size e)) (Heap.get?_push_of_some _ e)
  have hge : s1.heap.objs.size ≤ (s1.heap.push (revObj a ((its.toArray.size : Int) - 1))).objs.size := by simp [Heap.push]
  refine ⟨.ref _, upd H1 (s1.heap.push (revObj a ((its.toArray.size : Int) - 1))).objs.size (.lst xs.reverse), I1.laid (t' := tk) k1 hge (show ObjOk X.prog X.w _ _ _ (.lst xs.reverse) from ⟨by rw [List.length_reverse]; exact hz, acc.toList, c', RT.vals_rev rv hi, by rw [Array.toArray_toList]; exact hS⟩), rfl, q _ (I1.hok.fresh hge)⟩
theorem RepAll.rev {K : PySem.W.Frag} {H : L2.Hp} {Fx : Addr → Prop} {ι : Io} : ∀ {ds : List D} {vs : List L2.V}, RepAll K H Fx ι ds vs → RepAll K H Fx ι ds.reverse vs.reverse
  | [], vs, h => by
    simp only [RepAll] at h
    subst h
    exact RepAll.nil
  | d :: ds, vs, h => by
    simp only [RepAll] at h
    obtain ⟨v, r, rfl, h1, h2⟩ := h
    rw [List.reverse_cons, List.reverse_cons]
    exact RepAll.append (RepAll.rev h2) (.cons h1 .nil)
def mRevL (f : M D) : M D := fun st => (f st).bind fun d st1 => match dr st1.mu d with
  | .lst xs => .ok (.lst xs.reverse) st1
  | _ => .bad
open L2 in
theorem PEd.revL {X : Cx} {W : WX} {e : Expr} {f : M D} {p p2 pos pos2 : Pos} (hc : X.calm = true) (hg : Gl X "list") (hm : X.mg "list" = none) (hg2 : Gl X "reversed") (hm2 : X.mg "reversed" = none) (he : PEd X W e f)
    (hs : starEach [e] X.env = (false, eval e X.env) :: starEach [] X.env) (hs2 : starEach [.Call (.Name "reversed" p2) [e] [] pos2] X.env = (false, eval (.Call (.Name "reversed" p2) [e] [] pos2) X.env) :: starEach [] X.env) :
    PEd X W (.Call (.Name "list" p) [.Call (.Name "reversed" p2) [e] [] pos2] [] pos) (mRevL f) := PE.imp (pe_listRev hc hg hm hg2 hm2 he hs hs2) fun σ H Q h => by
  obtain ⟨Fx, ι, st, r, q⟩ := h
  refine ⟨Fx, ι, st, r, q.bind.imp fun d ι1 H1 st1 s1 r1 q1 v rv => ?_⟩
  have rb := repB_dr r1 (.inl rv)
  split at q1
  · rename_i xs ex
    rw [ex] at rb
    obtain ⟨a, vs, e1, h1, h2⟩ := repB_lst rb
    subst e1
    refine ⟨a, vs, rfl, SqL.of h1, fun p hp => ?_⟩
    have gr : Grow H1 (upd H1 p (.lst vs.reverse)) := Grow.new hp
    refine q1 ι1 _ gr.step (r1.same gr) (.ref p) ?_
    simp only [Rep]
    refine ⟨p, vs.reverse, rfl, upd_same, fun z => ?_, RepAll.car gr.step.car _ _ (RepAll.rev h2)⟩
    rcases z with z | z
    · obtain ⟨o, e⟩ := r1.fxt p z
      rw [hp] at e
      cases e
    · obtain ⟨o, e⟩ := r1.owt p z
      rw [hp] at e
      cases e
  · exact q1.elim
end Pv
/-! Pv29: instances of own classes: attributes read and stored, methods, constructors. -/
namespace Pv
open PySem PySem.Spec L2
/-! ### attributes by their names -/
def putFD (f : Str) (v : D) : List (Str × D) → List (Str × D)
  | [] => [(f, v)]
  | (g, x) :: r => if g = f then (g, v) :: r else (g, x) :: putFD f v r
section
variable {K : PySem.W.Frag} {H : Hp} {Fx : Addr → Prop} {ι : Io}
theorem RepK.nil' : RepK (κ := Str) K H Fx ι [] [] := ⟨rfl, RepAll.nil⟩
theorem repK_cons {p : Str × D} {ds : List (Str × D)} {vs : List (Str × V)} (h : RepK K H Fx ι (p :: ds) vs) : ∃ v ws, vs = (p.1, v) :: ws ∧ Rep K H Fx ι p.2 v ∧ RepK K H Fx ι ds ws := by
  obtain ⟨h1, h2⟩ := h
  cases vs with
  | nil => simp at h1
  | cons w ws =>
    obtain ⟨g, v⟩ := w
    simp only [List.map_cons, List.cons.injEq] at h1
    simp only [List.map_cons, RepAll] at h2
    obtain ⟨v', r, e, q1, q2⟩ := h2
    cases e
    obtain ⟨rfl, h1⟩ := h1
    exact ⟨v, ws, rfl, q1, h1, q2⟩
theorem RepK.mk {p : Str} {d : D} {v : V} {ds : List (Str × D)} {ws : List (Str × V)} (h : Rep K H Fx ι d v) (t : RepK K H Fx ι ds ws) : RepK K H Fx ι ((p, d) :: ds) ((p, v) :: ws) := ⟨by simp only [List.map_cons]; rw [t.1], .cons h t.2⟩
theorem repK_lookup {f : Str} : ∀ {ds : List (Str × D)} {vs : List (Str × V)}, RepK K H Fx ι ds vs → (∀ d, ds.lookup f = some d → ∃ v, vs.lookup f = some v ∧ Rep K H Fx ι d v) ∧ (ds.lookup f = none → vs.lookup f = none)
  | [], vs, h => by
    have : vs = [] := by
      have := h.1
      simpa using this.symm
    subst this
    exact ⟨fun d e => (by cases e), fun _ => rfl⟩
  | (g, d) :: ds, vs, h => by
    obtain ⟨v, ws, rfl, q1, q2⟩ := repK_cons h
    obtain ⟨i1, i2⟩ := repK_lookup (f := f) q2
    by_cases e : f = g
    · subst e
      exact ⟨fun d' z => by
        simp only [List.lookup, beq_self_eq_true] at z ⊢
        cases z
        exact ⟨v, rfl, q1⟩, fun z => by simp [List.lookup] at z⟩
    · have e' : (f == g) = false := by simpa using e
      refine ⟨fun d' z => ?_, fun z => ?_⟩
      · simp only [List.lookup, e'] at z ⊢
        exact i1 d' z
      · simp only [List.lookup, e'] at z ⊢
        exact i2 z
theorem repK_put {f : Str} {d : D} {v : V} (hr : Rep K H Fx ι d v) : ∀ {ds : List (Str × D)} {vs : List (Str × V)}, RepK K H Fx ι ds vs → RepK K H Fx ι (putFD f d ds) (putF f v vs)
  | [], vs, h => by
    have : vs = [] := by
      have := h.1
      simpa using this.symm
    subst this
    exact .mk hr .nil'
  | (g, d') :: ds, vs, h => by
    obtain ⟨v', ws, rfl, q1, q2⟩ := repK_cons h
    unfold putFD putF
    by_cases e : g = f
    · rw [if_pos e, if_pos e]
      exact .mk hr q2
    · rw [if_neg e, if_neg e]
      exact .mk q1 (repK_put hr q2)
theorem repK_len {ds : List (Str × D)} {vs : List (Str × V)} (h : RepK K H Fx ι ds vs) : ds.length = vs.length := by
  have := congrArg List.length h.1
  simpa using this
end
/-! ### e.f -/
def mFld (T : List (Str × Str)) (f : Str) (g : M D) : M D := fun st => (g st).bind fun x st1 => match x with
  | .ref n => (match st1.mu[n]? with
    | some (.ins c kvs) => if (c, f) ∈ T then (match kvs.lookup f with
      | some d => .ok d st1
      | none => .bad) else .bad
    | _ => .bad)
  | _ => .bad
/-- what is known of classes: those of the table have no such name -/
def FldsOk (K : PySem.W.Frag) (mg : Str → Option Value) (T : List (Str × Str)) : Prop := ∀ c f, (c, f) ∈ T → ∀ C, mg c = some (.ref C) → Cls K C ∧ NoAttr K C f
section
variable {X : Cx} {W : WX} {e o v : Expr} {f : Str} {pos p : Pos} {g fo fv : M D} {T : List (Str × Str)}
theorem PEd.fld (hT : FldsOk X.K X.mg T) (he : PEd X W e g) (hb : attributeBase e f X.env (eval e X.env) = eval e X.env) : PEd X W (.Attribute e f pos) (mFld T f g) := PE.imp (pe_fld he hb) fun σ H Q h => by
  obtain ⟨Fx, ι, st, r, q⟩ := h
  refine ⟨Fx, ι, st, r, q.bind.imp fun x ι1 H1 st1 s1 r1 q1 w rw => ?_⟩
  split at q1
  · rename_i n
    split at q1
    · rename_i c kvs hn
      split at q1
      · rename_i hm
        split at q1
        · rename_i d hl
          obtain ⟨a, e1, i1⟩ := rep_ref rw
          obtain ⟨a', i2, C, dx, vs, hc, ha, hk⟩ := r1.ce n _ hn
          rw [i1] at i2
          cases i2
          obtain ⟨k1, k2⟩ := hT c f hm C hc
          obtain ⟨u, l1, l2⟩ := (repK_lookup (f := f) hk).1 d hl
          exact ⟨a, C, dx, vs, u, e1, ha, k1, k2, l1, q1.ok r1 u l2⟩
        · exact q1.elim
      · exact q1.elim
    · exact q1.elim
  · exact q1.elim
/-- e.f = v -/
def sFldS (T : List (Str × Str)) (f : Str) (fv fo : M D) : MS := fun st => (fv st).bind fun d st1 => (fo st1).bind fun x st2 => match x with
  | .ref n => (match st2.mu[n]? with
    | some (.ins c kvs) => if (c, f) ∈ T ∧ kvs.length < 1000 then .ok .nx ⟨st2.sl, st2.mu.set n (.ins c (putFD f d kvs))⟩ else .bad
    | _ => .bad)
  | _ => .bad
theorem PSd.fldS (hT : FldsOk X.K X.mg T) (hv : PEd X W v fv) (ho : PEd X W o fo) (hs : swapsWith v (some (.Attribute o f p)) pos.line X.env = pure false) : PSd X W (.Assign [.Attribute o f p] v pos) (sFldS T f fv fo) :=
  PS.imp (ps_fld ho hv hs) fun Dn σ H h => by
    obtain ⟨Fx, ι, st, r, q⟩ := h
    refine ⟨Fx, ι, st, r, (AftS.bind (σ := σ) q).imp fun d ι1 H1 st1 s1 r1 q1 x rx => ?_⟩
    refine ⟨Fx, ι1, st1, r1, (AftS.bind (σ := σ) q1).imp fun y ι2 H2 st2 s2 r2 q2 z rz => ?_⟩
    split at q2
    · rename_i n
      split at q2
      · rename_i c kvs hn
        split at q2
        · rename_i hm
          obtain ⟨hm, hl⟩ := hm
          obtain ⟨a, e1, i1⟩ := rep_ref rz
          obtain ⟨a', i2, C, dx, vs, hc, ha, hk⟩ := r2.ce n _ hn
          rw [i1] at i2
          cases i2
          obtain ⟨k1, k2⟩ := hT c f hm C hc
          have rp := repK_put (f := f) (Rep.car s2.car _ _ rx) hk
          have su := step_upd (H := H2) (o := .ins C dx (putF f x vs)) ⟨_, i1⟩
          refine ⟨a, C, dx, vs, e1, ha, k1, k2, by rw [← repK_len hk]; exact hl, ?_⟩
          exact q2 ι2 _ σ su (r2.ceset (List.getElem?_eq_some_iff.mp hn).1 i1 ⟨C, dx, _, hc, upd_same, RepK.car su.car rp⟩)
        · exact q2.elim
      · exact q2.elim
    · exact q2.elim
end
/-! ### calls -/
/-- a promise used, the arguments being there -/
theorem spD_of {g : Gx} {W : WX} {Fx : Addr → Prop} {ι : Io} {H : Hp} {σ : L2.St} {st : ES} {Q : VK} {n : Nat} {h : Fn} {ds : List D} {vs : List V} (hn : ∀ ds mu, ds.length ≠ n → h ds mu = .bad) (r : SRel g Fx ι H σ st) (rv : RepAll g.K H Fx ι ds vs)
    (q : Aft g W Fx ι H σ (mCall h (fun s => .ok ds s) st) fun d ι' H' _ => ∀ v, Rep g.K H' Fx ι' d v → Q v H') : spD g n h vs H Q (WE W σ) := by
  have q1 : Aft g W Fx ι H σ (match h ds st.mu with
    | .ok d s => .ok d ⟨st.sl, s.mu⟩
    | .er e s => .er e ⟨st.sl, s.mu⟩
    | .bad => .bad) fun d ι' H' _ => ∀ v, Rep g.K H' Fx ι' d v → Q v H' := q
  by_cases hl : ds.length = n
  · refine ⟨by rw [← rv.length]; exact hl, strange Fx ι, cells ι, ds, st.mu, r.callee, RepAll.car car_callee _ _ rv, ?_⟩
    cases e : h ds st.mu with
    | ok d s' =>
      rw [e] at q1
      intro ι2 H2 s2 r2 v rv2
      have rr := r.called s2 (st' := ⟨s'.sl, s'.mu⟩) r2
      exact q1 (join ι ι2) H2 (join_step s2) rr v (Rep.car (car_back fun b => mt_join b) _ _ rv2)
    | er e s' =>
      rw [e] at q1
      intro ι2 H2 cls dd s2 r2 hx
      have rr := r.called s2 (st' := ⟨s'.sl, s'.mu⟩) r2
      refine q1 (join ι ι2) H2 cls dd (join_step s2) rr ?_
      obtain ⟨C, z1, z2, z3⟩ := hx
      refine ⟨C, z1, z2, ?_⟩
      rcases z3 with z3 | ⟨a, fv, y1, y2, y3⟩
      · exact .inl z3
      · refine .inr ⟨a, fv, y1, y2, fun f x hf => ?_⟩
        obtain ⟨v, w1, w2⟩ := y3 f x hf
        exact ⟨v, w1, Rep.car (car_back fun b => mt_join b) _ _ w2⟩
    | bad =>
      rw [e] at q1
      exact q1.elim
  · rw [hn ds _ hl] at q1
    exact q1.elim
/-- o.m(..), an instance of the class c -/
def mMeth (c m : Str) (h : Fn) (fo : M D) (fs : M (List D)) : M D := fun st => (fo st).bind fun x st1 => match x with
  | .ref n => (match st1.mu[n]? with
    | some (.ins c' kvs) => if c' = c ∧ kvs.lookup m = none then (fs st1).bind fun ds st2 => mCall h (fun s => .ok (.ref n :: ds) s) st2 else .bad
    | _ => .bad)
  | _ => .bad
section
variable {X : Cx} {W : WX} {c m : Str} {h : Fn} {fo : M D} {fs : M (List D)} {C f : Addr} {fd : FuncData} {ps : List Str} {k : Nat} {o e : Expr} {es : List Expr} {apos pos : Pos} {pl : Sem Bool}
theorem tMeth_of {g : Gx} {σ : L2.St} {H : Hp} {Q : VK} {n : Nat} (hc : g.mg c = some (.ref C)) (hn : ∀ ds mu, ds.length ≠ n → h ds mu = .bad) (q : tE g W (mMeth c m h fo fs) σ H Q) : tMeth C m (spD g n h) [] (WE W σ) (tE g W fo) (tAs g W fs) σ H Q := by
  obtain ⟨Fx, ι, st, r, q⟩ := q
  refine ⟨Fx, ι, st, r, q.bind.imp fun x ι1 H1 st1 s1 r1 q1 w rw => ?_⟩
  split at q1
  · rename_i nn
    split at q1
    · rename_i c' kvs hm
      split at q1
      · rename_i hq
        obtain ⟨rfl, hl⟩ := hq
        obtain ⟨a, e1, i1⟩ := rep_ref rw
        obtain ⟨a', i2, C', dx, vs, hc', ha, hk⟩ := r1.ce nn _ hm
        rw [i1] at i2
        cases i2
        rw [hc] at hc'
        cases hc'
        subst e1
        refine ⟨a, dx, vs, rfl, ha, (repK_lookup (f := m) hk).2 hl, Fx, ι1, st1, r1, q1.bind.imp fun ds ι2 H2 st2 s2 r2 q2 us ru => ?_⟩
        show spD g n h (V.ref a :: (us ++ [])) H2 Q (WE W σ)
        rw [List.append_nil]
        refine spD_of hn r2 (RepAll.cons (d := .ref nn) ?_ ru) q2
        simp only [Rep]
        exact ⟨a, rfl, s2.ce nn a i1⟩
      · exact q1.elim
    · exact q1.elim
  · exact q1.elim
theorem pe_methE {CX : CXT} {E : L2.St → XK} {ta : TE} {t : TA} {sp : Sp} (he : PE X o ta) (cl : Cls X.K C) (hm : Meth X.K C m f) (F : FnOk X.prog X.w X.K X.mg X.base CX k f fd ps sp) (hr : Room k X.A) (hb : Binds X.K fd ps []) (hx : ∀ σ, PassesAt CX X σ (E σ)) (ha : PA X (e :: es) t)
    (hst : starEach (e :: es) X.env = (false, eval e X.env) :: starEach es X.env) (hpl : (backTo pos (starEach es X.env)).any (·.1) = false)
    (ht : eval (.Call (.Attribute o m apos) (e :: es) [] pos) X.env = (do
      let ov ← eval o X.env
      standAt apos.atName
      let (f, first) ← holding [ov] (getMethod ov m pl)
      callWith pos f first (backTo pos (starEach (e :: es) X.env)) (backToKw pos (keywordEach [] X.env)))) :
    PE X (.Call (.Attribute o m apos) (e :: es) [] pos) (fun σ H Q => tMeth C m sp [] (E σ) ta t σ H Q) := ⟨fun pins s σ H Q I h => by
  refine PySem.W.methodCall_KW (pl := pl) (thn (he.run pins s σ H _ I h) fun u s1 ⟨x, H1, I1, rx, a, dx, fs, ex, ea, l, q⟩ => ?_) ht
  subst ex
  cases rx
  refine getmeth_ok I1 ea cl hm l (PySem.W.callWith_K (first := [.ref a]) (h₀ := X.base) I.ok.mod.kin hm.kp (thn (ha.run pos pins s1 σ H1 _ I1 q) fun us s2 ⟨vs, H2, I2, r, q2⟩ => ⟨I2.kIn, ?_⟩) hst hpl)
  have q2 : sp (V.ref a :: (vs ++ [])) H2 Q (E σ) := q2
  rw [List.append_nil] at q2
  exact run_fnS (us := .ref a :: us) (vs := .ref a :: vs) F hr hb (hx σ) I2 (.cons rfl r) q2⟩
theorem pe_methE0 {CX : CXT} {E : L2.St → XK} {ta : TE} {sp : Sp} (he : PE X o ta) (cl : Cls X.K C) (hm : Meth X.K C m f) (F : FnOk X.prog X.w X.K X.mg X.base CX k f fd ps sp) (hr : Room k X.A) (hb : Binds X.K fd ps []) (hx : ∀ σ, PassesAt CX X σ (E σ))
    (ht : eval (.Call (.Attribute o m apos) [] [] pos) X.env = (do
      let ov ← eval o X.env
      standAt apos.atName
      let (f, first) ← holding [ov] (getMethod ov m pl)
      callWith pos f first (backTo pos (starEach [] X.env)) (backToKw pos (keywordEach [] X.env)))) :
    PE X (.Call (.Attribute o m apos) [] [] pos) (fun σ H Q => tMeth C m sp [] (E σ) ta tNil σ H Q) := ⟨fun pins s σ H Q I h => by
  refine PySem.W.methodCall_KW (pl := pl) (thn (he.run pins s σ H _ I h) fun u s1 ⟨x, H1, I1, rx, a, dx, fs, ex, ea, l, q⟩ => ?_) ht
  subst ex
  cases rx
  exact getmeth_ok I1 ea cl hm l (PySem.W.callWith_K0 (first := [.ref a]) I1.kIn hm.kp (run_fnS (us := [.ref a]) (vs := [.ref a]) F hr hb (hx σ) I1 (.cons rfl .nil) q))⟩
theorem PEd.meth (tk : L2N.Takes X W) (hc : X.mg c = some (.ref C)) (cl : Cls X.K C) (hm : Meth X.K C m f) (F : FnOk X.prog X.w X.K X.mg X.base (L2N.CX X.prog X.w) k f fd ps (spD (gx X) ps.length h)) (hn : ∀ ds mu, ds.length ≠ ps.length → h ds mu = .bad) (hr : Room k X.A) (hb : Binds X.K fd ps [])
    (ho : PEd X W o fo) (ha : PAd X W (e :: es) fs) (hst : starEach (e :: es) X.env = (false, eval e X.env) :: starEach es X.env) (hpl : (backTo pos (starEach es X.env)).any (·.1) = false)
    (ht : eval (.Call (.Attribute o m apos) (e :: es) [] pos) X.env = (do
      let ov ← eval o X.env
      standAt apos.atName
      let (f, first) ← holding [ov] (getMethod ov m pl)
      callWith pos f first (backTo pos (starEach (e :: es) X.env)) (backToKw pos (keywordEach [] X.env)))) :
    PEd X W (.Call (.Attribute o m apos) (e :: es) [] pos) (mMeth c m h fo fs) := ⟨fun pins s σ H Q I q =>
  (pe_methE (pl := pl) ho cl hm F hr hb (fun σ => L2N.passAt tk σ) ha hst hpl ht).run pins s σ H Q I (tMeth_of hc hn q)⟩
theorem PEd.meth0 (tk : L2N.Takes X W) (hc : X.mg c = some (.ref C)) (cl : Cls X.K C) (hm : Meth X.K C m f) (F : FnOk X.prog X.w X.K X.mg X.base (L2N.CX X.prog X.w) k f fd ps (spD (gx X) ps.length h)) (hn : ∀ ds mu, ds.length ≠ ps.length → h ds mu = .bad) (hr : Room k X.A) (hb : Binds X.K fd ps [])
    (ho : PEd X W o fo)
    (ht : eval (.Call (.Attribute o m apos) [] [] pos) X.env = (do
      let ov ← eval o X.env
      standAt apos.atName
      let (f, first) ← holding [ov] (getMethod ov m pl)
      callWith pos f first (backTo pos (starEach [] X.env)) (backToKw pos (keywordEach [] X.env)))) :
    PEd X W (.Call (.Attribute o m apos) [] [] pos) (mMeth c m h fo mNil) := ⟨fun pins s σ H Q I q => by
  refine (pe_methE0 (pl := pl) ho cl hm F hr hb (fun σ => L2N.passAt tk σ) ht).run pins s σ H Q I ?_
  obtain ⟨Fx, ι, st, r, q1⟩ := tMeth_of (fs := mNil) hc hn q
  refine ⟨Fx, ι, st, r, q1.imp fun x ι1 H1 st1 s1 r1 q2 w rw => ?_⟩
  obtain ⟨a, dx, vs, e1, e2, e3, e4⟩ := q2 w rw
  refine ⟨a, dx, vs, e1, e2, e3, ?_⟩
  obtain ⟨Fx2, ι2, st2, r2, q3⟩ := e4
  exact q3.ok r2 [] .nil⟩
/-- C(..): a new instance, then __init__ -/
def mMake (c : Str) (h : Fn) (fs : M (List D)) : M D := fun st => (fs st).bind fun ds st1 => (mCall h (fun s => .ok (.ref st1.mu.length :: ds) s) ⟨st1.sl, st1.mu ++ [.ins c []]⟩).bind fun d st2 => match d with
  | .non => .ok (.ref st1.mu.length) st2
  | _ => .bad
theorem tMake_of {g : Gx} {σ : L2.St} {H : Hp} {Q : VK} {n : Nat} (hc : g.mg c = some (.ref C)) (hn : ∀ ds mu, ds.length ≠ n → h ds mu = .bad) (q : tE g W (mMake c h fs) σ H Q) : tMake C (spD g n h) [] (WE W σ) (tAs g W fs) σ H Q := by
  obtain ⟨Fx, ι, st, r, q⟩ := q
  refine ⟨Fx, ι, st, r, q.bind.imp fun ds ι1 H1 st1 s1 r1 q1 vs rv x dx hx hdx hne => ?_⟩
  rw [List.append_nil]
  have nf : ∀ {p : Addr}, H1 p = none → ¬ Fx p := fun {p} hp z => by
    obtain ⟨o, e⟩ := r1.fxt p z
    rw [hp] at e
    cases e
  let H2 := upd H1 dx (.own x)
  let H3 := upd H2 x (.ins C dx [])
  have g1 : Grow H1 H2 := Grow.new hdx
  have hx2 : H2 x = none := by
    show upd H1 dx (.own x) x = none
    rw [upd_ne (fun z => hne z.symm)]
    exact hx
  have r2 := (r1.same g1).apart (o := .ins C dx []) hx2
  have g2 : Grow H2 H3 := Grow.new hx2
  have c3 : CellAt g H3 (fun b => Fx b ∨ b = x) ι1 x (.ins c []) := ⟨C, dx, [], hc, upd_same, RepK.nil'⟩
  have r3 := r2.cell (nf hx) c3
  have st13 : Step ι1 H1 (own ι1 (.inr st1.mu.length) x) H3 := ⟨fun b o z _ => g2 _ _ (g1 _ _ z), fun b z => by
    rcases ow_own z with z | z
    · subst z; exact .inr hx
    · exact .inl z, fun nn b z => by
    have := r1.domc nn b z
    unfold own
    rw [if_neg (fun z => by have := Sum.inr.inj z; omega)]
    exact z, fun b o z => ⟨o, g2 _ _ (g1 _ _ z)⟩⟩
  have self : own ι1 (.inr st1.mu.length) x (.inr st1.mu.length) = some x := by
    unfold own
    rw [if_pos rfl]
  refine spD_of hn r3 (RepAll.cons (d := .ref st1.mu.length) ?_ (RepAll.car st13.car _ _ rv)) ?_
  · simp only [Rep]
    exact ⟨x, rfl, self⟩
  · have q2 := q1.later st13
    refine q2.bind.imp fun d ι4 H4 st4 s4 r4 q4 v rv4 => ?_
    split at q4
    · cases rep_non rv4
      refine ⟨rfl, q4.ok r4 (.ref x) ?_⟩
      simp only [Rep]
      exact ⟨x, rfl, s4.ce _ _ self⟩
    · exact q4.elim
theorem run_makeE {CX : CXT} {E : L2.St → XK} {sp : Sp} {pins : List (Addr × Obj)} {σ : L2.St} {H : Hp} {s : Shared} {Q : VK} {us : List Value} {vs : List V} (M : Mk X.K C f) (F : FnOk X.prog X.w X.K X.mg X.base CX k f fd ps sp) (hr : Room (k + 1) X.A) (hb : Binds X.K fd ps [])
    (hx : PassesAt CX X σ (E σ)) (I : Inv X pins σ H s) (r : Vals vs us)
    (h : ∀ x dx, H x = none → H dx = none → dx ≠ x → sp (.ref x :: (vs ++ [])) (upd (upd H dx (.own x)) x (.ins C dx [])) (fun v H2 => v = .non ∧ Q (.ref x) H2) (E σ)) :
    wpAny (model X.prog X.w) X.A (call (.ref C) us) (EP X pins σ Q) X.xe s := by
  have hq := h (s.heap.objs.size + 1) s.heap.objs.size (I.hok.fresh (Nat.le_succ _)) (I.hok.fresh (Nat.le_refl _)) (Nat.ne_of_lt (Nat.lt_succ_self _))
  rw [List.append_nil] at hq
  have I2 := Inv.made (C := C) I
  have r2 : Vals (V.ref (s.heap.objs.size + 1) :: vs) (Value.ref (s.heap.objs.size + 1) :: us) := .cons rfl r
  have hl : (Value.ref (s.heap.objs.size + 1) :: us ++ []).length = ps.length := by
    rw [List.append_nil, ← r2.length]
    exact F.len _ _ _ _ hq
  have b := hb _ (Value.ref (s.heap.objs.size + 1) :: us) I2.kIn hl
  rw [List.append_nil] at b
  refine wpAny_call (make_map (f := f) I.kIn M.makes M.init (beq_iff_eq.mp M.fn) (codeAny_mono (F.run _ X.stack _ _ ⟨Value.ref (s.heap.objs.size + 1) :: us, []⟩ (Value.ref (s.heap.objs.size + 1) :: us) _ _ (E σ) (hr.make C us []) (I2.env0.make C us []) b r2 hq) fun res s' hq' => ?_))
  cases res with
  | error e => exact hx pins _ _ e s' I2 hq'
  | ok fl =>
    cases fl with
    | ret u =>
      obtain ⟨v, H', I3, rv, ev, q3⟩ := I2.after hq'
      subst ev
      exact ⟨rv, ⟨V.ref (s.heap.objs.size + 1), H', I3, rfl, q3⟩⟩
    | next => exact False.elim hq'
    | brk => exact False.elim hq'
    | cont => exact False.elim hq'
theorem PEd.make {x : Str} {p : Pos} (tk : L2N.Takes X W) (M : Mk X.K C f) (F : FnOk X.prog X.w X.K X.mg X.base (L2N.CX X.prog X.w) k f fd ps (spD (gx X) ps.length h)) (hn : ∀ ds mu, ds.length ≠ ps.length → h ds mu = .bad) (hr : Room (k + 1) X.A) (hg : Gl X x) (hm : X.mg x = some (.ref C)) (hb : Binds X.K fd ps [])
    (ha : PAd X W (e :: es) fs) (hdb : (x == ("__debug__" : Str)) = false) (he : starEach (e :: es) X.env = (false, eval e X.env) :: starEach es X.env) (hpl : (backTo pos (starEach es X.env)).any (·.1) = false) :
    PEd X W (.Call (.Name x p) (e :: es) [] pos) (mMake x h fs) := ⟨fun pins s σ H Q I q => by
  refine wpAny_Call_Name_kw (ld_glob I hg hm ?_ hdb)
  refine PySem.W.callWith_K (h₀ := X.base) I.ok.mod.kin M.kp (thn (ha.run pos pins s σ H _ I (tMake_of (C := C) hm hn q)) fun us s1 ⟨vs, H1, I1, r, q1⟩ => ⟨I1.kIn, ?_⟩) he hpl
  exact run_makeE (E := WE W) M F hr hb (L2N.passAt tk σ) I1 r q1⟩
theorem PEd.make0 {x : Str} {p : Pos} (tk : L2N.Takes X W) (M : Mk X.K C f) (F : FnOk X.prog X.w X.K X.mg X.base (L2N.CX X.prog X.w) k f fd ps (spD (gx X) ps.length h)) (hn : ∀ ds mu, ds.length ≠ ps.length → h ds mu = .bad) (hr : Room (k + 1) X.A) (hg : Gl X x) (hm : X.mg x = some (.ref C)) (hb : Binds X.K fd ps [])
    (hdb : (x == ("__debug__" : Str)) = false) : PEd X W (.Call (.Name x p) [] [] pos) (mMake x h mNil) := ⟨fun pins s σ H Q I q => by
  refine wpAny_Call_Name_kw (ld_glob I hg hm ?_ hdb)
  refine PySem.W.callWith_K0 I.kIn M.kp (run_makeE (E := WE W) (us := []) M F hr hb (L2N.passAt tk σ) I .nil ?_)
  obtain ⟨Fx, ι, st, r, q1⟩ := tMake_of (C := C) (fs := mNil) hm hn q
  exact q1.ok r [] .nil⟩
end
end Pv
/-! Pv30 (between Pv29 and Pv10): == through dicts, in a dict, dict(x), x[::-1], a def picked out of a list. -/
namespace Pv
open PySem PySem.Spec L2 PyProof.Rows
/-! ### == of what holds dicts -/
section
/-- equal, of nesting below n -/
def EqU (K : PySem.W.Frag) (H : Hp) : Nat → V → V → Prop
  | 0 => fun _ _ => False
  | n + 1 => fun x y => (∃ d e, Dp K H x d ∧ Dp K H y e ∧ SeqAt.shaped d = true ∧ SeqAt.shaped e = true ∧ d.depth ≤ 60 ∧ PyData.eqv d e = true) ∨ (∃ a, x = .ref a ∧ y = .ref a) ∨ EqR K H (EqU K H n) x y
variable {X : Cx} {pins : List (Addr × Obj)} {σ : L2.St} {H : Hp} {s : Shared}
theorem eqU_run (I : Inv X pins σ H s) : ∀ (n : Nat) (A : Around), A.units + n + 60 < cLine → ∀ (x y : V) (v u : Value), EqU X.K H n x y → RelV x v → RelV y u → SeqAt.EqP X.prog X.w A s v u true
  | 0, _, _, _, _, _, _, h, _, _ => (show False from h).elim
  | n + 1, A, hu, x, y, v, u, h, rx, ry => by
    rcases h with ⟨d, e, hd, he, sd, se, dd, f⟩ | ⟨a, rfl, rfl⟩ | h
    · obtain ⟨as, r1⟩ := Dp.reads I d x v hd rx
      obtain ⟨bs, r2⟩ := Dp.reads I e y u he ry
      have z := SeqAt.eqAt_reads d e A s v u as bs r1 r2 (SeqAt.canLay_of_shaped sd) (SeqAt.canLay_of_shaped se) (by have : min d.depth e.depth ≤ d.depth := Nat.min_le_left _ _; omega)
      rw [f] at z
      exact z.eqP
    · cases (show v = Value.ref a from rx)
      cases (show u = Value.ref a from ry)
      exact (SeqAt.EqAt.same _).eqP
    · have step := eqR_run I (A := A) (by omega) (eqU_run I n A.in1 (by show A.units + 1 + n + 60 < cLine; omega)) h rx ry
      obtain ⟨a, b, rfl, rfl⟩ : ∃ a b, x = .ref a ∧ y = .ref b := by
        rcases h with ⟨a, b, _, _, e1, e2, _⟩ | ⟨a, b, _, _, e1, e2, _⟩
        · exact ⟨a, b, e1, e2⟩
        · exact ⟨a, b, e1, e2⟩
      cases (show v = Value.ref a from rx)
      cases (show u = Value.ref b from ry)
      by_cases e : a = b
      · subst e
        exact (SeqAt.EqAt.same _).eqP
      · exact SeqAt.eqP_refs e step
theorem op_eqU {X : Cx} (hu : X.A.units + 65 < cLine) : OpR X (compareOp .Eq) (fun x y H Q => EqR X.K H (EqU X.K H 4) x y ∧ Q (.bl true) H) := by
  intro pins s σ H x y v u Q I rx ry h
  obtain ⟨h, q⟩ := h
  exact eqR_run I (A := X.A) (by omega) (eqU_run I 4 X.A.in1 (by show X.A.units + 1 + 4 + 60 < cLine; omega)) h rx ry _ _ ⟨.bl true, H, I, rfl, q⟩
end
def sameRef : D → D → Bool
  | .ref n, .ref m => decide (n = m)
  | _, _ => false
def lstC (mu : List Cell) : D → Option (List D)
  | .lst xs => some xs
  | .ref n => (match mu[n]? with
    | some (.lst xs) => some xs
    | _ => none)
  | _ => none
def dctC (mu : List Cell) : D → Option (List (Key × D))
  | .ref n => (match mu[n]? with
    | some (.dct xs) => some xs
    | _ => none)
  | _ => none
def eqRB (mu : List Cell) (F : D → D → Bool) (x y : D) : Bool :=
  (match lstC mu x, lstC mu y with
  | some xs, some ys => decide (xs.length = ys.length) && (xs.zip ys).all fun p => F p.1 p.2
  | _, _ => false) || (match dctC mu x, dctC mu y with
  | some ks, some ls => decide (ks.length = ls.length) && ks.all fun p => (match valD ls p.1 with
    | some u => F p.2 u
    | none => false)
  | _, _ => false)
def eqUB (mu : List Cell) : Nat → D → D → Bool
  | 0 => fun _ _ => false
  | n + 1 => fun x y => (canEq x && canEq y && eqv x y) || sameRef x y || eqRB mu (eqUB mu n) x y
section
variable {g : Gx} {Fx : Addr → Prop} {ι : Io} {H : Hp} {σ : L2.St} {st : ES}
theorem lstC_rep (r : SRel g Fx ι H σ st) {d : D} {v : V} {xs : List D} (h : Rep g.K H Fx ι d v) (e : lstC st.mu d = some xs) : ∃ a vs, v = .ref a ∧ H a = some (.lst vs) ∧ RepAll g.K H Fx ι xs vs := by
  unfold lstC at e
  split at e
  · cases e
    exact repB_lst (.inl h)
  · split at e
    · rename_i hm
      cases e
      obtain ⟨a, e1, h1⟩ := rep_ref h
      obtain ⟨b, k1, vs, k2, k3⟩ := r.ce _ _ hm
      rw [h1] at k1
      cases k1
      exact ⟨a, vs, e1, k2, k3⟩
    · cases e
  · cases e
theorem dctC_rep (r : SRel g Fx ι H σ st) {d : D} {v : V} {xs : List (Key × D)} (h : Rep g.K H Fx ι d v) (e : dctC st.mu d = some xs) : ∃ a vs, v = .ref a ∧ H a = some (.dK vs) ∧ RepK g.K H Fx ι xs vs := by
  unfold dctC at e
  split at e
  · split at e
    · rename_i hm
      cases e
      obtain ⟨a, e1, h1⟩ := rep_ref h
      obtain ⟨b, k1, vs, k2, k3⟩ := r.ce _ _ hm
      rw [h1] at k1
      cases k1
      exact ⟨a, vs, e1, k2, k3⟩
    · cases e
  · cases e
theorem paired_of {F : D → D → Bool} {E : V → V → Prop} (hF : ∀ x y v u, F x y = true → Rep g.K H Fx ι x v → Rep g.K H Fx ι y u → E v u) : ∀ {xs ys : List D} {vs us : List V}, xs.length = ys.length → ((xs.zip ys).all fun p => F p.1 p.2) = true → RepAll g.K H Fx ι xs vs → RepAll g.K H Fx ι ys us → Paired E vs us
  | [], [], vs, us, _, _, h1, h2 => by
    simp only [RepAll] at h1 h2
    subst h1 h2
    exact .nil
  | x :: xs, y :: ys, vs, us, hl, h, h1, h2 => by
    simp only [RepAll] at h1 h2
    obtain ⟨v, r1, rfl, a1, b1⟩ := h1
    obtain ⟨u, r2, rfl, a2, b2⟩ := h2
    simp only [List.zip_cons_cons, List.all_cons, Bool.and_eq_true] at h
    exact .cons (hF _ _ _ _ h.1 a1 a2) (paired_of hF (by simpa using hl) h.2 b1 b2)
  | [], _ :: _, _, _, hl, _, _, _ => by cases hl
  | _ :: _, [], _, _, hl, _, _, _ => by cases hl
theorem repK_mem : ∀ {ds : List (Key × D)} {vs : List (Key × V)}, RepK g.K H Fx ι ds vs → ∀ p ∈ vs, ∃ d, (p.1, d) ∈ ds ∧ Rep g.K H Fx ι d p.2
  | [], vs, h, p, hp => by
    rw [h.nil_inv] at hp
    cases hp
  | d :: ds, vs, h, p, hp => by
    obtain ⟨v, ws, rfl, a, b⟩ := h.cons_inv
    rcases List.mem_cons.mp hp with rfl | hp
    · exact ⟨d.2, List.mem_cons_self, a⟩
    · obtain ⟨d', h1, h2⟩ := repK_mem b p hp
      exact ⟨d', List.mem_cons_of_mem _ h1, h2⟩
theorem eqR_of (r : SRel g Fx ι H σ st) {F : D → D → Bool} {E : V → V → Prop} (hF : ∀ x y v u, F x y = true → Rep g.K H Fx ι x v → Rep g.K H Fx ι y u → E v u) {x y : D} {v u : V} (h : eqRB st.mu F x y = true) (hx : Rep g.K H Fx ι x v) (hy : Rep g.K H Fx ι y u) : EqR g.K H E v u := by
  unfold eqRB at h
  rw [Bool.or_eq_true] at h
  rcases h with h | h
  · split at h
    · rename_i xs ys e1 e2
      rw [Bool.and_eq_true] at h
      obtain ⟨a, vs, e3, h3, r3⟩ := lstC_rep r hx e1
      obtain ⟨b, us, e4, h4, r4⟩ := lstC_rep r hy e2
      exact .inl ⟨a, b, vs, us, e3, e4, SqL.of h3, SqL.of h4, paired_of hF (of_decide_eq_true h.1) h.2 r3 r4⟩
    · cases h
  · split at h
    · rename_i ks ls e1 e2
      rw [Bool.and_eq_true] at h
      obtain ⟨a, vs, e3, h3, r3⟩ := dctC_rep r hx e1
      obtain ⟨b, us, e4, h4, r4⟩ := dctC_rep r hy e2
      refine .inr ⟨a, b, vs, us, e3, e4, h3, h4, by rw [← r3.len, ← r4.len]; exact of_decide_eq_true h.1, fun p hp => ?_⟩
      obtain ⟨d, hd, rd⟩ := repK_mem r3 p hp
      have z := List.all_eq_true.mp h.2 _ hd
      cases ev : valD ls p.1 with
      | none => simp [ev] at z
      | some w =>
        simp only [ev] at z
        obtain ⟨w', k1, k2⟩ := (r4.val (k := p.1)).1 w ev
        exact ⟨w', k1, hF _ _ _ _ z rd k2⟩
    · cases h
theorem eqU_of (r : SRel g Fx ι H σ st) : ∀ (n : Nat) {x y : D} {v u : V}, eqUB st.mu n x y = true → Rep g.K H Fx ι x v → Rep g.K H Fx ι y u → EqU g.K H n v u
  | 0, x, y, v, u, h, _, _ => by cases h
  | n + 1, x, y, v, u, h, hx, hy => by
    have h' : ((canEq x && canEq y && eqv x y) || sameRef x y || eqRB st.mu (eqUB st.mu n) x y) = true := h
    rw [Bool.or_eq_true, Bool.or_eq_true] at h'
    rcases h' with (h' | h') | h'
    · rw [Bool.and_eq_true, Bool.and_eq_true] at h'
      obtain ⟨a1, a2⟩ := shaped_of hx h'.1.1
      obtain ⟨b1, b2⟩ := shaped_of hy h'.1.2
      refine .inl ⟨_, _, a1, b1, a2, b2, ?_, h'.2⟩
      have z := h'.1.1
      unfold canEq at z
      simp only [Bool.and_eq_true, decide_eq_true_eq] at z
      rw [dep_of]
      exact z.2
    · unfold sameRef at h'
      split at h'
      · have e := of_decide_eq_true h'
        subst e
        obtain ⟨a, e1, i1⟩ := rep_ref hx
        obtain ⟨b, e2, i2⟩ := rep_ref hy
        rw [i1] at i2
        cases i2
        exact .inr (.inl ⟨a, e1, e2⟩)
      · cases h'
    · exact .inr (.inr (eqR_of r (fun x y v u q a b => eqU_of r n q a b) h' hx hy))
end
/-- two tuples of the same atoms and cells -/
def sameA : D → D → Bool
  | .non, .non => true
  | .bl a, .bl b => decide (a = b)
  | .int a, .int b => decide (a = b)
  | .str a, .str b => decide (a = b)
  | .ref a, .ref b => decide (a = b)
  | _, _ => false
def sameT : D → D → Bool
  | .tup xs, .tup ys => decide (xs.length = ys.length) && (xs.zip ys).all fun p => sameA p.1 p.2
  | _, _ => false
/-- two lists of unlike lengths -/
def lenDiff (mu : List Cell) (x y : D) : Bool := match lstC mu x, lstC mu y with
  | some xs, some ys => decide (xs.length ≠ ys.length)
  | _, _ => false
theorem lenDiff_rep {g : Gx} {Fx : Addr → Prop} {ι : Io} {H : Hp} {σ : L2.St} {st : ES} (r : SRel g Fx ι H σ st) {x y : D} {v u : V} (h : lenDiff st.mu x y = true) (hx : Rep g.K H Fx ι x v) (hy : Rep g.K H Fx ι y u) : ∃ a b vs us, v = .ref a ∧ u = .ref b ∧ SqL g.K H a vs ∧ SqL g.K H b us ∧ vs.length ≠ us.length := by
  unfold lenDiff at h
  split at h
  · rename_i xs ys e1 e2
    obtain ⟨a, vs, e3, h3, r3⟩ := lstC_rep r hx e1
    obtain ⟨b, us, e4, h4, r4⟩ := lstC_rep r hy e2
    exact ⟨a, b, vs, us, e3, e4, SqL.of h3, SqL.of h4, by rw [← r3.length, ← r4.length]; exact of_decide_eq_true h⟩
  · cases h
def dEqW (mu : List Cell) (x y : D) : Option D := if eqRB mu (eqUB mu 4) x y = true then some (.bl true) else if lenDiff mu x y = true then some (.bl false) else dEqL mu x y
def dNeW (mu : List Cell) (x y : D) : Option D := if sameT x y = true then some (.bl false) else if lenDiff mu x y = true then some (.bl true) else dNeL mu x y
def dInW (mu : List Cell) (x y : D) : Option D := match dctC mu y, keyD x with
  | some kvs, some k => some (.bl (valD kvs k).isSome)
  | _, _ => dIn mu x y
def dCmpW : CmpOp → List Cell → D → D → Option D
  | .Eq => dEqW
  | .NotEq => dNeW
  | .In => dInW
  | op => dCmpL op
theorem opEqW {X : Cx} (hu : X.A.units + 65 < cLine) : Op2 X (compareOp .Eq) dEqW := by
  intro pins s σ H x y v u Q I rx ry h'
  obtain ⟨Fx, ι, σ', st, dx, dy, d, r, hx, hy, e, q⟩ := h'
  unfold dEqW at e
  split at e
  · rename_i hs
    cases e
    exact op_eqU hu pins s σ H _ _ v u Q I rx ry ⟨eqR_of r (fun x y v u q a b => eqU_of r 4 q a b) hs hx hy, q _ H (Grow.refl H) mk_bl⟩
  · split at e
    · rename_i hd
      cases e
      obtain ⟨a, b, vs, us, e1, e2, h1, h2, hl⟩ := lenDiff_rep r hd hx hy
      subst e1 e2
      cases (show v = Value.ref a from rx)
      cases (show u = Value.ref b from ry)
      obtain ⟨ws, r1, p1, _⟩ := I.list h1
      obtain ⟨zs, r2, p2, _⟩ := I.list h2
      have z := SeqAt.RcAt.lists_lengths p1.isList p2.isList (by rw [List.size_toArray, List.size_toArray, ← r1.length, ← r2.length]; simpa using hl) (show X.A.units < cLine by omega)
      exact z X.prog X.w X.xe _ ⟨.bl false, H, I, rfl, q _ H (Grow.refl H) mk_bl⟩
    · exact opEqL (by omega) pins s σ H _ _ v u Q I rx ry ⟨Fx, ι, σ', st, dx, dy, d, r, hx, hy, e, q⟩
theorem sameA_at {g : Gx} {Fx : Addr → Prop} {ι : Io} {H : Hp} {A : Around} {s : Shared} {x y : D} {v u : V} {v' u' : Value} (h : sameA x y = true) (hx : Rep g.K H Fx ι x v) (hy : Rep g.K H Fx ι y u) (rx : RelV v v') (ry : RelV u u') : SeqAt.EqAt A s v' u' true := by
  unfold sameA at h
  split at h
  · cases rep_non hx
    cases rep_non hy
    exact eqAt_same rx ry rfl
  · have e := of_decide_eq_true h
    subst e
    cases rep_bl hx
    cases rep_bl hy
    exact eqAt_same rx ry rfl
  · have e := of_decide_eq_true h
    subst e
    cases rep_int hx
    cases rep_int hy
    exact eqAt_same rx ry rfl
  · have e := of_decide_eq_true h
    subst e
    obtain ⟨e1, _⟩ := rep_str hx
    obtain ⟨e2, _⟩ := rep_str hy
    subst e1 e2
    exact eqAt_same rx ry rfl
  · have e := of_decide_eq_true h
    subst e
    obtain ⟨a, e1, i1⟩ := rep_ref hx
    obtain ⟨b, e2, i2⟩ := rep_ref hy
    rw [i1] at i2
    cases i2
    subst e1 e2
    cases (show v' = Value.ref a from rx)
    cases (show u' = Value.ref a from ry)
    exact SeqAt.EqAt.same _
  · cases h
theorem sameT_items {g : Gx} {Fx : Addr → Prop} {ι : Io} {H : Hp} {A : Around} {s : Shared} : ∀ {xs ys : List D} {vs us : List V} {vs' us' : List Value}, xs.length = ys.length → ((xs.zip ys).all fun p => sameA p.1 p.2) = true → RepAll g.K H Fx ι xs vs → RepAll g.K H Fx ι ys us → Vals vs vs' → Vals us us' →
    ∀ j (h1 : j < vs'.length) (h2 : j < us'.length), SeqAt.EqAt A s vs'[j] us'[j] true
  | [], _, vs, us, vs', us', _, _, h1, _, r1, _, j, z1, _ => by
    simp only [RepAll] at h1
    subst h1
    cases r1
    exact absurd z1 (Nat.not_lt_zero j)
  | x :: xs, [], _, _, _, _, hl, _, _, _, _, _, _, _, _ => by cases hl
  | x :: xs, y :: ys, vs, us, vs', us', hl, h, h1, h2, r1, r2, j, z1, z2 => by
    simp only [RepAll] at h1 h2
    obtain ⟨v, t1, rfl, a1, b1⟩ := h1
    obtain ⟨u, t2, rfl, a2, b2⟩ := h2
    cases r1 with
    | cons c1 d1 =>
      cases r2 with
      | cons c2 d2 =>
        simp only [List.zip_cons_cons, List.all_cons, Bool.and_eq_true] at h
        cases j with
        | zero => exact sameA_at h.1 a1 a2 c1 c2
        | succ j => exact sameT_items (by simpa using hl) h.2 b1 b2 d1 d2 j (Nat.lt_of_succ_lt_succ z1) (Nat.lt_of_succ_lt_succ z2)
theorem opNeW {X : Cx} (hu : X.A.units + 65 < cLine) : Op2 X (compareOp .NotEq) dNeW := by
  intro pins s σ H x y v u Q I rx ry h'
  obtain ⟨Fx, ι, σ', st, dx, dy, d, r, hx, hy, e, q⟩ := h'
  unfold dNeW at e
  split at e
  · rename_i hs
    cases e
    unfold sameT at hs
    split at hs
    · rename_i xs ys
      rw [Bool.and_eq_true] at hs
      obtain ⟨a, vs, e1, t1, p1⟩ := rep_tup hx
      obtain ⟨b, us, e2, t2, p2⟩ := rep_tup hy
      subst e1 e2
      cases (show v = Value.ref a from rx)
      cases (show u = Value.ref b from ry)
      obtain ⟨ws, rw1, q1, _⟩ := I.tuple t1.sq
      obtain ⟨zs, rz1, q2, _⟩ := I.tuple t2.sq
      have hl : ws.length = zs.length := by rw [← rw1.length, ← rz1.length, ← p1.length, ← p2.length]; exact of_decide_eq_true hs.1
      have it : ∀ j (h1 : j < ws.toArray.size) (h2 : j < zs.toArray.size), SeqAt.EqAt X.A.in1 s ws.toArray[j] zs.toArray[j] ((fun _ => true) j) := fun j h1 h2 => by
        have := sameT_items (g := gx X) (A := X.A.in1) (s := s) (of_decide_eq_true hs.1) hs.2 p1 p2 rw1 rz1 j (by simpa using h1) (by simpa using h2)
        simpa using this
      have z := SeqAt.RcNeAt.tuples (e := fun _ => true) q1 q2 (show X.A.units < cLine by omega) it
      have ez : (!((List.range (min ws.toArray.size zs.toArray.size)).all (fun _ => true) && ws.toArray.size == zs.toArray.size)) = false := by
        rw [show ((List.range (min ws.toArray.size zs.toArray.size)).all fun _ => true) = true from List.all_eq_true.mpr fun _ _ => rfl]
        simp [hl]
      rw [ez] at z
      exact z X.prog X.w X.xe _ ⟨.bl false, H, I, rfl, q _ H (Grow.refl H) mk_bl⟩
    · cases hs
  · split at e
    · rename_i hd
      cases e
      obtain ⟨a, b, vs, us, e1, e2, h1, h2, hl⟩ := lenDiff_rep r hd hx hy
      subst e1 e2
      cases (show v = Value.ref a from rx)
      cases (show u = Value.ref b from ry)
      obtain ⟨ws, r1, p1, _⟩ := I.list h1
      obtain ⟨zs, r2, p2, _⟩ := I.list h2
      have z := SeqAt.RcNeAt.lists_lengths p1.isList p2.isList (by rw [List.size_toArray, List.size_toArray, ← r1.length, ← r2.length]; simpa using hl) (show X.A.units < cLine by omega)
      exact z X.prog X.w X.xe _ ⟨.bl true, H, I, rfl, q _ H (Grow.refl H) mk_bl⟩
    · exact opNeL (by omega) pins s σ H _ _ v u Q I rx ry ⟨Fx, ι, σ', st, dx, dy, d, r, hx, hy, e, q⟩
theorem opInW {X : Cx} (hu : X.A.units + 65 < cLine) : Op2 X (compareOp .In) dInW := by
  intro pins s σ H x y v u Q I rx ry h'
  obtain ⟨Fx, ι, σ', st, dx, dy, d, r, hx, hy, e, q⟩ := h'
  unfold dInW at e
  split at e
  · rename_i kvs k e1 e2
    cases e
    obtain ⟨a, ws, e3, h3, r3⟩ := dctC_rep r hy e1
    subst e3
    cases (show u = Value.ref a from ry)
    have ev : (valV ws k).isSome = (valD kvs k).isSome := by
      obtain ⟨k1, k2⟩ := r3.val (k := k)
      cases z : valD kvs k with
      | none =>
        rw [k2 z]
        rfl
      | some w =>
        obtain ⟨w', z1, _⟩ := k1 w z
        rw [z1]
        rfl
    refine d_in (by omega) I (DGet.k h3) (by rw [← key_rep hx e2]; exact rx) fun s' I' => ⟨.bl (valV ws k).isSome, H, I', rfl, ?_⟩
    rw [ev]
    exact q _ H (Grow.refl H) mk_bl
  · exact opCmp (op := .In) (by omega) pins s σ H _ _ v u Q I rx ry ⟨Fx, ι, σ', st, dx, dy, d, r, hx, hy, e, q⟩
theorem opCmpW {X : Cx} (hu : X.A.units + 65 < cLine) : ∀ op, Op2 X (compareOp op) (dCmpW op)
  | .Eq => opEqW hu
  | .NotEq => opNeW hu
  | .In => opInW hu
  | .Lt => opCmpL (by omega) _
  | .LtE => opCmpL (by omega) _
  | .Gt => opCmpL (by omega) _
  | .GtE => opCmpL (by omega) _
  | .Is => opCmpL (by omega) _
  | .IsNot => opCmpL (by omega) _
  | .NotIn => opCmpL (by omega) _
/-- how a comparison is taken -/
def cmpOf (m : Nat) (op : CmpOp) : List Cell → D → D → Option D := if m = 9 then dCmpW op else if m = 8 then dCmpM op else if m = 5 then dCmpL op else dCmp op
theorem opCmpOf {X : Cx} (hu : X.A.units + 65 < cLine) (m : Nat) (op : CmpOp) : Op2 X (compareOp op) (cmpOf m op) := by
  unfold cmpOf
  split
  · exact opCmpW hu op
  · split
    · exact opCmpM (by omega) op
    · split
      · exact opCmpL (by omega) op
      · exact opCmp (by omega) op
/-! ### dict(x) -/
def mDictOf (f : M D) : M D := fun st => (f st).bind fun x st1 => match dctC st1.mu x with
  | some kvs => .ok (.ref st1.mu.length) ⟨st1.sl, st1.mu ++ [.dct kvs]⟩
  | none => .bad
section
variable {g : Gx} {Fx : Addr → Prop} {ι : Io} {H : Hp} {σ : L2.St} {st : ES}
theorem SRel.newDct (r : SRel g Fx ι H σ st) {p : Addr} {vs : List (Key × V)} {ds : List (Key × D)} (hp : H p = none) (h : RepK g.K H Fx ι ds vs) :
    Step ι H (own ι (.inr st.mu.length) p) (upd H p (.dK vs)) ∧ SRel g Fx (own ι (.inr st.mu.length) p) (upd H p (.dK vs)) σ { st with mu := st.mu ++ [.dct ds] } ∧ Rep g.K (upd H p (.dK vs)) Fx (own ι (.inr st.mu.length) p) (.ref st.mu.length) (.ref p) := by
  have nf : ¬ Fx p := fun z => by
    obtain ⟨o, e⟩ := r.fxt p z
    rw [hp] at e
    cases e
  have k : Car Fx ι H (fun b => Fx b ∨ b = p) ι (upd H p (.dK vs)) := ⟨fun b u e _ => Grow.new hp b u e, fun b z => by
    rcases z with (z | z) | z
    · exact .inl (.inl z)
    · rw [z]
      exact .inr hp
    · exact .inl (.inr z), fun _ _ z => z⟩
  have r1 := r.apart (o := .dK vs) hp
  refine ⟨⟨fun b o e n => Grow.new hp b o e, fun b z => ?_, fun n a e => ?_, upd_th⟩, r1.cell nf ⟨vs, upd_same, RepK.car k h⟩, ?_⟩
  · rcases ow_own z with z | z
    · exact .inr (by rw [z]; exact hp)
    · exact .inl z
  · have := r.domc n a e
    unfold own
    rw [if_neg (fun z => by have := Sum.inr.inj z; omega)]
    exact e
  · simp only [Rep]
    exact ⟨p, rfl, by unfold own; rw [if_pos rfl]⟩
end
section
variable {X : Cx} {W : WX} {e i : Expr} {es : List Expr} {f fi : M D} {fs : M (List D)} {p p1 p2 p3 pos : Pos}
theorem PEd.dictOf (hg : Gl X "dict") (hm : X.mg "dict" = none) (he : PEd X W e f) (hs : starEach [e] X.env = (false, eval e X.env) :: starEach [] X.env) : PEd X W (.Call (.Name "dict" p) [e] [] pos) (mDictOf f) :=
  PE.imp (pe_callTy call_dictD hg hm (by decide +kernel) (pa_cons he pa_nil hs) (by decide) (by decide) hs (by rfl)) fun σ H Q h => by
    obtain ⟨Fx, ι, st, r, q⟩ := h
    refine ⟨Fx, ι, st, r, q.bind.imp fun d ι1 H1 st1 s1 r1 q1 v rv => ?_⟩
    cases ed : dctC st1.mu d with
    | none =>
      simp only [ed] at q1
      exact q1.elim
    | some kvs =>
      simp only [ed] at q1
      obtain ⟨a, ws, e3, h3, r3⟩ := dctC_rep r1 rv ed
      subst e3
      refine ⟨a, ws, rfl, .inl h3, fun p hp => ?_⟩
      obtain ⟨z1, z2, z3⟩ := r1.newDct hp r3
      exact q1 _ _ z1 z2 _ z3
/-! ### x[::-1] -/
def mRevS (f : M D) : M D := fun st => (f st).bind fun d st1 => match dr st1.mu d with
  | .lst xs => .ok (.lst xs.reverse) st1
  | _ => .bad
theorem PEd.revS {k : Nat} (he : PEd X W e f) : PEd X W (.Subscript e (.Slice none none (some (.UnaryOp .USub (.Constant (.int 1) k p1) p2)) p3) pos) (mRevS f) := PE.imp (pe_revL he) fun σ H Q h => by
  obtain ⟨Fx, ι, st, r, q⟩ := h
  refine ⟨Fx, ι, st, r, q.bind.imp fun d ι1 H1 st1 s1 r1 q1 v rv => ?_⟩
  have rb := repB_dr r1 (.inl rv)
  split at q1
  · rename_i xs ex
    rw [ex] at rb
    obtain ⟨a, vs, e1, h1, h2⟩ := repB_lst rb
    subst e1
    refine ⟨a, vs, rfl, SqL.of h1, fun p hp => ?_⟩
    have gr : Grow H1 (upd H1 p (.lst vs.reverse)) := Grow.new hp
    refine q1 ι1 _ gr.step (r1.same gr) (.ref p) ?_
    simp only [Rep]
    refine ⟨p, vs.reverse, rfl, upd_same, fun z => ?_, RepAll.car gr.step.car _ _ (RepAll.rev h2)⟩
    rcases z with z | z
    · obtain ⟨o, e⟩ := r1.fxt p z
      rw [hp] at e
      cases e
    · obtain ⟨o, e⟩ := r1.owt p z
      rw [hp] at e
      cases e
  · exact q1.elim
/-! ### [f, g, ..][i](..) -/
def mPick (hs : List Fn) (fi : M D) (fs : M (List D)) : M D := fun st => (fi st).bind fun d st1 => match d with
  | .int i => (match atI hs i with
    | some h => mCall h fs st1
    | none => .bad)
  | _ => .bad
def PickOk (X : Cx) (h : Fn) (v : V) : Prop := ∃ k f fd ps, v = .ref f ∧ FnOk X.prog X.w X.K X.mg X.base (L2N.CX X.prog X.w) k f fd ps (spD (gx X) ps.length h) ∧ (∀ ds mu, ds.length ≠ ps.length → h ds mu = .bad) ∧ Room k X.A ∧ PySem.W.keepIn X.K (.ref f) = true ∧ Binds X.K fd ps []
theorem PEd.pick {ns : List Expr} {hs : List Fn} {vs : List V} (hn : PA X ns (fun _ H Q => Q vs H)) (hv : ∀ (j : Nat) (h : Fn) (v : V), hs[j]? = some h → vs[j]? = some v → PickOk X h v) (hl : hs.length = vs.length) (hz : vs.length ≤ sizeLine)
    (hi : PEd X W i fi) (hpi : PlainIx i) (tk : L2N.Takes X W) (ha : PAd X W (e :: es) fs) (he : starEach (e :: es) X.env = (false, eval e X.env) :: starEach es X.env) (hpl : (backTo pos (starEach es X.env)).any (·.1) = false) :
    PEd X W (.Call (.Subscript (.List ns p1) i p2) (e :: es) [] pos) (mPick hs fi fs) := by
  refine ⟨fun pins s σ H Q I q => ?_⟩
  obtain ⟨Fx, ι, st, r, q⟩ := q
  have hf : PE X (.Subscript (.List ns p1) i p2) _ := pe_ix ix_list (pe_lst hn) hi hpi
  refine Call_ (thn (hf.run pins s σ H (fun v H' => ∃ h, PickOk X h v ∧ tE (gx X) W (mCall h fs) σ H' Q) I ?_) fun u s1 ⟨y, H1, I1, ry, h, ⟨k, f, fd, ps, ey, F, hb, hr, hk, hB⟩, q1⟩ => ?_)
  · refine ⟨hz, fun p hp => ?_⟩
    have nw : ¬ Ow ι p := fun z => by
      obtain ⟨o, e⟩ := r.owt p z
      rw [hp] at e
      cases e
    refine ⟨Fx, ι, st, r.new hp, (Aft.later (step_new hp) q.bind).imp fun d ι1 H1 st1 s1 r1 q1 y ry => ?_⟩
    cases d with
    | int j =>
      simp only at q1
      cases ea : atI hs j with
      | none =>
        simp only [ea] at q1
        exact q1.elim
      | some h =>
        simp only [ea] at q1
        obtain ⟨m, w, z1, z2, z3, z4⟩ := atI_len hl ea
        cases rep_int ry
        exact ⟨p, vs, j, w, rfl, rfl, SqL.of (s1.keep p _ upd_same nw), z4, h, hv m h w z2 z3, Fx, ι1, st1, r1, q1⟩
    | _ => exact q1.elim
  · subst ey
    obtain rfl : u = Value.ref f := ry
    refine PySem.W.callWith_K (h₀ := X.base) I1.ok.mod.kin hk (thn (ha.run pos pins s1 σ H1 _ I1 (tCallS_of hb q1)) fun us s2 ⟨vs, H2, I2, rr, q2⟩ => ⟨I2.kIn, ?_⟩) he hpl
    exact run_fnS F hr hB (L2N.passAt tk σ) I2 rr q2
end
/-! ### d[k] = v -/
def sDctSet (fv fo fi : M D) : MS := fun st => (fv st).bind fun v st1 => (fo st1).bind fun x st2 => (fi st2).bind fun k st3 => match x with
  | .ref n => (match st3.mu[n]?, keyD k with
    | some (.dct kvs), some k => if kvs.length < 1000 then .ok .nx ⟨st3.sl, st3.mu.set n (.dct (dPut kvs k v))⟩ else .bad
    | _, _ => .bad)
  | _ => .bad
section
variable {X : Cx} {W : WX} {v o i : Expr} {fv fo fi : M D} {p' pos : Pos}
theorem PSd.dctSet (hu : X.A.units + 1 < cLine) (hv : PEd X W v fv) (ho : PEd X W o fo) (hi : PEd X W i fi) (hs : swapsWith v (some (.Subscript o i p')) pos.line X.env = pure false) : PSd X W (.Assign [.Subscript o i p'] v pos) (sDctSet fv fo fi) :=
  PS.imp (ps_dput hu ho hi hv hs) fun Dn σ H h => by
    obtain ⟨Fx, ι, st, r, q⟩ := h
    refine ⟨Fx, ι, st, r, (AftS.bind (σ := σ) q).imp fun d ι1 H1 st1 s1 r1 q1 x rx => ?_⟩
    refine ⟨Fx, ι1, st1, r1, (AftS.bind (σ := σ) q1).imp fun dn ι2 H2 st2 s2 r2 q2 y ry => ?_⟩
    refine ⟨Fx, ι2, st2, r2, (AftS.bind (σ := σ) q2).imp fun dk ι3 H3 st3 s3 r3 q3 z rz => ?_⟩
    cases dn with
    | ref n =>
      simp only at q3
      split at q3
      · rename_i kvs k c0 c1
        split at q3
        · rename_i hl
          obtain ⟨a, e1, h1⟩ := rep_ref ry
          subst e1
          have g1 := s3.ce n a h1
          obtain ⟨b, k1, ws, k2, k3⟩ := r3.ce n _ c0
          rw [g1] at k1
          cases k1
          have rp := k3.put (k := k) (Rep.car (s2.trans s3).car _ _ rx)
          have su := step_upd (H := H3) (o := .dK (putK ws k x)) ⟨_, g1⟩
          have sz : 1000 ≤ sizeLine := by decide
          refine ⟨a, _, rfl, by rw [key_rep rz c1]; exact DPut.k k2 (by rw [← k3.len]; omega), ?_⟩
          exact q3 ι3 _ σ su (r3.ceset (List.getElem?_eq_some_iff.mp c0).1 g1 ⟨_, upd_same, RepK.car su.car rp⟩)
        · exact q3.elim
      · exact q3.elim
    | _ => exact q3.elim
end
end Pv
/-! Pv10: the text compiled to the plain machine's words; side conditions. -/
namespace Pv
open PySem PySem.Spec L2
/-- what is known of names while a def (or a comprehension in it) is compiled -/
structure Ct where
  /-- the slots' names -/
  N : List Str
  /-- the scope's names -/
  nm : List (Str × NameKind)
  /-- names whose cells are of one's own -/
  fb : Str → Bool
  /-- defs of the module -/
  fn : Str → Option (Fn × Nat)
  /-- constants of the module -/
  gl : Str → Option D
  /-- names that the module does not have -/
  bn : List Str
  /-- how a place of the text is taken: 1 .. 3 a call that is told no cells (lent, frozen, thawed), 4 a dict's item -/
  md : Nat → Nat → Nat
def noMd : Nat → Nat → Nat := fun _ _ => 0
/-- a def that reads through cells (a: all its new lists are cells) -/
def mdR (a : Nat) (f : Nat → Nat → Nat) : Nat → Nat → Nat
  | 0, 0 => 6
  | 0, 1 => a
  | l, k => f l k
def rM (c : Ct) : Bool := c.md 0 0 == 6
def mkC (c : Ct) (p : Pos) : Bool := c.md 0 0 == 6 && (if c.md 0 1 == 1 then c.md p.line p.col != 7 else c.md p.line p.col == 6)
def cmpMd (c : Ct) (p : Pos) : Nat := if rM c && c.md p.line p.col != 8 && c.md p.line p.col != 9 then 5 else c.md p.line p.col
def cmOf : Nat → CM
  | 1 => .L
  | 2 => .F
  | 3 => .T
  | _ => .thru
def findIx : List Str → Str → Option Nat
  | [], _ => none
  | y :: ys, x => if y = x then some 0 else (findIx ys x).map (· + 1)
theorem findIx_get : ∀ {ys : List Str} {x : Str} {i : Nat}, findIx ys x = some i → ys[i]? = some x
  | [], x, i, h => by cases h
  | y :: ys, x, i, h => by
    unfold findIx at h
    split at h
    · rename_i e
      cases h
      simp [e]
    · cases q : findIx ys x with
      | none =>
        rw [q] at h
        cases h
      | some j =>
        rw [q] at h
        cases h
        simpa using findIx_get q
def plainName (x : Str) : Bool := !(x == ("__debug__" : Str)) && !(x == ("__classdict__" : Str)) && !(x == ("__name__" : Str))
def visB (nm : List (Str × NameKind)) (x : Str) : Bool := match nm.lookup x with
  | some .local => true
  | some .cell => true
  | some .free => true
  | _ => false
def locB (nm : List (Str × NameKind)) (x : Str) : Bool := match nm.lookup x with
  | some .local => true
  | some .cell => true
  | _ => false
def glB (nm : List (Str × NameKind)) (x : Str) : Bool := match nm.lookup x with
  | some .globalImplicit => true
  | _ => false
def stB (c : Ct) (x : Str) : Bool := c.fb x || (match c.nm.lookup x with
  | some .local => true
  | _ => false)
def slotR (c : Ct) (x : Str) : Option Nat := if visB c.nm x && plainName x then findIx c.N x else none
def slotW (c : Ct) (x : Str) : Option Nat := if locB c.nm x && stB c x then findIx c.N x else none
/-- what is known of the context -/
structure CtOk (c : Ct) (W : WX) (X : Cx) : Prop where
  N : X.N = c.N
  nd : X.N.Nodup
  nm : X.env.scope.names = c.nm
  kind : X.env.scope.kind = .function
  fb : ∀ x, X.fn x = c.fb x
  calm : X.calm = true
  un : X.A.units + 65 < cLine
  tk : L2N.Takes X W
  hp : PassesOwn (model X.prog X.w) X.A X.env X.xe
  fn : ∀ x h n, c.fn x = some (h, n) → ∃ k f fd ps, FnOk X.prog X.w X.K X.mg X.base (L2N.CX X.prog X.w) k f fd ps (spD (gx X) ps.length h) ∧ ps.length = n ∧ Room k X.A ∧ X.mg x = some (.ref f) ∧ PySem.W.keepIn X.K (.ref f) = true ∧ Binds X.K fd ps [] ∧ ∀ ds mu, ds.length ≠ n → h ds mu = .bad
  gl : ∀ x d, c.gl x = some d → ∃ u v, X.mg x = some u ∧ RelV v u ∧ ∀ H Fx ι, Rep X.K H Fx ι d v
  bn : ∀ x, x ∈ c.bn → X.mg x = none
section
variable {c : Ct} {W : WX} {X : Cx} {x : Str} {i : Nat}
theorem plain_d (h : plainName x = true) : (x == ("__debug__" : Str)) = false ∧ (x == ("__classdict__" : Str)) = false ∧ x ≠ ("__name__" : Str) := by
  unfold plainName at h
  simp only [Bool.and_eq_true, Bool.not_eq_true'] at h
  exact ⟨h.1.1, h.1.2, by simpa using h.2⟩
theorem CtOk.vis (k : CtOk c W X) (h : visB c.nm x = true) : Vis X.env.scope x := by
  unfold visB at h
  rw [← k.nm] at h
  unfold Vis
  split at h
  · rename_i e; exact .inl e
  · rename_i e; exact .inr (.inl e)
  · rename_i e; exact .inr (.inr e)
  · cases h
theorem CtOk.loc (k : CtOk c W X) (h : locB c.nm x = true) : L2.Loc X.env.scope x := by
  unfold locB at h
  rw [← k.nm] at h
  unfold L2.Loc
  split at h
  · rename_i e; exact .inl e
  · rename_i e; exact .inr e
  · cases h
theorem CtOk.glo (k : CtOk c W X) (h : glB c.nm x = true) : Gl X x := by
  unfold glB at h
  rw [← k.nm] at h
  show X.env.scope.names.lookup x = _
  split at h
  · rename_i e; exact e
  · cases h
theorem CtOk.sto (k : CtOk c W X) (h : stB c x = true) : X.fn x = true ∨ X.env.scope.names.lookup x = some .local := by
  unfold stB at h
  rw [Bool.or_eq_true] at h
  rcases h with h | h
  · exact .inl (by rw [k.fb]; exact h)
  · rw [← k.nm] at h
    split at h
    · rename_i e; exact .inr e
    · cases h
theorem CtOk.rd (k : CtOk c W X) (h : slotR c x = some i) : X.N[i]? = some x ∧ Vis X.env.scope x ∧ (x == ("__debug__" : Str)) = false ∧ (x == ("__classdict__" : Str)) = false := by
  unfold slotR at h
  split at h
  · rename_i e
    rw [Bool.and_eq_true] at e
    obtain ⟨p1, p2, _⟩ := plain_d e.2
    exact ⟨by rw [k.N]; exact findIx_get h, k.vis e.1, p1, p2⟩
  · cases h
theorem CtOk.wr (k : CtOk c W X) (h : slotW c x = some i) : X.N[i]? = some x ∧ L2.Loc X.env.scope x ∧ (X.fn x = true ∨ X.env.scope.names.lookup x = some .local) := by
  unfold slotW at h
  split at h
  · rename_i e
    rw [Bool.and_eq_true] at e
    exact ⟨by rw [k.N]; exact findIx_get h, k.loc e.1, k.sto e.2⟩
  · cases h
end
/-! ### side conditions by the constructor -/
def notStar : Expr → Bool
  | .Starred _ _ => false
  | _ => true
theorem star_of {e : Expr} (es : List Expr) (env : Env) (h : notStar e = true) : starEach (e :: es) env = (false, eval e env) :: starEach es env := by
  cases e <;> first | rfl | cases h
theorem plainStar (pos : Pos) (env : Env) : ∀ {es : List Expr}, es.all notStar = true → (backTo pos (starEach es env)).any (·.1) = false
  | [], _ => rfl
  | e :: es, h => by
    simp only [List.all_cons, Bool.and_eq_true] at h
    rw [star_of es env h.1]
    show (false || (backTo pos (starEach es env)).any (·.1)) = false
    rw [plainStar pos env h.2]
    rfl
def plainIxB : Expr → Bool
  | .Slice _ _ _ _ => false
  | _ => true
theorem plainIx_of {e : Expr} (h : plainIxB e = true) : PlainIx e := by
  cases e <;> first | (intro o i; rfl) | cases h
def noMark : Expr → Bool
  | .Set _ _ _ => false
  | _ => true
theorem noMark_of {e : Expr} (op : CmpOp) (h : noMark e = true) : behindInMarks op e = false := by
  cases e <;> first | rfl | cases h
/-- not a test by its own rule -/
def plainTest : Expr → Bool
  | .UnaryOp .Not _ _ => false
  | .BoolOp _ _ _ => false
  | .IfExp _ _ _ _ => false
  | .Compare _ _ _ _ => false
  | _ => true
theorem plainTest_of {e : Expr} (env : Env) (h : plainTest e = true) : ∀ whole, isTrue e env whole = (do let v ← whole; standAt e.pos; holding [v] (truthy v)) := by
  intro whole
  cases e with
  | UnaryOp op x p => cases op <;> first | rfl | cases h
  | BoolOp => cases h
  | IfExp => cases h
  | Compare => cases h
  | _ => rfl
def noComp : Expr → Bool
  | .ListComp _ _ _ _ => false
  | .SetComp _ _ _ _ => false
  | .DictComp _ _ _ _ _ => false
  | _ => true
theorem noComp_of {e : Expr} (t : Option Expr) (l : Nat) (env : Env) (h : noComp e = true) : swapsWith e t l env = pure false := by
  cases e <;> first | rfl | cases h
def noTuple : Expr → Bool
  | .Tuple _ _ _ => false
  | _ => true
theorem noSwap_of {e tg : Expr} (env : Env) (h : noTuple e = true) : swappedStores [tg] e env = pure none := by
  cases e with
  | Tuple => cases h
  | _ => cases tg <;> rfl
def baseOk : Expr → Bool
  | .Call (.Name id _) [] [] _ => id != "super"
  | .Call _ [] _ _ => false
  | _ => true
theorem base_of {o : Expr} (a : Str) (env : Env) (h : baseOk o = true) : attributeBase o a env (eval o env) = eval o env := by
  cases o with
  | Call f args kws p =>
    cases args with
    | nil =>
      cases f with
      | Name id q =>
        cases kws with
        | nil =>
          have h' : (id != "super") = true := h
          unfold attributeBase
          simp only [h', Bool.true_or, if_true]
        | cons => cases h
      | _ => cases h
    | cons => cases f <;> rfl
  | _ => rfl
theorem fold_of {e : Expr} (env : Env) (h : noMark e = true) : ∀ x, foldedSetIterable e env x = pure x := by
  intro x
  cases e <;> first | rfl | cases h
theorem few_of {e : Expr} (pos : Pos) (env : Env) (h : notStar e = true) : ((backTo pos (starEach [e] env)).all (fun x => !x.1) && (backToKw pos (keywordEach [] env)).all (fun x => x.1.isSome) && decide (([e] : List Expr).length + ([] : List Keyword).length + (if ([] : List Keyword).isEmpty then 0 else 1) < 30)) = true := by
  rw [star_of [] env h]
  rfl
end Pv
/-! Pv11: expressions compiled. -/
namespace Pv
open PySem PySem.Spec L2
/-- -i -/
def dNeg : D → Option D
  | .int i => some (.int (-i))
  | _ => none
def mNeg (f : M D) : M D := fun st => (f st).bind fun x st1 => mPur (dNeg x) st1
/-- a chain of two comparisons, both of values -/
def mChain (k k' : List Cell → D → D → Option D) (f g h : M D) : M D := fun st => (f st).bind fun x st1 => (g st1).bind fun y st2 => match k st2.mu x y with
  | some (.bl b) => if b then (h st2).bind fun z st3 => (match k' st3.mu y z with
    | some d => .ok d st3
    | none => .bad) else .ok (.bl false) st2
  | _ => .bad
section
variable {X : Cx} {W : WX} {e a b d : Expr} {f fa fb fd : M D} {pos : Pos}
theorem PEd.neg (ha : PEd X W a fa) : PEd X W (.UnaryOp .USub a pos) (mNeg fa) := PE.imp (pe_un un_neg ha) fun σ H Q h => by
  obtain ⟨Fx, ι, st, r, q⟩ := h
  refine ⟨Fx, ι, st, r, q.bind.imp fun d ι1 H1 st1 s1 r1 q1 v rv => ?_⟩
  unfold mPur dNeg at q1
  cases d with
  | int i =>
    cases rep_int rv
    exact ⟨i, rfl, q1.ok r1 _ mk_int⟩
  | _ => exact q1.elim
theorem tChain_of {g : Gx} {k k' : List Cell → D → D → Option D} {σ : L2.St} {H : Hp} {Q : VK} (h : tE g W (mChain k k' fa fb fd) σ H Q) :
    tChain (fun x y H Q => ∃ Fx ι σ st dx dy d, SRel g Fx ι H σ st ∧ Rep g.K H Fx ι dx x ∧ Rep g.K H Fx ι dy y ∧ k st.mu dx dy = some d ∧ ∀ v H', Grow H H' → Rep g.K H' Fx ι d v → Q v H')
      (fun x y H Q => ∃ Fx ι σ st dx dy d, SRel g Fx ι H σ st ∧ Rep g.K H Fx ι dx x ∧ Rep g.K H Fx ι dy y ∧ k' st.mu dx dy = some d ∧ ∀ v H', Grow H H' → Rep g.K H' Fx ι d v → Q v H') (tE g W fa) (tE g W fb) (tE g W fd) σ H Q := by
  obtain ⟨Fx, ι, st, r, q⟩ := h
  refine ⟨Fx, ι, st, r, q.bind.imp fun dx ι1 H1 st1 s1 r1 q1 x rx => ⟨Fx, ι1, st1, r1, q1.bind.imp fun dy ι2 H2 st2 s2 r2 q2 y ry => ?_⟩⟩
  cases e1 : k st2.mu dx dy with
  | none =>
    simp only [e1] at q2
    exact q2.elim
  | some d1 =>
    cases d1 with
    | bl b =>
      simp only [e1] at q2
      refine ⟨Fx, ι2, σ, st2, dx, dy, .bl b, r2, Rep.car s2.car _ _ rx, ry, e1, fun v H' gr rp => ⟨b, rep_bl rp, ?_⟩⟩
      have r3 := r2.same gr
      have q3 := Aft.later (gr.step (ι := ι2)) q2
      cases b with
      | false =>
        refine iteF ?_
        rw [if_neg (by decide)] at q3
        exact q3.ok r3 _ mk_bl
      | true =>
        refine iteT ?_
        rw [if_pos rfl] at q3
        refine ⟨Fx, ι2, st2, r3, q3.bind.imp fun dz ι4 H4 st4 s4 r4 q4 z rz => ?_⟩
        cases e2 : k' st4.mu dy dz with
        | none =>
          simp only [e2] at q4
          exact q4.elim
        | some d2 =>
          simp only [e2] at q4
          exact ⟨Fx, ι4, σ, st4, dy, dz, d2, r4, Rep.car ((gr.step (ι := ι2)).trans s4).car _ _ ry, rz, e2, fun w H5 gr5 rp5 => q4 ι4 H5 gr5.step (r4.same gr5) w rp5⟩
    | _ =>
      simp only [e1] at q2
      exact q2.elim
theorem PEd.chain {op op' : CmpOp} {k k' : List Cell → D → D → Option D} (ho : Op2 X (compareOp op) k) (ho' : Op2 X (compareOp op') k') (ha : PEd X W a fa) (hb : PEd X W b fb) (hd : PEd X W d fd) (h2 : behindInMarks op' d = false) :
    PEd X W (.Compare a [op, op'] [b, d] pos) (mChain k k' fa fb fd) := PE.imp (pe_chain ho ho' ha hb hd h2) fun _ _ _ h => tChain_of h
theorem PTd.chain {op op' : CmpOp} {k k' : List Cell → D → D → Option D} (ho : Op2 X (compareOp op) k) (ho' : Op2 X (compareOp op') k') (ha : PEd X W a fa) (hb : PEd X W b fb) (hd : PEd X W d fd) (h2 : behindInMarks op' d = false) :
    PTd X W (.Compare a [op, op'] [b, d] pos) (mBool (mChain k k' fa fb fd)) := PT.imp (pt_chain ho ho' ha hb hd h2) fun σ H Q h => by
      obtain ⟨Fx, ι, st, r, q⟩ := tT_bool h
      exact tChain_of ⟨Fx, ι, st, r, q⟩
end
/-! ### the compiler -/
def tyOf (x : Str) : Option Ty :=
  if x = "str" then some .str else if x = "int" then some .int else if x = "bool" then some .bool else if x = "list" then some .list else if x = "tuple" then some .tuple else if x = "dict" then some .dict else none
/-- a built-in that the module does not shadow -/
def bltB (c : Ct) (x : Str) : Bool := glB c.nm x && plainName x && c.bn.contains x
inductive Bl where
  | len | max | min | int | tuple | list | str
def blOf (x : Str) : Option Bl :=
  if x = "len" then some .len else if x = "max" then some .max else if x = "min" then some .min else if x = "int" then some .int else if x = "tuple" then some .tuple else if x = "list" then some .list else if x = "str" then some .str else none
def Bl.k : Bl → List Cell → List D → Option D
  | .len => kLen
  | .max => kMax
  | .min => kMin
  | .int => kInt
  | .tuple => kTuple
  | .list => kList
  | .str => kStr
/-- methods of texts -/
inductive Ms where
  | join | index
def msOf (x : Str) : Option Ms := if x = "join" then some .join else if x = "index" then some .index else none
def Ms.k : Ms → List Cell → D → D → Option D
  | .join => dJoin
  | .index => dIndex
def nameSlot (c : Ct) : Expr → Option Nat
  | .Name x _ => slotR c x
  | _ => none
def cAs (f : Expr → Option (M D)) : List Expr → Option (M (List D))
  | [] => some mNil
  | e :: es => if notStar e then match f e, cAs f es with
    | some a, some b => some (mCons a b)
    | _, _ => none else none
def cPart (f : Expr → Option (M D)) : Option Expr → Option MO
  | none => some mNoPart
  | some e => (f e).map mPart
/-- the values of and, or -/
def cBV (op : BoolOp) (f : Expr → Option (M D)) : List Expr → Option (M D)
  | [] => none
  | [e] => f e
  | e :: e' :: es => match f e, cBV op f (e' :: es) with
    | some a, some b => some (match op with
      | .And => fun st => (mBool a st).bind fun c st1 => if c then b st1 else .ok (.bl false) st1
      | .Or => fun st => (mBool a st).bind fun c st1 => if c then .ok (.bl true) st1 else b st1)
    | _, _ => none
def cBT (op : BoolOp) (f : Expr → Option (M Bool)) : List Expr → Option (M Bool)
  | [] => none
  | [e] => f e
  | e :: e' :: es => match f e, cBT op f (e' :: es) with
    | some a, some b => some (match op with
      | .And => mAnd a b
      | .Or => mOr a b)
    | _, _ => none
/-- targets -/
def cNames (c : Ct) : List Expr → Option (List Nat)
  | [] => some []
  | .Name x _ :: es => match slotW c x, cNames c es with
    | some i, some is => some (i :: is)
    | _, _ => none
  | _ :: _ => none
def cTg (c : Ct) : Expr → Option Tg
  | .Name x _ => (slotW c x).map .nm
  | .Tuple es _ _ => (cNames c es).map .tp
  | _ => none
/-- a comprehension's own names -/
def ownOf (N : List Str) : List (Str × NameKind) → List (Str × Nat)
  | [] => []
  | (x, k) :: r => match k, findIx N x with
    | .local, some i => (x, i) :: ownOf N r
    | .cell, some i => (x, i) :: ownOf N r
    | _, _ => ownOf N r
/-- the block's own names, the captured ones (Comp's relS, of the names alone) -/
def relN (nm : List (Str × NameKind)) (l : List (Str × NameKind)) : List (Str × NameKind) := l.map fun (n, k) => if (k == .free && nm.lookup n == some .cell) then (n, .cell) else (n, k)
def blkOkB (N : List Str) (nm : List (Str × NameKind)) (scope : Scope) (own : List (Str × Nat)) : Bool :=
  (match scope.kind with | .function => true | _ => false) && (scope.names.all fun y => decide (scope.names.lookup y.1 = some y.2)) && (own.all fun p => decide (N[p.2]? = some p.1)) &&
    (scope.names.all fun y => match y.2 with
      | .free => (match nm.lookup y.1 with | some .cell => true | some .free => true | _ => false)
      | .local => decide (y.1 ∈ own.map (·.1)) || decide (y.1 ∉ N)
      | .cell => decide (y.1 ∈ own.map (·.1)) || decide (y.1 ∉ N)
      | _ => true)
def blkCt (c : Ct) (scope : Scope) : Ct := { c with nm := relN c.nm scope.names, fb := fun x => scope.names.lookup x == some .cell }
def cPairs (f : Expr → Option (M D)) : List (Option Expr) → List Expr → Option (List (M D × M D))
  | [], [] => some []
  | some k :: ks, v :: vs => match f k, f v, cPairs f ks vs with
    | some a, some b, some r => some ((a, b) :: r)
    | _, _, _ => none
  | _, _ => none
def isDict : Expr → Bool
  | .Dict _ _ _ => true
  | _ => false
def tgIn (vs : List Nat) : Tg → Bool
  | .nm i => vs.contains i
  | .tp is => is.all vs.contains
/-- what is walked -/
def isTup : Expr → Bool
  | .Tuple _ _ _ => true
  | _ => false
def cIt (c : Ct) (f : Expr → Option (M D)) (tg : Expr) : Expr → Option (M (List D))
  | .Call (.Name x p) [a] [] pos => if x = "range" ∧ bltB c x = true ∧ c.fn x = none then (if notStar a then (cAs f [a]).map mRange1 else none) else if x = "enumerate" ∧ bltB c x = true ∧ isTup tg = true then (if notStar a then (cAs f [a]).map mEnum else none) else if x = "reversed" ∧ bltB c x = true then (if notStar a then (f a).map mRev else none) else (f (.Call (.Name x p) [a] [] pos)).map mItems
  | .Call (.Name x p) [a, b] [] pos => if x = "range" ∧ bltB c x = true ∧ c.fn x = none then (if notStar a && notStar b then (cAs f [a, b]).map mRange2 else none) else if x = "zip" ∧ bltB c x = true ∧ isTup tg = true then (if notStar a && notStar b then (cAs f [a, b]).map mZip else none) else (f (.Call (.Name x p) [a, b] [] pos)).map mItems
  | .Call (.Name x p) [a, b, d] [] pos => if x = "range" ∧ bltB c x = true ∧ c.fn x = none then (if notStar a && notStar b && notStar d then (cAs f [a, b, d]).map mRange3 else none) else (f (.Call (.Name x p) [a, b, d] [] pos)).map mItems
  | e => if noMark e then (f e).map mItems else none
/-- list(reversed(x)) -/
def revLOf (c : Ct) (f : Expr → Option (M D)) : Expr → Option (M D)
  | .Call (.Name y _) [a] [] _ => if bltB c y && notStar a && decide (y = "reversed") then (f a).map mRevL else none
  | _ => none
/-- what a def that reads through cells takes otherwise -/
def cRx (c : Ct) (f : Expr → Option (M D)) (cc : Expr → Expr → Expr → List Expr → Scope → Option (M (List D))) : Expr → Option (M D)
  | .List es p => if mkC c p then (cAs f es).map fun g => mCell (mDisp g) else none
  | .ListComp elt [⟨tg, iter, ifs, 0⟩] scope p => if mkC c p then (cc elt tg iter ifs scope).map mCell else none
  | .BinOp a .Add b p => if mkC c p then (match f a, f b with
    | some g, some h => some (mAddC g h)
    | _, _ => none) else none
  | .Subscript a (.Slice lo hi none _) _ => if rM c then (match cPart f lo, cPart f hi with
    | some l, some h => (match nameSlot c a with
      | some i => some (mCutVC i l h)
      | none => (f a).map fun g => mCutC g l h)
    | _, _ => none) else none
  | .Subscript _ (.Slice _ _ _ _) _ => none
  | .Subscript a b p => if rM c && !isDict a && c.md p.line p.col != 4 then (match f b with
    | some g => (match nameSlot c a with
      | some i => some (mOpV dIxC i g)
      | none => (f a).map fun h => mOp2 dIxC h g)
    | none => none) else none
  | .Call (.Name x _) [a] [] _ => if rM c && bltB c x && notStar a then (if x = "len" then (match nameSlot c a with
      | some i => some (mLenVC i)
      | none => (cAs f [a]).map (mCallB kLenC)) else if x = "all" then (cAs f [a]).map (mCallB kAll) else if x = "list" then revLOf c f a else none) else none
  | .Call (.Attribute o m apos) [] [] pos => if rM c && (apos.endLine == pos.line) && m = "pop" then (match nameSlot c o with
    | some i => some (mSel i (mPop i) (mPopC (mVar i)))
    | none => if baseOk o then (f o).map mPopC else none) else none
  | .Call (.Attribute o m apos) [a] [] pos => if rM c && (apos.endLine == pos.line) && notStar a then (match nameSlot c o with
    | some i => (match f a with
      | some g => if m = "append" then some (mSel i (mAppend i g) (mAppC (mVar i) g)) else if m = "extend" then some (mSel i (mExtend i g) (mExtC (mVar i) g)) else none
      | none => none)
    | none => if baseOk o then (match f o, f a with
      | some h, some g => if m = "append" then some (mAppC h g) else if m = "extend" then some (mExtC h g) else if m = "join" then some (mMeth1 dJoinC h g) else none
      | _, _ => none) else none) else none
  | _ => none
/-- defs by their names -/
def fnsOf (c : Ct) (n : Nat) : List Expr → Option (List Fn)
  | [] => some []
  | .Name x _ :: es => if glB c.nm x && plainName x then (match c.fn x, fnsOf c n es with
    | some (h, m), some r => if m = n then some (h :: r) else none
    | _, _ => none) else none
  | _ => none
/-- further words of a def that reads through cells -/
def cR2 (c : Ct) (f : Expr → Option (M D)) : Expr → Option (M D)
  | .Subscript a (.Slice none none (some (.UnaryOp .USub (.Constant (.int n) _ _) _)) _) _ => if rM c && decide (n = 1) then (f a).map mRevS else none
  | .Call (.Name x _) [a] [] _ => if rM c && bltB c x && notStar a && decide (x = "dict") then (f a).map mDictOf else none
  | .Call (.Subscript (.List ns _) i _) (a :: as) [] _ => if rM c && plainIxB i && (a :: as).all notStar && decide (ns.length ≤ 1000) then (match fnsOf c (a :: as).length ns, f i, cAs f (a :: as) with
    | some hs, some g, some fs => some (mPick hs g fs)
    | _, _, _ => none) else none
  | _ => none
/-- what is walked, watched -/
def cItC (c : Ct) (f : Expr → Option (M D)) (tg : Expr) : Expr → Option MI
  | .Call (.Name x p) as [] pos => if (x = "range" ∨ x = "reversed") ∧ bltB c x = true ∧ c.fn x = none then (cIt c f tg (.Call (.Name x p) as [] pos)).map mOld
    else if x = "enumerate" ∧ bltB c x = true ∧ isTup tg = true then (match as with
      | [a] => if notStar a then (cAs f [a]).map mEnC else none
      | _ => none)
    else if x = "zip" ∧ bltB c x = true ∧ isTup tg = true then (match as with
      | [a, b] => if notStar a && notStar b then (cAs f [a, b]).map mZpC else none
      | _ => none)
    else (f (.Call (.Name x p) as [] pos)).map mItC
  | e => if noMark e then (f e).map mItC else none
mutual
noncomputable def cE : Nat → Ct → Expr → Option (M D)
  | 0, _, _ => none
  | n + 1, c, e => match cRx c (cE n c) (cC n c) e with
    | some g => some g
    | none => match cR2 c (cE n c) e with
    | some g => some g
    | none => match e with
    | .Constant (.int i) _ _ => some (mPure (.int i))
    | .Constant (.bool b) _ _ => some (mPure (.bl b))
    | .Constant .none _ _ => some (mPure .non)
    | .Constant (.str x) _ _ => if okSb x.cps.toList then some (mPure (.str x.cps.toList)) else none
    | .Name x _ => match slotR c x with
      | some i => some (mVar i)
      | none => if glB c.nm x && plainName x then (c.gl x).map mPure else none
    | .BinOp a op b _ => match cE n c a, cE n c b with
      | some f, some g => some (mOp2 (dBin op) f g)
      | _, _ => none
    | .UnaryOp .Not a _ => (cE n c a).map fun f => fun st => (mBool f st).bind fun b st1 => .ok (.bl (!b)) st1
    | .UnaryOp .USub a _ => (cE n c a).map mNeg
    | .BoolOp op es _ => cBV op (cE n c) es
    | .IfExp t a b _ => match cT n c t, cE n c a, cE n c b with
      | some t, some f, some g => some (mIte t f g)
      | _, _, _ => none
    | .Compare a [op] [b] p => if noMark b then match cE n c a, cE n c b with
      | some f, some g => some (mOp2 (cmpOf (cmpMd c p) op) f g)
      | _, _ => none else none
    | .Compare a [op, op'] [b, d] _ => if noMark d then match cE n c a, cE n c b, cE n c d with
      | some f, some g, some h => some (mChain (dCmp op) (dCmp op') f g h)
      | _, _, _ => none else none
    | .Tuple es _ _ => (cAs (cE n c) es).map mTup
    | .List es _ => (cAs (cE n c) es).map fun f => mLst (mDisp f)
    | .Subscript a (.Slice lo hi none _) _ => match cPart (cE n c) lo, cPart (cE n c) hi with
      | some l, some h => (match nameSlot c a with
        | some i => some (mCutV i l h)
        | none => (cE n c a).map fun f => mCut f l h)
      | _, _ => none
    | .Dict ks vs _ => if ks.length ≤ 15 then (cPairs (cE n c) ks vs).map mDict else none
    | .Subscript a b p => if (isDict a || c.md p.line p.col == 4) && plainIxB b then (match cE n c a, cE n c b with
      | some f, some g => some (mDGet f g)
      | _, _ => none) else if plainIxB b then match cE n c b with
      | some g => (match nameSlot c a with
        | some i => some (mOpV dIx i g)
        | none => (cE n c a).map fun f => mOp2 dIx f g)
      | none => none else none
    | .ListComp elt [⟨tg, iter, ifs, 0⟩] scope _ => (cC n c elt tg iter ifs scope).map mLst
    | .Call (.Name x _) [] [] _ => match c.fn x with
      | some (h, 0) => if glB c.nm x && plainName x then some (mCall h mNil) else none
      | _ => none
    | .Call (.Name x _) (a :: as) [] p => match c.fn x with
      | some (h, _) => if glB c.nm x && plainName x then (cAs (cE n c) (a :: as)).map ((cmOf (c.md p.line p.col)).call h) else none
      | none => if bltB c x then (
          if x = "isinstance" then (match as with
            | [.Name y _] => if bltB c y && notStar a && (c.fn y).isNone then (match tyOf y, cE n c a with
              | some t, some f => some (mIsi t f)
              | _, _ => none) else none
            | [.Tuple [.Name y _, .Name z _] _ _] => if bltB c y && bltB c z && notStar a then (match tyOf y, tyOf z, cE n c a with
              | some t, some t', some f => some (mIsi2 t t' f)
              | _, _, _ => none) else none
            | _ => none)
          else match blOf x with
            | some .len => (match nameSlot c a, as with
              | some i, [] => some (mLenV i)
              | _, _ => (cAs (cE n c) (a :: as)).map (mCallB kLen))
            | some bl => (cAs (cE n c) (a :: as)).map (mCallB bl.k)
            | none => none) else none
    | .Call (.Attribute o m apos) [] [] pos => if apos.endLine == pos.line then (if m = "clear" then (if baseOk o then (cE n c o).map mClear else none) else match nameSlot c o with
      | some i => if m = "pop" then some (mPop i) else none
      | none => none) else none
    | .Call (.Attribute o m apos) [a] [] pos => if (apos.endLine == pos.line) && notStar a then (match msOf m with
      | some ms => if baseOk o then (match cE n c o with
        | some f => (match nameSlot c a with
          | some i => some (mMeth1V ms.k f i)
          | none => (cE n c a).map fun g => mMeth1 ms.k f g)
        | none => none) else none
      | none => if m = "update" then (if baseOk o then (match cE n c o, cE n c a with
        | some f, some g => some (mUpd f g)
        | _, _ => none) else none) else (match nameSlot c o, cE n c a with
        | some i, some g => if m = "append" then some (mAppend i g) else if m = "extend" then some (mExtend i g) else none
        | _, _ => none)) else none
    | .Call (.Attribute o m apos) [a, b] [] pos => if (apos.endLine == pos.line) && notStar a && notStar b then (match nameSlot c o, cE n c a, cE n c b with
      | some i, some f, some g => if m = "insert" then some (mInsert i f g) else none
      | _, _, _ => none) else none
    | _ => none
noncomputable def cT : Nat → Ct → Expr → Option (M Bool)
  | 0, _, _ => none
  | n + 1, c, e => match e with
    | .UnaryOp .Not a _ => (cT n c a).map mNot
    | .BoolOp op es _ => cBT op (cT n c) es
    | .Compare a [op] [b] p => if noMark b then match cE n c a, cE n c b with
      | some f, some g => some (mBool (mOp2 (cmpOf (cmpMd c p) op) f g))
      | _, _ => none else none
    | .Compare a [op, op'] [b, d] _ => if noMark d then match cE n c a, cE n c b, cE n c d with
      | some f, some g, some h => some (mBool (mChain (dCmp op) (dCmp op') f g h))
      | _, _, _ => none else none
    | e => if plainTest e then (cE n c e).map mBool else none
/-- a comprehension, one for, one if at most -/
noncomputable def cC : Nat → Ct → Expr → Expr → Expr → List Expr → Scope → Option (M (List D))
  | 0, _, _, _, _, _, _ => none
  | n + 1, c, elt, tg, iter, ifs, scope =>
    if blkOkB c.N c.nm scope (ownOf c.N scope.names) && noMark iter then
      if rM c then (match cItC c (cE n c) tg iter, cTg (blkCt c scope) tg, cE n (blkCt c scope) elt with
      | some its, some T, some f => if tgIn ((ownOf c.N scope.names).map (·.2)) T then (match ifs with
        | [] => some (mCompC its T mYes f ((ownOf c.N scope.names).map (·.2)))
        | [t] => (cT n (blkCt c scope) t).map fun g => mCompC its T g f ((ownOf c.N scope.names).map (·.2))
        | _ => none) else none
      | _, _, _ => none) else
      match cIt c (cE n c) tg iter, cTg (blkCt c scope) tg, cE n (blkCt c scope) elt with
      | some its, some T, some f => if tgIn ((ownOf c.N scope.names).map (·.2)) T then (match ifs with
        | [] => some (mComp its T mYes f ((ownOf c.N scope.names).map (·.2)))
        | [t] => (cT n (blkCt c scope) t).map fun g => mComp its T g f ((ownOf c.N scope.names).map (·.2))
        | _ => none) else none
      | _, _, _ => none
    else none
end
end Pv
/-! Pv12: what is compiled is what is told: expressions. -/
namespace Pv
open PySem PySem.Spec L2
theorem takes_noW {X : Cx} : L2N.Takes X noW := fun _ _ ⟨_, _, _, _, _, _, _, _, _, _, _, _, _, _, _, _, w⟩ => w.elim
section
variable {c : Ct} {W : WX} {X : Cx}
theorem CtOk.blk (k : CtOk c W X) {scope : Scope} (hk : scope.kind = .function) (s : Shared) (H : Hp) (C : Addr) (cl : List (Str × Addr)) (fp : List Addr) : CtOk (blkCt c scope) noW (blkX X scope s H C cl fp) where
  N := k.N
  nd := k.nd
  nm := by
    show (relS scope X.env.scope).names = relN c.nm scope.names
    unfold relS relN
    rw [k.nm, k.kind]
    simp
  kind := hk
  fb := fun x => rfl
  calm := k.calm
  un := k.un
  tk := takes_noW
  hp := PassesOwn.never
  fn := k.fn
  gl := k.gl
  bn := k.bn
theorem CtOk.blt (k : CtOk c W X) {x : Str} (h : bltB c x = true) : Gl X x ∧ X.mg x = none ∧ x ≠ ("__name__" : Str) ∧ (x == ("__debug__" : Str)) = false := by
  unfold bltB at h
  simp only [Bool.and_eq_true] at h
  obtain ⟨p1, p2, p3⟩ := plain_d h.1.2
  exact ⟨k.glo h.1.1, k.bn x (by simpa using h.2), p3, p1⟩
theorem CtOk.slot (k : CtOk c W X) {e : Expr} {i : Nat} (h : nameSlot c e = some i) : ∃ x p, e = .Name x p ∧ X.N[i]? = some x ∧ Vis X.env.scope x ∧ (x == ("__debug__" : Str)) = false ∧ (x == ("__classdict__" : Str)) = false := by
  cases e with
  | Name x p =>
    obtain ⟨a, b, d, e⟩ := k.rd h
    exact ⟨x, p, rfl, a, b, d, e⟩
  | _ => cases h
theorem cAs_star {f : Expr → Option (M D)} : ∀ {es : List Expr} {fs : M (List D)}, cAs f es = some fs → es.all notStar = true
  | [], _, _ => rfl
  | e :: es, fs, h => by
    unfold cAs at h
    split at h
    · rename_i hn
      split at h
      · rename_i a b h1 h2
        simp only [List.all_cons, Bool.and_eq_true]
        exact ⟨hn, cAs_star h2⟩
      · cases h
    · cases h
theorem cAs_ok {f : Expr → Option (M D)} (hf : ∀ e g, f e = some g → PEd X W e g) : ∀ {es : List Expr} {fs : M (List D)}, cAs f es = some fs → PAd X W es fs
  | [], fs, h => by
    cases h
    exact PAd.nil
  | e :: es, fs, h => by
    unfold cAs at h
    split at h
    · rename_i hn
      split at h
      · rename_i a b h1 h2
        cases h
        exact PAd.cons (hf e a h1) (cAs_ok hf h2) (star_of es X.env hn)
      · cases h
    · cases h
theorem cPart_ok {f : Expr → Option (M D)} (hf : ∀ e g, f e = some g → PEd X W e g) : ∀ {e : Option Expr} {g : MO}, cPart f e = some g → POd X W e g
  | none, g, h => by
    cases h
    exact POd.none
  | some e, g, h => by
    have h' : (f e).map mPart = some g := h
    cases q : f e with
    | none =>
      rw [q] at h'
      cases h'
    | some a =>
      rw [q] at h'
      cases h'
      exact POd.some (hf e a q)
theorem cBV_ok {f : Expr → Option (M D)} {op : BoolOp} {pos : Pos} (hf : ∀ e g, f e = some g → PEd X W e g) : ∀ {es : List Expr} {g : M D}, cBV op f es = some g → PEd X W (.BoolOp op es pos) g
  | [e], g, h => PEd.one (hf e g h)
  | e :: e' :: es, g, h => by
    unfold cBV at h
    split at h
    · rename_i a b h1 h2
      cases h
      cases op with
      | And => exact PEd.and (hf e a h1) (cBV_ok hf h2)
      | Or => exact PEd.or (hf e a h1) (cBV_ok hf h2)
    · cases h
theorem cBT_ok {f : Expr → Option (M Bool)} {op : BoolOp} {pos : Pos} (hf : ∀ e g, f e = some g → PTd X W e g) : ∀ {es : List Expr} {g : M Bool}, cBT op f es = some g → PWd X W (.BoolOp op es pos) g
  | [e], g, h => by
    cases op with
    | And => exact PWd.and1 (hf e g h)
    | Or => exact PWd.or1 (hf e g h)
  | e :: e' :: es, g, h => by
    unfold cBT at h
    split at h
    · rename_i a b h1 h2
      cases h
      cases op with
      | And => exact PWd.and (hf e a h1) (cBT_ok hf h2)
      | Or => exact PWd.or (hf e a h1) (cBT_ok hf h2)
    · cases h
theorem cPairs_ok {f : Expr → Option (M D)} (hf : ∀ e g, f e = some g → PEd X W e g) : ∀ {ks : List (Option Expr)} {vs : List Expr} {trs : List (M D × M D)}, cPairs f ks vs = some trs → PPd X W ks vs trs
  | [], [], trs, h => by
    cases h
    exact .nil
  | [], _ :: _, trs, h => by simp [cPairs] at h
  | none :: _, _, trs, h => by simp [cPairs] at h
  | some _ :: _, [], trs, h => by simp [cPairs] at h
  | some k :: ks, v :: vs, trs, h => by
    unfold cPairs at h
    split at h
    · rename_i a b r h1 h2 h3
      cases h
      exact .cons (hf _ _ h1) (hf _ _ h2) (cPairs_ok hf h3)
    · cases h
theorem cNames_ok (k : CtOk c W X) : ∀ {es : List Expr} {is : List Nat}, cNames c es = some is → NamesOk X es is
  | [], is, h => by
    cases h
    trivial
  | .Name x p :: es, is, h => by
    unfold cNames at h
    split at h
    · rename_i i is' h1 h2
      cases h
      obtain ⟨a, b, d⟩ := k.wr h1
      exact ⟨a, b, d, cNames_ok k h2⟩
    · cases h
theorem cTg_ok (k : CtOk c W X) {e : Expr} {T : Tg} (h : cTg c e = some T) : PGd X e T := by
  cases e with
  | Name x p =>
    unfold cTg at h
    cases q : slotW c x with
    | none =>
      simp only [q] at h
      cases h
    | some i =>
      simp only [q] at h
      cases h
      obtain ⟨a, b, d⟩ := k.wr q
      exact PGd.nm k.nd a b d
  | Tuple es kk p =>
    unfold cTg at h
    cases q : cNames c es with
    | none =>
      simp only [q] at h
      cases h
    | some is =>
      simp only [q] at h
      cases h
      exact PGd.tp k.calm k.nd (cNames_ok k q)
  | _ => cases h
theorem tgIn_of {vs : List Nat} {T : Tg} (h : tgIn vs T = true) : T_in T vs := by
  cases T with
  | nm i => exact (by simpa [tgIn] using h : i ∈ vs)
  | tp is => simpa [tgIn, T_in] using h
theorem tyOf_ok {x : Str} {t : Ty} (h : tyOf x = some t) : bootBuiltins x = some (.type t.name) := by
  unfold tyOf at h
  split at h
  · cases h; rename_i e; subst e; decide +kernel
  split at h
  · cases h; rename_i e; subst e; decide +kernel
  split at h
  · cases h; rename_i e; subst e; decide +kernel
  split at h
  · cases h; rename_i e; subst e; decide +kernel
  split at h
  · cases h; rename_i e; subst e; decide +kernel
  split at h
  · cases h; rename_i e; subst e; decide +kernel
  cases h
theorem PEd.bl' {bl : Bl} {x : Str} {a : Expr} {as : List Expr} {fs : M (List D)} {p pos : Pos} (k : CtOk c W X) (h : blOf x = some bl) (hb : bltB c x = true) (ha : PAd X W (a :: as) fs) (hs : (a :: as).all notStar = true) : PEd X W (.Call (.Name x p) (a :: as) [] pos) (mCallB bl.k fs) := by
  obtain ⟨g1, g2, g3, g4⟩ := k.blt hb
  simp only [List.all_cons, Bool.and_eq_true] at hs
  have s1 := star_of as X.env hs.1
  have s2 := plainStar pos X.env hs.2
  unfold blOf at h
  split at h
  · cases h; rename_i e; subst e
    exact PEd.callB callLen g1 g2 PySem.boot_len ha g3 g4 s1 s2
  split at h
  · cases h; rename_i e; subst e
    exact PEd.callB (callMax k.calm) g1 g2 (by decide +kernel) ha g3 g4 s1 s2
  split at h
  · cases h; rename_i e; subst e
    exact PEd.callB (callMin k.calm) g1 g2 (by decide +kernel) ha g3 g4 s1 s2
  split at h
  · cases h; rename_i e; subst e
    exact PEd.callTy callInt g1 g2 (by decide +kernel) ha g3 g4 s1 s2
  split at h
  · cases h; rename_i e; subst e
    exact PEd.callTy callTuple g1 g2 (by decide +kernel) ha g3 g4 s1 s2
  split at h
  · cases h; rename_i e; subst e
    exact PEd.callTy (callList k.calm) g1 g2 (by decide +kernel) ha g3 g4 s1 s2
  split at h
  · cases h; rename_i e; subst e
    exact PEd.callTy callStr g1 g2 (by decide +kernel) ha g3 g4 s1 s2
  cases h
theorem cIt_ok {f : Expr → Option (M D)} (k : CtOk c W X) (hf : ∀ e g, f e = some g → PEd X W e g) {tg e : Expr} {g : M (List D)} (h : cIt c f tg e = some g) : PId X W tg e g := by
  unfold cIt at h
  split at h
  · rename_i x p a pos
    split at h
    · rename_i hr
      obtain ⟨rfl, hb, _⟩ := hr
      obtain ⟨g1, g2, _, _⟩ := k.blt hb
      split at h
      · rename_i hs
        cases q : cAs f [a] with
        | none => rw [q] at h; cases h
        | some fs =>
          rw [q] at h
          cases h
          exact PId.range1 g1 g2 (cAs_ok hf q) (star_of [] X.env hs)
      · cases h
    · split at h
      · rename_i hr
        obtain ⟨rfl, hb, ht⟩ := hr
        obtain ⟨g1, g2, _, _⟩ := k.blt hb
        split at h
        · rename_i hs
          cases q : cAs f [a] with
          | none => rw [q] at h; cases h
          | some fs =>
            rw [q] at h
            cases h
            cases tg with
            | Tuple es kk tp => exact PId.enum g1 g2 (cAs_ok hf q) (star_of [] X.env hs)
            | _ => cases ht
        · cases h
      · split at h
        · rename_i hr
          obtain ⟨rfl, hb⟩ := hr
          obtain ⟨g1, g2, _, _⟩ := k.blt hb
          split at h
          · rename_i hs
            cases q : f a with
            | none => rw [q] at h; cases h
            | some f' =>
              rw [q] at h
              cases h
              exact PId.rev g1 g2 (hf _ _ q) (star_of [] X.env hs)
          · cases h
        · cases q : f (.Call (.Name x p) [a] [] pos) with
          | none => rw [q] at h; cases h
          | some g' =>
            rw [q] at h
            cases h
            exact PId.items (hf _ _ q)
  · rename_i x p a b pos
    split at h
    · rename_i hr
      obtain ⟨rfl, hb, _⟩ := hr
      obtain ⟨g1, g2, _, _⟩ := k.blt hb
      split at h
      · rename_i hs
        rw [Bool.and_eq_true] at hs
        cases q : cAs f [a, b] with
        | none => rw [q] at h; cases h
        | some fs =>
          rw [q] at h
          cases h
          exact PId.range2 g1 g2 (cAs_ok hf q) (by rw [star_of [b] X.env hs.1, star_of [] X.env hs.2]; rfl) (star_of [] X.env hs.2)
      · cases h
    · split at h
      · rename_i hr
        obtain ⟨rfl, hb, ht⟩ := hr
        obtain ⟨g1, g2, _, _⟩ := k.blt hb
        split at h
        · rename_i hs
          rw [Bool.and_eq_true] at hs
          cases q : cAs f [a, b] with
          | none => rw [q] at h; cases h
          | some fs =>
            rw [q] at h
            cases h
            cases tg with
            | Tuple es kk tp => exact PId.zip g1 g2 (cAs_ok hf q) (star_of [b] X.env hs.1) (plainStar pos X.env (es := [b]) (by simp [hs.2]))
            | _ => cases ht
        · cases h
      · cases q : f (.Call (.Name x p) [a, b] [] pos) with
        | none => rw [q] at h; cases h
        | some g' =>
          rw [q] at h
          cases h
          exact PId.items (hf _ _ q)
  · rename_i x p a b d pos
    split at h
    · rename_i hr
      obtain ⟨rfl, hb, _⟩ := hr
      obtain ⟨g1, g2, _, _⟩ := k.blt hb
      split at h
      · rename_i hs
        simp only [Bool.and_eq_true] at hs
        cases q : cAs f [a, b, d] with
        | none => rw [q] at h; cases h
        | some fs =>
          rw [q] at h
          cases h
          exact PId.range3 g1 g2 (cAs_ok hf q) (star_of [b, d] X.env hs.1.1) (plainStar pos X.env (es := [b, d]) (by simp [hs.1.2, hs.2]))
      · cases h
    · cases q : f (.Call (.Name x p) [a, b, d] [] pos) with
      | none => rw [q] at h; cases h
      | some g' =>
        rw [q] at h
        cases h
        exact PId.items (hf _ _ q)
  · rename_i e'
    split at h
    · cases q : f e with
      | none => rw [q] at h; cases h
      | some g' =>
        rw [q] at h
        cases h
        exact PId.items (hf _ _ q)
    · cases h
/-- what a comprehension gives: a new list; stored at once -/
structure PCd (X : Cx) (W : WX) (elt tg iter : Expr) (ifs : List Expr) (scope : Scope) (fl : M (List D)) : Prop where
  e : ∀ pos, PFd X W (.ListComp elt [⟨tg, iter, ifs, 0⟩] scope pos) fl
  s : ∀ (i : Nat) (y : Str) (py pos spos : Pos), X.N[i]? = some y → X.env.scope.names.lookup y = some .local → swapsWith (.ListComp elt [⟨tg, iter, ifs, 0⟩] scope pos) (some (.Name y py)) spos.line X.env = pure true →
    PSd X W (.Assign [.Name y py] (.ListComp elt [⟨tg, iter, ifs, 0⟩] scope pos) spos) (sSetL i fl)
  t : ∀ (i : Nat) (y : Str) (py pos spos : Pos), X.N[i]? = some y → X.env.scope.names.lookup y = some .local → swapsWith (.ListComp elt [⟨tg, iter, ifs, 0⟩] scope pos) (some (.Name y py)) spos.line X.env = pure true →
    PSd X W (.Assign [.Name y py] (.ListComp elt [⟨tg, iter, ifs, 0⟩] scope pos) spos) (sSet i (mCell fl))
theorem cItC_ok {f : Expr → Option (M D)} (k : CtOk c W X) (hf : ∀ e g, f e = some g → PEd X W e g) {tg e : Expr} {g : MI} (h : cItC c f tg e = some g) : PIW X W tg e g := by
  unfold cItC at h
  split at h
  · rename_i x p as pos
    split at h
    · cases q : cIt c f tg (.Call (.Name x p) as [] pos) with
      | none => rw [q] at h; cases h
      | some g' =>
        rw [q] at h
        cases h
        exact PIW.old (cIt_ok k hf q)
    · split at h
      · rename_i hr
        obtain ⟨rfl, hb, ht⟩ := hr
        obtain ⟨g1, g2, _, _⟩ := k.blt hb
        split at h
        · rename_i a
          split at h
          · rename_i hs
            cases q : cAs f [a] with
            | none => rw [q] at h; cases h
            | some fs =>
              rw [q] at h
              cases h
              cases tg with
              | Tuple es kk tp => exact PIW.enum g1 g2 (cAs_ok hf q) (star_of [] X.env hs)
              | _ => cases ht
          · cases h
        · cases h
      · split at h
        · rename_i hr
          obtain ⟨rfl, hb, ht⟩ := hr
          obtain ⟨g1, g2, _, _⟩ := k.blt hb
          split at h
          · rename_i a b
            split at h
            · rename_i hs
              rw [Bool.and_eq_true] at hs
              cases q : cAs f [a, b] with
              | none => rw [q] at h; cases h
              | some fs =>
                rw [q] at h
                cases h
                cases tg with
                | Tuple es kk tp => exact PIW.zip g1 g2 (cAs_ok hf q) (star_of [b] X.env hs.1) (plainStar pos X.env (es := [b]) (by simp [hs.2]))
                | _ => cases ht
            · cases h
          · cases h
        · cases q : f (.Call (.Name x p) as [] pos) with
          | none => rw [q] at h; cases h
          | some g' =>
            rw [q] at h
            cases h
            exact PIW.items (hf _ _ q)
  · split at h
    · cases q : f e with
      | none => rw [q] at h; cases h
      | some g' =>
        rw [q] at h
        cases h
        exact PIW.items (hf _ _ q)
    · cases h
theorem cRx_ok {f : Expr → Option (M D)} {cc : Expr → Expr → Expr → List Expr → Scope → Option (M (List D))} (k : CtOk c W X) (hf : ∀ e g, f e = some g → PEd X W e g)
    (hcc : ∀ elt tg iter ifs scope g, cc elt tg iter ifs scope = some g → ∀ p, PFd X W (.ListComp elt [⟨tg, iter, ifs, 0⟩] scope p) g) {e : Expr} {g : M D} (h : cRx c f cc e = some g) : PEd X W e g := by
  unfold cRx at h
  split at h
  · rename_i es p
    split at h
    · cases q : cAs f es with
      | none => rw [q] at h; cases h
      | some fs =>
        rw [q] at h
        cases h
        exact (PFd.lst (cAs_ok hf q)).cell
    · cases h
  · rename_i elt tg iter ifs scope p
    split at h
    · cases q : cc elt tg iter ifs scope with
      | none => rw [q] at h; cases h
      | some fl =>
        rw [q] at h
        cases h
        exact (hcc _ _ _ _ _ _ q p).cell
    · cases h
  · rename_i a b p
    split at h
    · split at h
      · rename_i h1 h2
        cases h
        exact PEd.addC (hf _ _ h1) (hf _ _ h2)
      · cases h
    · cases h
  · rename_i a lo hi p2 p
    split at h
    · split at h
      · rename_i h1 h2
        split at h
        · rename_i i hi
          cases h
          obtain ⟨x, p, rfl, a, b, d, e⟩ := k.slot hi
          exact PEd.cutVC a b d e (cPart_ok hf h1) (cPart_ok hf h2)
        · cases q : f a with
          | none => rw [q] at h; cases h
          | some f' =>
            rw [q] at h
            cases h
            exact PEd.cutC (hf _ _ q) (cPart_ok hf h1) (cPart_ok hf h2)
      · cases h
    · cases h
  · cases h
  · rename_i a b p _ hsl
    have hs : PlainIx b := by
      refine plainIx_of ?_
      cases b <;> first | rfl | exact absurd rfl (hsl _ _ _ _)
    split at h
    · split at h
      · rename_i g' h1
        split at h
        · rename_i i hi
          cases h
          obtain ⟨x, p, rfl, a, b, d, e⟩ := k.slot hi
          exact PEd.ixVC a b d e (hf _ _ h1) hs
        · cases q : f a with
          | none => rw [q] at h; cases h
          | some f' =>
            rw [q] at h
            cases h
            exact PEd.ixC (hf _ _ q) (hf _ _ h1) hs
      · cases h
    · cases h
  · rename_i x p a pos
    split at h
    · rename_i hb
      simp only [Bool.and_eq_true] at hb
      obtain ⟨⟨_, hb⟩, hst⟩ := hb
      obtain ⟨g1, g2, g3, g4⟩ := k.blt hb
      split at h
      · rename_i hx
        subst hx
        split at h
        · rename_i i hi
          cases h
          obtain ⟨y, p2, rfl, a, b, d, e⟩ := k.slot hi
          exact PEd.lenVC a b d e g1 g2
        · cases q : cAs f [a] with
          | none => rw [q] at h; cases h
          | some fs =>
            rw [q] at h
            cases h
            exact PEd.callB callLenC g1 g2 PySem.boot_len (cAs_ok hf q) g3 g4 (star_of [] X.env hst) (by rfl)
      · split at h
        · rename_i hx
          subst hx
          cases q : cAs f [a] with
          | none => rw [q] at h; cases h
          | some fs =>
            rw [q] at h
            cases h
            exact PEd.callB (callAll k.calm) g1 g2 (by decide +kernel) (cAs_ok hf q) g3 g4 (star_of [] X.env hst) (by rfl)
        · split at h
          · rename_i hx
            subst hx
            unfold revLOf at h
            split at h
            · rename_i y py a' pos'
              split at h
              · rename_i hb2
                simp only [Bool.and_eq_true, decide_eq_true_eq] at hb2
                obtain ⟨⟨hb2, hst2⟩, rfl⟩ := hb2
                obtain ⟨w1, w2, _, _⟩ := k.blt hb2
                cases q : f a' with
                | none => rw [q] at h; cases h
                | some g' =>
                  rw [q] at h
                  cases h
                  exact PEd.revL k.calm g1 g2 w1 w2 (hf _ _ q) (star_of [] X.env hst2) (star_of [] X.env hst)
              · cases h
            · cases h
          · cases h
    · cases h
  · rename_i o m apos pos
    split at h
    · rename_i hb
      simp only [Bool.and_eq_true, decide_eq_true_eq] at hb
      obtain ⟨⟨_, hl⟩, rfl⟩ := hb
      split at h
      · rename_i i hi
        cases h
        obtain ⟨y, p2, rfl, a, b, d, e⟩ := k.slot hi
        exact PEd.sel (PEd.pop a b d e hl) (PEd.popC (PEd.var a b d e) (by rfl) hl)
      · split at h
        · rename_i hbo
          cases q : f o with
          | none => rw [q] at h; cases h
          | some f' =>
            rw [q] at h
            cases h
            exact PEd.popC (hf _ _ q) (base_of _ X.env hbo) hl
        · cases h
    · cases h
  · rename_i o m apos a pos
    split at h
    · rename_i hb
      simp only [Bool.and_eq_true] at hb
      obtain ⟨⟨_, hl⟩, hst⟩ := hb
      have hs := star_of [] X.env hst
      split at h
      · rename_i i hi
        obtain ⟨y, p2, rfl, b1, b2, b3, b4⟩ := k.slot hi
        split at h
        · rename_i g' hg
          split at h
          · rename_i em
            subst em
            cases h
            exact PEd.sel (PEd.append b1 b2 b3 b4 (hf _ _ hg) hs (few_of pos X.env hst) hl) (PEd.appC (PEd.var b1 b2 b3 b4) (hf _ _ hg) (by rfl) hs (few_of pos X.env hst) hl)
          · split at h
            · rename_i em
              subst em
              cases h
              exact PEd.sel (PEd.extend b1 b2 b3 b4 (hf _ _ hg) hs (few_of pos X.env hst) hl) (PEd.extC (PEd.var b1 b2 b3 b4) (hf _ _ hg) (by rfl) hs (few_of pos X.env hst) hl)
            · cases h
        · cases h
      · split at h
        · rename_i hbo
          split at h
          · rename_i h' g' hh hg
            split at h
            · rename_i em
              subst em
              cases h
              exact PEd.appC (hf _ _ hh) (hf _ _ hg) (base_of _ X.env hbo) hs (few_of pos X.env hst) hl
            · split at h
              · rename_i em
                subst em
                cases h
                exact PEd.extC (hf _ _ hh) (hf _ _ hg) (base_of _ X.env hbo) hs (few_of pos X.env hst) hl
              · split at h
                · rename_i em
                  subst em
                  cases h
                  exact PEd.meth1 F.slot_str_join F.type_str_join mtJoinC (hf _ _ hh) (hf _ _ hg) hs (base_of _ X.env hbo) hl
                · cases h
          · cases h
        · cases h
    · cases h
  · cases h
theorem fnsOf_ok (k : CtOk c W X) {n : Nat} : ∀ {ns : List Expr} {hs : List Fn}, fnsOf c n ns = some hs → ∃ vs : List V, PA X ns (fun _ H Q => Q vs H) ∧ (∀ (j : Nat) (h : Fn) (v : V), hs[j]? = some h → vs[j]? = some v → PickOk X h v) ∧ hs.length = vs.length ∧ vs.length = ns.length
  | [], hs, h => by
    cases h
    exact ⟨[], pa_nil, fun j h v e => (by simp at e), rfl, rfl⟩
  | e :: es, hs, h => by
    unfold fnsOf at h
    split at h
    · rename_i e1
      cases e1
    · rename_i x p es' e1
      cases e1
      split at h
      · rename_i hg
        rw [Bool.and_eq_true] at hg
        split at h
        · rename_i hh m r h1 h2
          split at h
          · cases h
            obtain ⟨kk, f, fd, ps, F, l1, hr, hm, hk, hb, hn⟩ := k.fn x hh m h1
            obtain ⟨vs, i1, i2, i3, i4⟩ := fnsOf_ok k h2
            obtain ⟨d1, d2, d3⟩ := plain_d hg.2
            refine ⟨.ref f :: vs, pa_cons (te := tC (.ref f)) (pe_glob (k.glo hg.1) hm rfl d1) i1 (star_of es X.env rfl), fun j h v z1 z2 => ?_, by simp [i3], by simp [i4]⟩
            cases j with
            | zero =>
              simp at z1 z2
              subst z1 z2
              exact ⟨kk, f, fd, ps, rfl, F, fun ds mu hl => hn ds mu (by omega), hr, hk, hb⟩
            | succ j => exact i2 j h v (by simpa using z1) (by simpa using z2)
          · cases h
        · cases h
      · cases h
    · cases h
theorem cR2_ok {f : Expr → Option (M D)} (k : CtOk c W X) (hf : ∀ e g, f e = some g → PEd X W e g) {e : Expr} {g : M D} (h : cR2 c f e = some g) : PEd X W e g := by
  unfold cR2 at h
  split at h
  · rename_i a n _ _ _ _ _
    split at h
    · rename_i hn
      rw [Bool.and_eq_true] at hn
      have e1 := of_decide_eq_true hn.2
      subst e1
      cases q : f a with
      | none => rw [q] at h; cases h
      | some f' =>
        rw [q] at h
        cases h
        exact PEd.revS (hf _ _ q)
    · cases h
  · rename_i x p a pos
    split at h
    · rename_i hn
      simp only [Bool.and_eq_true] at hn
      obtain ⟨⟨⟨_, hb⟩, hs⟩, hd⟩ := hn
      have e1 := of_decide_eq_true hd
      subst e1
      obtain ⟨g1, g2, _, _⟩ := k.blt hb
      cases q : f a with
      | none => rw [q] at h; cases h
      | some f' =>
        rw [q] at h
        cases h
        exact PEd.dictOf g1 g2 (hf _ _ q) (star_of [] X.env hs)
    · cases h
  · rename_i ns p1 i p2 a as pos
    split at h
    · rename_i hn
      simp only [Bool.and_eq_true, List.all_cons] at hn
      obtain ⟨⟨⟨_, hp⟩, hs1, hs2⟩, hl⟩ := hn
      have hl := of_decide_eq_true hl
      split at h
      · rename_i hs g' fs h1 h2 h3
        cases h
        obtain ⟨vs, i1, i2, i3, i4⟩ := fnsOf_ok k h1
        exact PEd.pick i1 i2 i3 (by rw [i4, sizeLine_eq]; omega) (hf _ _ h2) (plainIx_of hp) k.tk (cAs_ok hf h3) (star_of as X.env hs1) (plainStar pos X.env hs2)
      · cases h
    · cases h
  · cases h
/-- THE COMPILER TELLS THE TRUTH: expressions -/
theorem cAll_ok : ∀ n : Nat, (∀ c e f, cE n c e = some f → ∀ W X, CtOk c W X → PEd X W e f) ∧ (∀ c e f, cT n c e = some f → ∀ W X, CtOk c W X → PTd X W e f) ∧
    (∀ c elt tg iter ifs scope f, cC n c elt tg iter ifs scope = some f → ∀ W X, CtOk c W X → PCd X W elt tg iter ifs scope f)
  | 0 => ⟨fun c e f h => (by cases h), fun c e f h => (by cases h), fun c elt tg iter ifs scope f h => (by cases h)⟩
  | n + 1 => by
    obtain ⟨ihE, ihT, ihC⟩ := cAll_ok n
    refine ⟨fun c e f h W X k => ?_, fun c e f h W X k => ?_, fun c elt tg iter ifs scope f h W X k => ?_⟩
    · have hf : ∀ e g, cE n c e = some g → PEd X W e g := fun e g q => ihE c e g q W X k
      have hu : X.A.units + 64 < cLine := Nat.lt_of_succ_lt k.un
      unfold cE at h
      split at h
      · rename_i g' hg'
        cases h
        exact cRx_ok k hf (fun elt tg iter ifs scope g q p => (ihC c _ _ _ _ _ _ q W X k).e p) hg'
      rename_i hnone
      clear hnone
      split at h
      · rename_i g' hg'
        cases h
        exact cR2_ok k hf hg'
      rename_i hnone
      clear hnone
      split at h
      · cases h; exact PEd.int
      · cases h; exact PEd.bl
      · cases h; exact PEd.non
      · split at h
        · rename_i x _ _ ho
          cases h
          exact PEd.str ho
        · cases h
      · rename_i x p
        split at h
        · rename_i i hi
          cases h
          obtain ⟨a, b, d, e⟩ := k.rd hi
          exact PEd.var a b d e
        · split at h
          · rename_i hg
            rw [Bool.and_eq_true] at hg
            cases q : c.gl x with
            | none => rw [q] at h; cases h
            | some d =>
              rw [q] at h
              cases h
              obtain ⟨u, v, h1, h2, h3⟩ := k.gl x d q
              exact PE.imp (pe_glob (k.glo hg.1) h1 h2 (plain_d hg.2).1) fun _ _ _ z => tE_pure z fun Fx ι => h3 _ _ _
          · cases h
      · rename_i a op b p
        split at h
        · rename_i h1 h2
          cases h
          exact PEd.op (opBin op) (hf _ _ h1) (hf _ _ h2)
        · cases h
      · rename_i a p
        cases q : cE n c a with
        | none => rw [q] at h; cases h
        | some f' =>
          rw [q] at h
          cases h
          exact PEd.not (hf _ _ q)
      · rename_i a p
        cases q : cE n c a with
        | none => rw [q] at h; cases h
        | some f' =>
          rw [q] at h
          cases h
          exact PEd.neg (hf _ _ q)
      · exact cBV_ok hf h
      · split at h
        · rename_i t a b p t' f' g' h1 h2 h3
          cases h
          exact PEd.ifExp (ihT c _ _ h1 W X k) (hf _ _ h2) (hf _ _ h3)
        · cases h
      · split at h
        · rename_i hm
          split at h
          · rename_i h1 h2
            cases h
            exact PEd.cmp (opCmpOf k.un _ _) (hf _ _ h1) (hf _ _ h2) (noMark_of _ hm)
          · cases h
        · cases h
      · split at h
        · rename_i hm
          split at h
          · rename_i h1 h2 h3
            cases h
            exact PEd.chain (opCmp hu _) (opCmp hu _) (hf _ _ h1) (hf _ _ h2) (hf _ _ h3) (noMark_of _ hm)
          · cases h
        · cases h
      · rename_i es kk p
        cases q : cAs (cE n c) es with
        | none => rw [q] at h; cases h
        | some fs =>
          rw [q] at h
          cases h
          exact PEd.tup (cAs_ok hf q)
      · rename_i es p
        cases q : cAs (cE n c) es with
        | none => rw [q] at h; cases h
        | some fs =>
          rw [q] at h
          cases h
          exact (PFd.lst (cAs_ok hf q)).frozen
      · rename_i a lo hi p2 p
        split at h
        · rename_i h1 h2
          split at h
          · rename_i i hi
            cases h
            obtain ⟨x, p, rfl, a, b, d, e⟩ := k.slot hi
            exact PEd.cutV a b d e (cPart_ok hf h1) (cPart_ok hf h2)
          · cases q : cE n c a with
            | none => rw [q] at h; cases h
            | some f' =>
              rw [q] at h
              cases h
              exact PEd.cut (hf _ _ q) (cPart_ok hf h1) (cPart_ok hf h2)
        · cases h
      · rename_i ks vs p
        split at h
        · rename_i hl
          cases q : cPairs (cE n c) ks vs with
          | none => rw [q] at h; cases h
          | some trs =>
            rw [q] at h
            cases h
            exact PEd.dict (cPairs_ok hf q) hl
        · cases h
      · rename_i a b p _
        split at h
        · rename_i hp
          rw [Bool.and_eq_true] at hp
          split at h
          · rename_i f' g' h1 h2
            cases h
            exact PEd.dget (by omega) (hf _ _ h1) (hf _ _ h2) (plainIx_of hp.2)
          · cases h
        split at h
        · rename_i hp
          split at h
          · rename_i g' h1
            split at h
            · rename_i i hi
              cases h
              obtain ⟨x, p, rfl, a, b, d, e⟩ := k.slot hi
              exact PEd.ixV a b d e (hf _ _ h1) (plainIx_of hp)
            · cases q : cE n c a with
              | none => rw [q] at h; cases h
              | some f' =>
                rw [q] at h
                cases h
                exact PEd.ix (hf _ _ q) (hf _ _ h1) (plainIx_of hp)
          · cases h
        · cases h
      · rename_i elt tg iter ifs scope p
        cases q : cC n c elt tg iter ifs scope with
        | none => rw [q] at h; cases h
        | some f' =>
          rw [q] at h
          cases h
          exact ((ihC c _ _ _ _ _ _ q W X k).e p).frozen
      · rename_i x p pos
        split at h
        · rename_i h' hx
          split at h
          · rename_i hg
            rw [Bool.and_eq_true] at hg
            cases h
            obtain ⟨kk, f, fd, ps, F, hl, hr, hm, hk, hb, hn⟩ := k.fn x _ _ hx
            cases ps with
            | nil => exact PEd.call0 F hr (k.glo hg.1) hm hk hb k.tk (plain_d hg.2).1
            | cons _ _ => cases hl
          · cases h
        · cases h
      · rename_i x p a as pos
        split at h
        · rename_i h' m hx
          split at h
          · rename_i hg
            rw [Bool.and_eq_true] at hg
            cases q : cAs (cE n c) (a :: as) with
            | none => rw [q] at h; cases h
            | some fs =>
              rw [q] at h
              cases h
              obtain ⟨kk, f, fd, ps, F, hl, hr, hm, hk, hb, hn⟩ := k.fn x _ _ hx
              have hs := cAs_star q
              simp only [List.all_cons, Bool.and_eq_true] at hs
              exact PEd.callM _ F (fun ds mu z => hn ds mu (by rw [← hl]; exact z)) hr (k.glo hg.1) hm hk hb k.tk (cAs_ok hf q) (plain_d hg.2).1 (star_of as X.env hs.1) (plainStar pos X.env hs.2)
          · cases h
        · split at h
          · rename_i hb
            split at h
            · rename_i hi
              subst hi
              split at h
              · rename_i y p2
                split at h
                · rename_i hy
                  simp only [Bool.and_eq_true] at hy
                  split at h
                  · rename_i t f' ht h1
                    cases h
                    obtain ⟨g1, g2, g3, g4⟩ := k.blt hb
                    obtain ⟨j1, j2, j3, j4⟩ := k.blt hy.1.1
                    exact PEd.isi (hf _ _ h1) g1 g2 (by decide +kernel) j1 j2 (tyOf_ok ht) j3 j4 (star_of _ X.env hy.1.2)
                  · cases h
                · cases h
              · rename_i y p2 z p3 nn p4
                split at h
                · rename_i hy
                  simp only [Bool.and_eq_true] at hy
                  split at h
                  · rename_i t t' f' ht ht' h1
                    cases h
                    obtain ⟨g1, g2, g3, g4⟩ := k.blt hb
                    obtain ⟨j1, j2, j3, j4⟩ := k.blt hy.1.1
                    obtain ⟨l1, l2, l3, l4⟩ := k.blt hy.1.2
                    exact PEd.isi2 (hf _ _ h1) g1 g2 (by decide +kernel) j1 j2 (tyOf_ok ht) j3 j4 l1 l2 (tyOf_ok ht') l3 l4 (star_of _ X.env hy.2)
                  · cases h
                · cases h
              · cases h
            · split at h
              · rename_i ho
                have gen : ∀ g, (cAs (cE n c) (a :: as)).map (mCallB kLen) = some g → PEd X W (.Call (.Name x p) (a :: as) [] pos) g := fun g hg => by
                  cases q : cAs (cE n c) (a :: as) with
                  | none => rw [q] at hg; cases hg
                  | some fs =>
                    rw [q] at hg
                    cases hg
                    exact PEd.bl' (bl := .len) k ho hb (cAs_ok hf q) (cAs_star q)
                split at h
                · rename_i i hi
                  cases h
                  obtain ⟨y, p2, rfl, a, b, d, e⟩ := k.slot hi
                  obtain ⟨g1, g2, _, _⟩ := k.blt hb
                  have hxl : x = "len" := by
                    unfold blOf at ho
                    split at ho
                    · assumption
                    · repeat (first | cases ho | split at ho)
                  subst hxl
                  exact PEd.lenV a b d e g1 g2
                · exact gen _ h
              · rename_i bl ho
                cases q : cAs (cE n c) (a :: as) with
                | none => rw [q] at h; cases h
                | some fs =>
                  rw [q] at h
                  cases h
                  exact PEd.bl' k ho hb (cAs_ok hf q) (cAs_star q)
              · cases h
          · cases h
      · rename_i o m apos pos
        split at h
        · rename_i hl
          split at h
          · rename_i hm
            subst hm
            split at h
            · rename_i hb
              cases q : cE n c o with
              | none => rw [q] at h; cases h
              | some f' =>
                rw [q] at h
                cases h
                exact PEd.clear (hf _ _ q) (base_of _ X.env hb) hl
            · cases h
          split at h
          · rename_i i hi
            obtain ⟨y, p2, rfl, a, b, d, e⟩ := k.slot hi
            split at h
            · rename_i hm
              subst hm
              cases h
              exact PEd.pop a b d e hl
            · cases h
          · cases h
        · cases h
      · rename_i o m apos a pos
        split at h
        · rename_i hl
          rw [Bool.and_eq_true] at hl
          have hs := star_of [] X.env hl.2
          split at h
          · rename_i ms hms
            split at h
            · rename_i hb
              split at h
              · rename_i f' hf'
                split at h
                · rename_i i hi
                  cases h
                  obtain ⟨y, p2, rfl, a, b, d, e⟩ := k.slot hi
                  unfold msOf at hms
                  split at hms
                  · rename_i em
                    cases hms
                    subst em
                    exact PEd.meth1V F.slot_str_join F.type_str_join mtJoin (hf _ _ hf') a b d e (base_of _ X.env hb) hl.1
                  · split at hms
                    · rename_i em
                      cases hms
                      subst em
                      exact PEd.meth1V F.slot_str_index F.type_str_index mtIndex (hf _ _ hf') a b d e (base_of _ X.env hb) hl.1
                    · cases hms
                · cases q : cE n c a with
                  | none => rw [q] at h; cases h
                  | some g' =>
                    rw [q] at h
                    cases h
                    unfold msOf at hms
                    split at hms
                    · rename_i em
                      cases hms
                      subst em
                      exact PEd.meth1 F.slot_str_join F.type_str_join mtJoin (hf _ _ hf') (hf _ _ q) hs (base_of _ X.env hb) hl.1
                    · split at hms
                      · rename_i em
                        cases hms
                        subst em
                        exact PEd.meth1 F.slot_str_index F.type_str_index mtIndex (hf _ _ hf') (hf _ _ q) hs (base_of _ X.env hb) hl.1
                      · cases hms
              · cases h
            · cases h
          · split at h
            · rename_i em
              subst em
              split at h
              · rename_i hb
                split at h
                · rename_i hf' hg
                  cases h
                  exact PEd.update (hf _ _ hf') (hf _ _ hg) (base_of _ X.env hb) hl.1 (few_of pos X.env hl.2) hs
                · cases h
              · cases h
            split at h
            · rename_i i g' hi hg
              obtain ⟨y, p2, rfl, b1, b2, b3, b4⟩ := k.slot hi
              split at h
              · rename_i em
                subst em
                cases h
                exact PEd.append b1 b2 b3 b4 (hf _ _ hg) hs (few_of pos X.env hl.2) hl.1
              · split at h
                · rename_i em
                  subst em
                  cases h
                  exact PEd.extend b1 b2 b3 b4 (hf _ _ hg) hs (few_of pos X.env hl.2) hl.1
                · cases h
            · cases h
        · cases h
      · rename_i o m apos a b pos
        split at h
        · rename_i hl
          simp only [Bool.and_eq_true] at hl
          split at h
          · rename_i i f' g' hi hf' hg'
            obtain ⟨y, p2, rfl, b1, b2, b3, b4⟩ := k.slot hi
            split at h
            · rename_i em
              subst em
              cases h
              exact PEd.insert b1 b2 b3 b4 (hf _ _ hf') (hf _ _ hg') (star_of [b] X.env hl.1.2) (star_of [] X.env hl.2) (by rw [star_of [b] X.env hl.1.2, star_of [] X.env hl.2]; rfl) (plainStar pos X.env (es := [b]) (by simp [hl.2])) hl.1.1
            · cases h
          · cases h
        · cases h
      · cases h
    · have hf : ∀ e g, cE n c e = some g → PEd X W e g := fun e g q => ihE c e g q W X k
      have ht : ∀ e g, cT n c e = some g → PTd X W e g := fun e g q => ihT c e g q W X k
      have hu : X.A.units + 64 < cLine := Nat.lt_of_succ_lt k.un
      unfold cT at h
      split at h
      · rename_i a p
        cases q : cT n c a with
        | none => rw [q] at h; cases h
        | some f' =>
          rw [q] at h
          cases h
          exact PTd.not (ht _ _ q)
      · exact PW.pt (cBT_ok ht h)
      · split at h
        · rename_i hm
          split at h
          · rename_i h1 h2
            cases h
            exact PTd.cmp (opCmpOf k.un _ _) (hf _ _ h1) (hf _ _ h2) (noMark_of _ hm)
          · cases h
        · cases h
      · split at h
        · rename_i hm
          split at h
          · rename_i h1 h2 h3
            cases h
            exact PTd.chain (opCmp hu _) (opCmp hu _) (hf _ _ h1) (hf _ _ h2) (hf _ _ h3) (noMark_of _ hm)
          · cases h
        · cases h
      · split at h
        · rename_i hp
          cases q : cE n c e with
          | none => rw [q] at h; cases h
          | some f' =>
            rw [q] at h
            cases h
            exact PTd.val (hf _ _ q) (plainTest_of X.env hp)
        · cases h
    · have hf : ∀ e g, cE n c e = some g → PEd X W e g := fun e g q => ihE c e g q W X k
      unfold cC at h
      split at h
      · rename_i hb
        rw [Bool.and_eq_true] at hb
        have hblk : BlkOk X.N X.env.scope scope (ownOf c.N scope.names) := by
          refine blkOk_by ?_
          have e1 := hb.1
          unfold blkOkB at e1
          unfold blkC
          rw [k.N, k.nm]
          exact e1
        have hfold := fold_of X.env hb.2
        split at h
        · split at h
          · rename_i its T f' h1 h2 h3
            split at h
            · rename_i ht
              have hT := tgIn_of ht
              have kb := fun s H C cl fp => k.blk (scope := scope) hblk.kind s H C cl fp
              split at h
              · cases h
                exact ⟨fun pos => PFd.compC0 k.calm k.nd (cItC_ok k hf h1) hblk hT (fun s H C cl fp => cTg_ok (kb s H C cl fp) h2) (fun s H C cl fp => ihE _ _ _ h3 _ _ (kb s H C cl fp)) hfold,
                  fun i y py pos spos hy hyl hsw => PSd.setLC0 k.calm k.nd hy hyl hsw (cItC_ok k hf h1) hblk hT (fun s H C cl fp => cTg_ok (kb s H C cl fp) h2) (fun s H C cl fp => ihE _ _ _ h3 _ _ (kb s H C cl fp)) hfold,
                  fun i y py pos spos hy hyl hsw => PSd.setCC0 k.calm k.nd hy hyl hsw (cItC_ok k hf h1) hblk hT (fun s H C cl fp => cTg_ok (kb s H C cl fp) h2) (fun s H C cl fp => ihE _ _ _ h3 _ _ (kb s H C cl fp)) hfold⟩
              · rename_i t
                cases q : cT n (blkCt c scope) t with
                | none => rw [q] at h; cases h
                | some g' =>
                  rw [q] at h
                  cases h
                  exact ⟨fun pos => PFd.compC1 k.calm k.nd (cItC_ok k hf h1) hblk hT (fun s H C cl fp => cTg_ok (kb s H C cl fp) h2) (fun s H C cl fp => ihT _ _ _ q _ _ (kb s H C cl fp)) (fun s H C cl fp => ihE _ _ _ h3 _ _ (kb s H C cl fp)) hfold,
                    fun i y py pos spos hy hyl hsw => PSd.setLC1 k.calm k.nd hy hyl hsw (cItC_ok k hf h1) hblk hT (fun s H C cl fp => cTg_ok (kb s H C cl fp) h2) (fun s H C cl fp => ihT _ _ _ q _ _ (kb s H C cl fp)) (fun s H C cl fp => ihE _ _ _ h3 _ _ (kb s H C cl fp)) hfold,
                    fun i y py pos spos hy hyl hsw => PSd.setCC1 k.calm k.nd hy hyl hsw (cItC_ok k hf h1) hblk hT (fun s H C cl fp => cTg_ok (kb s H C cl fp) h2) (fun s H C cl fp => ihT _ _ _ q _ _ (kb s H C cl fp)) (fun s H C cl fp => ihE _ _ _ h3 _ _ (kb s H C cl fp)) hfold⟩
              · cases h
            · cases h
          · cases h
        · split at h
          · rename_i its T f' h1 h2 h3
            split at h
            · rename_i ht
              have hT := tgIn_of ht
              have kb := fun s H C cl fp => k.blk (scope := scope) hblk.kind s H C cl fp
              split at h
              · cases h
                exact ⟨fun pos => PFd.comp0 k.calm k.nd (cIt_ok k hf h1) hblk hT (fun s H C cl fp => cTg_ok (kb s H C cl fp) h2) (fun s H C cl fp => ihE _ _ _ h3 _ _ (kb s H C cl fp)) hfold,
                  fun i y py pos spos hy hyl hsw => PSd.setC0 k.calm k.nd hy hyl hsw (cIt_ok k hf h1) hblk hT (fun s H C cl fp => cTg_ok (kb s H C cl fp) h2) (fun s H C cl fp => ihE _ _ _ h3 _ _ (kb s H C cl fp)) hfold,
                  fun i y py pos spos hy hyl hsw => PSd.setT0 k.calm k.nd hy hyl hsw (cIt_ok k hf h1) hblk hT (fun s H C cl fp => cTg_ok (kb s H C cl fp) h2) (fun s H C cl fp => ihE _ _ _ h3 _ _ (kb s H C cl fp)) hfold⟩
              · rename_i t
                cases q : cT n (blkCt c scope) t with
                | none => rw [q] at h; cases h
                | some g' =>
                  rw [q] at h
                  cases h
                  exact ⟨fun pos => PFd.comp1 k.calm k.nd (cIt_ok k hf h1) hblk hT (fun s H C cl fp => cTg_ok (kb s H C cl fp) h2) (fun s H C cl fp => ihT _ _ _ q _ _ (kb s H C cl fp)) (fun s H C cl fp => ihE _ _ _ h3 _ _ (kb s H C cl fp)) hfold,
                    fun i y py pos spos hy hyl hsw => PSd.setC1 k.calm k.nd hy hyl hsw (cIt_ok k hf h1) hblk hT (fun s H C cl fp => cTg_ok (kb s H C cl fp) h2) (fun s H C cl fp => ihT _ _ _ q _ _ (kb s H C cl fp)) (fun s H C cl fp => ihE _ _ _ h3 _ _ (kb s H C cl fp)) hfold,
                    fun i y py pos spos hy hyl hsw => PSd.setT1 k.calm k.nd hy hyl hsw (cIt_ok k hf h1) hblk hT (fun s H C cl fp => cTg_ok (kb s H C cl fp) h2) (fun s H C cl fp => ihT _ _ _ q _ _ (kb s H C cl fp)) (fun s H C cl fp => ihE _ _ _ h3 _ _ (kb s H C cl fp)) hfold⟩
              · cases h
            · cases h
          · cases h
      · cases h
end
end Pv
/-! PvE: own exceptions: made, raised. -/
namespace Pv
open PySem PySem.Spec L2
section
variable {X : Cx} {S : Addr} {mc : Value} {e : Expr} {es : List Expr} {ta : TA} {x : Str} {p1 p2 pos : Pos}
/-- Base.__init__(self, ..), Base an own class over ValueError that has no own __init__ -/
theorem pe_seinit (hg : Gl X x) (hm : X.mg x = some (.ref S)) (hga : PySem.W.specialIn X.K (.ref S) "__getattribute__" = some (some (.builtin "type.__getattribute__"))) (hr : PySem.W.readsIn X.K S mc = true)
    (vV : PySem.W.findCls X.K (.ref S) mc "__init__" = some (.val (.builtin "ValueError.__init__"))) (ha : PA X (e :: es) ta) (hdb : (x == ("__debug__" : Str)) = false)
    (hline : (p2.endLine == pos.line) = true) (hform : methodCallForm ((e :: es).length + ([] : List Keyword).length) (backTo pos (starEach (e :: es) X.env)) (backToKw pos (keywordEach [] X.env)) = true)
    (he : starEach (e :: es) X.env = (false, eval e X.env) :: starEach es X.env) (hpl : (backTo pos (starEach es X.env)).any (·.1) = false) :
    PE X (.Call (.Attribute (.Name x p1) "__init__" p2) (e :: es) [] pos) (tVeI X.K ta) := by
  refine ⟨fun pins s σ H Q I h => ?_⟩
  rw [arm_eval_Call]
  refine wpAny_bind (show wpAny _ _ (eval (.Name x p1) X.env) _ _ _ from ld_glob I hg hm ?_ hdb)
  refine wpAny_bind (wpAny_standAt ?_)
  have hpos : methodCallPos true (.Name x p1) X.env p2 pos = pure pos := by unfold methodCallPos; simp [hline]
  unfold methodCall
  rw [hform]
  refine wpAny_bind (wpAny_holding ?_)
  refine PySem.W.method_cls I.kIn hga (PySem.W.cls_value I.kIn hr vV (by decide +kernel) ?_)
  refine wpAny_bind (wpAny_of_eq hpos ?_)
  show wpAny _ _ (callWith pos (Value.builtin "ValueError.__init__") [] (backTo pos (starEach (e :: es) X.env)) []) _ _ _
  refine PyProof.Rows.callWith_method1 (thn (ha.run pos pins _ σ H _ (I.tok _) h) fun us s1 ⟨vs, H1, I1, r1, a, C, ws, ev, hl, T, ea, q⟩ => ?_) he hpl
  subst ev
  cases r1 with
  | @cons _ u0 _ ur ra rw' =>
    obtain rfl : u0 = Value.ref a := ra
    have hlen : ur.length ≤ sizeLine := by
      rw [← Paired.length rw', sizeLine_eq]
      omega
    exact oinit_ok T I1 ea hlen fun s' J => ⟨.non, H1, J, rfl, q⟩
/-- C(e, ..), its context None -/
theorem pmk_oexN {CX : CXT} {C fI : Addr} {k : Nat} {fd : FuncData} {ps : List Str} {sp : Sp} {p : Pos} (T : OexC X.K C) (iC : PySem.W.findIn X.K (.ref C) "__init__" = some (some (.ref fI))) (tI : PySem.W.typeIn X.K (.ref fI) = some (.type "function"))
    (F1 : FnOk X.prog X.w X.K X.mg X.base CX k fI fd ps sp) (hr : Room (k + 1) X.A) (hb : Binds X.K fd ps []) (hx : Passes CX X (fun _ _ _ => False)) (hg : Gl X x) (hm : X.mg x = some (.ref C)) (ha : PA X (e :: es) ta)
    (hdb : (x == ("__debug__" : Str)) = false) (he : starEach (e :: es) X.env = (false, eval e X.env) :: starEach es X.env) (hpl : (backTo pos (starEach es X.env)).any (·.1) = false) :
    L2N.PMk X (.Call (.Name x p) (e :: es) [] pos) (tMkO C sp [] ta) := by
  intro pins s σ H Q I h
  obtain ⟨nm, q, N, bs, bm, sn, sub, ab, col, dd, k0, k1, k2, k3, k5, hC, hbm⟩ := T.cls
  refine wpAny_Call_Name_kw (ld_glob I hg hm ?_ hdb)
  refine PySem.W.callWith_K (h₀ := X.base) I.ok.mod.kin T.kC (thn (ha.run pos pins s σ H _ I h) fun us s1 ⟨vs, H1, I1, r1, hz, q1⟩ => ⟨I1.kIn, ?_⟩) he hpl
  show wpAny _ _ (call (.ref C) us) _ _ _
  obtain ⟨hp, g, dr, tk, os⟩ := s1
  have hsz : hp.objs.size ≤ hp.objs.size + 1 := Nat.le_succ _
  have hn : H1 (hp.objs.size + 1) = none := I1.hok.fresh hsz
  have hq := q1 (hp.objs.size + 1) hn
  rw [List.append_nil] at hq
  have kk : ∀ b o, hp.get? b = some o → ((hp.push (PySem.W.kdv_tup us)).push (PySem.HandSPX.excO C hp.objs.size)).get? b = some o := fun b o e => Heap.get?_push_of_some _ (Heap.get?_push_of_some _ e)
  have hget : ((hp.push (PySem.W.kdv_tup us)).push (PySem.HandSPX.excO C hp.objs.size)).get? (hp.objs.size + 1) = some (PySem.HandSPX.excO C hp.objs.size) := by heap_get
  have I2 : Inv X pins σ (upd H1 (hp.objs.size + 1) (exo (hp.objs.size + 1) C none)) ⟨(hp.push (PySem.W.kdv_tup us)).push (PySem.HandSPX.excO C hp.objs.size), g, dr, tk, os⟩ :=
    I1.laid (t' := tk) (a := hp.objs.size + 1) (o := exo (hp.objs.size + 1) C none) (h' := (hp.push (PySem.W.kdv_tup us)).push (PySem.HandSPX.excO C hp.objs.size)) kk hsz (exo_ok hget)
  have r2 : Vals (V.ref (hp.objs.size + 1) :: vs) (Value.ref (hp.objs.size + 1) :: us) := .cons rfl r1
  have hl : (Value.ref (hp.objs.size + 1) :: us ++ []).length = ps.length := by
    have e := r2.length
    rw [F1.len _ _ _ _ hq] at e
    rw [List.append_nil]
    exact e.symm
  have hus : us.length ≤ sizeLine := by
    rw [← Paired.length r1, sizeLine_eq]
    omega
  have b2 := hb _ (Value.ref (hp.objs.size + 1) :: us) I2.kIn hl
  rw [List.append_nil] at b2
  refine wpAny_call (PySem.HandSPX.call_own F.excBase_ValueError (fun Y => PySem.HandSPX.refsVE_contains Y bm hbm) (I1.kIn _ _ hC) (PySem.W.looks_findIn I1.kIn iC) (fun self => PySem.W.bind_fn I1.kIn self tI) hus
    (codeAny_mono (F1.run _ X.stack _ _ ⟨Value.ref (hp.objs.size + 1) :: us, []⟩ (Value.ref (hp.objs.size + 1) :: us) _ _ (fun _ _ _ => False) (hr.make C us []) (I2.env0.make C us []) b2 r2 hq) fun r s' hq' => ?_))
  cases r with
  | error er => exact hx pins σ _ _ er s' I2 hq'
  | ok fl =>
    cases fl with
    | ret u =>
      obtain ⟨v, H2, os2, bare2, un2, hok2, rv, ev, d, fs, ea, ed, hd1, q2⟩ := hq'
      subst ev
      obtain ⟨h2, g2, d2, t2, os'⟩ := s'
      obtain ⟨t0, G, J, kG, ge, hoe, na⟩ := mk_end0 (d2 := d2) (t2 := t2) I1 hsz kk un2 hok2 os2 bare2 ea ed hd1
      refine ⟨rv, hp.objs.size + 1, _, _, ⟨G, g2, d2, t2, os'⟩, _, .ref C, some d, rfl, J, kG, ge, hoe, ⟨rfl, rfl, fun vs hv => ?_⟩, rfl, rfl, na, rfl, bare2, raises_own T.exC T.tyC, q2⟩
      cases hv
      rfl
    | next => exact False.elim hq'
    | brk => exact False.elim hq'
    | cont => exact False.elim hq'
end
/-- the assignments of an __init__: self.f = f's slot -/
def initT (K : PySem.W.Frag) : List (Str × Nat) → TS
  | [] => tNext
  | (f, i) :: r => tSeq (tOst K f (tVar 0) (tVar i)) (initT K r)
def putF (σ : L2.St) : List (Str × Nat) → List (Str × V) → List (Str × V)
  | [], acc => acc
  | (f, i) :: r, acc => putF σ r ((f, (σ[i]?.getD none).getD .non) :: acc)
theorem putF_len (σ : L2.St) : ∀ (fs : List (Str × Nat)) (acc : List (Str × V)), (putF σ fs acc).length = fs.length + acc.length
  | [], acc => by simp [putF]
  | (f, i) :: r, acc => by
    have := putF_len σ r ((f, (σ[i]?.getD none).getD .non) :: acc)
    simp only [putF, this, List.length_cons]
    omega
theorem upd_upd {H : Hp} {d : Addr} {o o' : HO} : upd (upd H d o) d o' = upd H d o' := by
  funext b
  by_cases h : b = d
  · subst h; rw [upd_same, upd_same]
  · rw [upd_ne h, upd_ne h, upd_ne h]
theorem upd_self {H : Hp} {d : Addr} {o : HO} (h : H d = some o) : upd H d o = H := by
  funext b
  by_cases hb : b = d
  · subst hb; rw [upd_same, h]
  · rw [upd_ne hb]
theorem initT_more {K : PySem.W.Frag} {σ : L2.St} {Dn : Ends} {a C dx : Addr} (T : OexC K C) (h0 : σ[0]? = some (some (.ref a))) (hne : dx ≠ a) : ∀ (fs : List (Str × Nat)) (acc : List (Str × V)) (H : Hp), (∀ p ∈ fs, PySem.W.findIn K (.ref C) p.1 = some none ∧ ∃ v, σ[p.2]? = some (some v)) →
    fs.length + acc.length ≤ 900 → H a = some (exo a C (some dx)) → H dx = some (exd dx acc) → Dn.nx σ (upd H dx (exd dx (putF σ fs acc))) → initT K fs Dn σ H
  | [], acc, H, _, _, _, ed, q => by
    rw [show putF σ [] acc = acc from rfl, upd_self ed] at q
    exact q
  | (f, i) :: r, acc, H, hf, hl, ea, ed, q => by
    obtain ⟨f1, v, f2⟩ := hf (f, i) List.mem_cons_self
    simp only [List.length_cons] at hl
    have hv : (σ[i]?.getD none).getD .non = v := by rw [f2]; rfl
    refine ⟨v, f2, .ref a, h0, a, C, rfl, T, f1, .inr ⟨dx, acc, ea, ed, by omega, ?_⟩⟩
    refine initT_more T h0 hne r ((f, v) :: acc) _ (fun p hp => hf p (List.mem_cons_of_mem _ hp)) (by simp only [List.length_cons]; omega) ?_ upd_same ?_
    · rw [upd_ne (Ne.symm hne)]
      exact ea
    · rw [upd_upd]
      have : putF σ ((f, i) :: r) acc = putF σ r ((f, v) :: acc) := by simp only [putF, hv]
      rw [← this]
      exact q
def initFs (c : Ct) : List Stmt → Option (List (Str × Nat))
  | [] => some []
  | .Assign [.Attribute (.Name s p1) f p2] (.Name y p3) pos :: r => if slotR c s = some 0 then (match slotR c y, initFs c r with
    | some i, some fs => some ((f, i) :: fs)
    | _, _ => none) else none
  | _ :: _ => none
/-- the fields of an __init__ that makes the base, then stores -/
def initOf (c : Ct) (b : Str) : List Stmt → Option (List (Str × Nat))
  | .Expr (.Call (.Attribute (.Name b' p1) m p2) [.Name s p3, .Constant (.str t) j p4] [] pos) p5 :: r =>
    if m = "__init__" ∧ b' = b ∧ (glB c.nm b' && (plainName b' && (p2.endLine == pos.line))) = true ∧ slotR c s = some 0 then initFs c r else none
  | _ => none
section
variable {X : Cx} {W : WX} {c : Ct} {S : Addr} {b : Str} {fs : List (Str × Nat)}
theorem initFs_ok (k : CtOk c W X) : ∀ {ss : List Stmt} {fs : List (Str × Nat)}, initFs c ss = some fs → PSs X ss (initT X.K fs)
  | [], fs, h => by cases h; exact pss_nil
  | st :: ss, fs, h => by
    unfold initFs at h
    split at h
    · rename_i e; cases e
    · rename_i s p1 f p2 y p3 pos r e
      cases e
      split at h
      · rename_i h0
        split at h
        · rename_i i fs' hi hr
          cases h
          obtain ⟨n1, v1, d1, c1⟩ := k.rd h0
          obtain ⟨n2, v2, d2, c2⟩ := k.rd hi
          exact pss_cons (ps_ost (pe_var n1 v1 d1 c1) (pe_var n2 v2 d2 c2)) (initFs_ok k hr)
        · cases h
      · cases h
    · cases h
theorem initOf_ok (k : CtOk c W X) (hm : X.mg b = some (.ref S)) (hga : PySem.W.specialIn X.K (.ref S) "__getattribute__" = some (some (.builtin "type.__getattribute__"))) {mc : Value} (hr : PySem.W.readsIn X.K S mc = true)
    (vV : PySem.W.findCls X.K (.ref S) mc "__init__" = some (.val (.builtin "ValueError.__init__"))) {ss : List Stmt} (h : initOf c b ss = some fs) :
    ∃ t : Str, PSs X ss (tSeq (tDrop (tVeI X.K (tCons (tVar 0) (tCons (tC (.str t)) tNil)))) (initT X.K fs)) := by
  unfold initOf at h
  split at h
  · rename_i b' p1 m p2 s p3 t j p4 pos p5 r
    split at h
    · rename_i hc
      obtain ⟨rfl, rfl, hg, h0⟩ := hc
      simp only [Bool.and_eq_true] at hg
      obtain ⟨n1, v1, d1, c1⟩ := k.rd h0
      exact ⟨t, pss_cons (ps_expr (pe_seinit (k.glo hg.1) hm hga hr vV (pa_cons (pe_var n1 v1 d1 c1) (pa_cons pe_str pa_nil)) (plain_d hg.2.1).1 hg.2.2 rfl rfl rfl)) (initFs_ok k h)⟩
    · cases h
  · cases h
end
/-- what an own exception's __init__ does -/
def spI (K : PySem.W.Frag) (N : List Str) (np : Nat) (fs : List (Str × Nat)) : Sp := fun vs H Q E => vs.length = np ∧ ∃ a C ws, vs = .ref a :: ws ∧ OexC K C ∧ H a = some (exo a C none) ∧
  (∀ p ∈ fs, PySem.W.findIn K (.ref C) p.1 = some none ∧ ∃ v, (L2.start N vs)[p.2]? = some (some v)) ∧ fs ≠ [] ∧ fs.length ≤ 800 ∧ ∀ dx, H dx = none → dx ≠ a → Q .non (upd (upd H dx (exd dx (putF (L2.start N vs) fs []))) a (exo a C (some dx)))
theorem upd_swap {H : Hp} {d a : Addr} {o o' u : HO} (h : d ≠ a) : upd (upd (upd H d o) a u) d o' = upd (upd H d o') a u := by
  funext b
  by_cases h1 : b = d
  · subst h1
    rw [upd_same, upd_ne h, upd_same]
  · rw [upd_ne h1]
    by_cases h2 : b = a
    · subst h2
      rw [upd_same, upd_same]
    · rw [upd_ne h2, upd_ne h2, upd_ne h1, upd_ne h1]
theorem init_fn {P : Program} {w : World} {K : PySem.W.Frag} {mg : Str → Option Value} {base : Heap} {name qual : Str} {st : Stmt} {f S : Addr} {fd : FuncData} {b : Str} {mc : Value} {fs : List (Str × Nat)} (F : Fun K name qual st f fd) {N ps : List Str} (Sc : FnScope N ps (defScope st)) {k : Nat}
    (hm : mg b = some (.ref S)) (hga : PySem.W.specialIn K (.ref S) "__getattribute__" = some (some (.builtin "type.__getattribute__"))) (hr : PySem.W.readsIn K S mc = true) (vV : PySem.W.findCls K (.ref S) mc "__init__" = some (.val (.builtin "ValueError.__init__")))
    (hi : initOf ⟨N, (defScope st).names, fun _ => true, fun _ => none, fun _ => none, [], noMd⟩ b (defBody st) = some fs) : FnOk P w K mg base (L2N.CX P w) (k + 1) f fd ps (spI K N ps.length fs) := by
  obtain ⟨oc, od, kV, doc, pm, an, cdv, ct, osl, rfl, lk, hcd⟩ := F.ex
  refine fn_of lk hcd Sc (fun vs H Q E h => h.1) fun A outer s H vs Q E hr' hsp => ?_
  have KO : CtOk ⟨N, (defScope st).names, fun _ => true, fun _ => none, fun _ => none, [], noMd⟩ (fun cls d _ H => E cls d H) (cxOf (L2N.CX P w) P w K mg base N qual (defScope st) f cdv A outer s H E) := {
    N := rfl
    nd := Sc.nd
    nm := rfl
    kind := Sc.kind
    fb := fun x => rfl
    calm := rfl
    un := by
      have z := hr'.un
      show (A.deeper (PyProof.Rows.envOfC qual (defScope st) s.heap.objs.size f cdv)).units + 65 < cLine
      omega
    tk := L2N.takes_of rfl rfl rfl rfl
    hp := passes_of rfl
    fn := fun x h m e => by cases e
    gl := fun x d e => by cases e
    bn := fun x hx => by cases hx }
  obtain ⟨t, ht⟩ := initOf_ok KO hm hga hr vV hi
  refine ⟨_, ht, ?_⟩
  obtain ⟨hl, a, C, ws, rfl, T, ea, hf, hne, hlen, q⟩ := hsp
  have h0 : (L2.start N (.ref a :: ws))[0]? = some (some (.ref a)) := rfl
  refine ⟨.ref a, h0, ?_⟩
  refine ⟨a, C, [.str t], rfl, by simp, T, ea, ?_⟩
  cases fs with
  | nil => exact absurd rfl hne
  | cons p r =>
    obtain ⟨f1, i1⟩ := p
    obtain ⟨g1, v, g2⟩ := hf (f1, i1) List.mem_cons_self
    refine ⟨v, g2, .ref a, h0, a, C, rfl, T, g1, .inl ⟨ea, fun dx hd hda => ?_⟩⟩
    refine initT_more T h0 hda r [(f1, v)] _ (fun p hp => hf p (List.mem_cons_of_mem _ hp)) (by simp at hlen ⊢; omega) upd_same (by rw [upd_ne hda, upd_same]) ?_
    rw [upd_swap hda]
    have hv : ((L2.start N (.ref a :: ws))[i1]?.getD none).getD .non = v := by rw [g2]; rfl
    have e : putF (L2.start N (.ref a :: ws)) ((f1, i1) :: r) [] = putF (L2.start N (.ref a :: ws)) r [(f1, v)] := by simp only [putF, hv]
    rw [← e]
    exact q dx hd hda
/-! ### raise -/
def putD (ds : List D) : List (Str × Nat) → List (Str × D) → List (Str × D)
  | [], acc => acc
  | (f, i) :: r, acc => putD ds r ((f, ds.getD (i - 1) .non) :: acc)
def fsIn (fs : List (Str × Nat)) (np : Nat) : Bool := (fs.all fun p => decide (1 ≤ p.2) && decide (p.2 ≤ np)) && (!fs.isEmpty && decide (fs.length ≤ 800))
def sRaise (c : Str) (fs : List (Str × Nat)) (np : Nat) (args : M (List D)) : MS := fun st => (args st).bind fun ds st1 => if ds.length = np ∧ np ≤ 900 ∧ fsIn fs np = true then .er ⟨c, putD ds fs []⟩ st1 else .bad
def sRaise0 (c : Str) : MS := fun st => .er ⟨c, []⟩ st
/-- a class whose instances are made by its own __init__ -/
structure ExI (X : Cx) (c : Str) (fs : List (Str × Nat)) (np : Nat) : Prop where
  ex : ∃ (C fI : Addr) (fd : FuncData) (N ps : List Str) (k : Nat), X.mg c = some (.ref C) ∧ OexC X.K C ∧ PySem.W.findIn X.K (.ref C) "__init__" = some (some (.ref fI)) ∧ PySem.W.typeIn X.K (.ref fI) = some (.type "function") ∧
    FnOk X.prog X.w X.K X.mg X.base (L2N.CX X.prog X.w) k fI fd ps (spI X.K N ps.length fs) ∧ Room (k + 1) X.A ∧ Binds X.K fd ps [] ∧ ps.length = np + 1 ∧ ∀ p ∈ fs, PySem.W.findIn X.K (.ref C) p.1 = some none
/-- a class that is made with a text -/
structure ExT (X : Cx) (c : Str) : Prop where
  ex : ∃ (C : Addr) (bmB : List Value) (B newId initId : String), ExcBaseFacts B newId initId bmB ∧ PySem.W.excIn X.K C bmB newId = true ∧ X.mg c = some (.ref C) ∧ PySem.W.keepIn X.K (.ref C) = true ∧ Raises X (.ref C)
theorem start_at (N : List Str) (vs : List V) {i : Nat} {v : V} (h : vs[i]? = some v) : (L2.start N vs)[i]? = some (some v) := by
  have hi := (List.getElem?_eq_some_iff.mp h).1
  unfold L2.start
  rw [List.getElem?_append_left (by simpa using hi), List.getElem?_map, h]
  rfl
theorem put_lookup {K : PySem.W.Frag} {H : Hp} {Fx : Addr → Prop} {ι : Io} {ds : List D} {vs : List V} (h : RepAll K H Fx ι ds vs) (N : List Str) (a : V) : ∀ (fs : List (Str × Nat)) (acc : List (Str × D)) (acc2 : List (Str × V)), (∀ p ∈ fs, 1 ≤ p.2 ∧ p.2 ≤ ds.length) →
    (∀ f x, acc.lookup f = some x → ∃ v, acc2.lookup f = some v ∧ Rep K H Fx ι x v) → ∀ f x, (putD ds fs acc).lookup f = some x → ∃ v, (putF (L2.start N (a :: vs)) fs acc2).lookup f = some v ∧ Rep K H Fx ι x v
  | [], acc, acc2, _, ha, f, x, e => ha f x e
  | (g, i) :: r, acc, acc2, hf, ha, f, x, e => by
    obtain ⟨h1, h2⟩ := hf (g, i) List.mem_cons_self
    simp only at h1 h2
    obtain ⟨j, rfl⟩ : ∃ j, i = j + 1 := ⟨i - 1, by omega⟩
    have hj : j < ds.length := by omega
    obtain ⟨v, q1, q2⟩ := h.get (i := j) (d := ds[j]) (by simp [hj])
    have e1 : ((L2.start N (a :: vs))[j + 1]?.getD none).getD .non = v := by
      rw [start_at N (a :: vs) (i := j + 1) (v := v) (by simpa using q1)]
      rfl
    refine put_lookup h N a r _ _ (fun p hp => hf p (List.mem_cons_of_mem _ hp)) (fun f' x' e' => ?_) f x e
    rw [e1]
    by_cases hb : f' = g
    · subst hb
      simp [List.lookup] at e' ⊢
      have : ds[j]?.getD .non = ds[j] := by simp [hj]
      rw [this] at e'
      subst e'
      exact q2
    · have hb' : (f' == g) = false := by simpa using hb
      simp only [List.lookup, hb'] at e' ⊢
      exact ha f' x' e'
theorem del_none {H : Hp} {a : Addr} (h : H a = none) : del H a = H := by
  funext b
  by_cases hb : b = a
  · subst hb; rw [del_same, h]
  · rw [del_ne hb]
theorem del_upd {H : Hp} {a d : Addr} {o o' u : HO} (h : H a = none) (hd : d ≠ a) : upd (del (upd (upd H d o) a u) a) d o' = upd H d o' := by
  funext b
  by_cases hb : b = d
  · subst hb; rw [upd_same, upd_same]
  · rw [upd_ne hb, upd_ne hb]
    by_cases ha : b = a
    · subst ha; rw [del_same, h]
    · rw [del_ne ha, upd_ne ha, upd_ne hb]
section
variable {X : Cx} {W : WX} {c : Str} {fs : List (Str × Nat)} {np : Nat} {e : Expr} {es : List Expr} {args : M (List D)} {p pos pos2 : Pos}
theorem PSd.raise (hc : X.calm = true) (tk : L2N.Takes X W) (T : ExI X c fs np) (hg : Gl X c) (ha : PAd X W (e :: es) args) (hdb : (c == ("__debug__" : Str)) = false)
    (he : starEach (e :: es) X.env = (false, eval e X.env) :: starEach es X.env) (hpl : (backTo pos (starEach es X.env)).any (·.1) = false) : PSd X W (.Raise (some (.Call (.Name c p) (e :: es) [] pos)) none pos2) (sRaise c fs np args) := by
  obtain ⟨C, fI, fd, N, ps, k, hm, hT, iC, tI, F1, hr, hb, hps, hff⟩ := T.ex
  refine PS.imp (L2N.ps_raise hc tk (pmk_oexN hT iC tI F1 hr hb (L2N.passes_call tk fun _ _ _ _ h => h.elim) hg hm ha hdb he hpl)) fun Dn σ H h => ?_
  obtain ⟨Fx, ι, st, r, q⟩ := h
  refine ⟨Fx, ι, st, r, (AftS.bind (σ := σ) q).imp fun ds ι1 H1 st1 s1 r1 q1 vs rv => ?_⟩
  split at q1
  · rename_i hq
    obtain ⟨hl, hn, hin⟩ := hq
    have hlv : vs.length = np := by rw [← rv.length, hl]
    unfold fsIn at hin
    simp only [Bool.and_eq_true, List.all_eq_true, decide_eq_true_eq, Bool.not_eq_true', List.isEmpty_eq_false_iff] at hin
    obtain ⟨hin, hne, hfl⟩ := hin
    refine ⟨by omega, fun a hna => ?_⟩
    rw [List.append_nil]
    refine ⟨by simp only [List.length_cons]; omega, a, C, vs, rfl, hT, upd_same, fun p hp => ⟨hff p hp, ?_⟩, hne, hfl, fun dx hd hda => ⟨rfl, dx, _, upd_same, by rw [upd_ne hda, upd_same], ?_, ?_⟩⟩
    · obtain ⟨i1, i2⟩ := hin p hp
      obtain ⟨j, hj⟩ : ∃ j, p.2 = j + 1 := ⟨p.2 - 1, by omega⟩
      have hj2 : j < vs.length := by omega
      refine ⟨vs[j], start_at N _ ?_⟩
      rw [hj, List.getElem?_cons_succ]
      simp [hj2]
    · rw [upd_ne hda] at hd
      exact hd
    · have hd1 : H1 dx = none := by rw [upd_ne hda] at hd; exact hd
      have e1 : upd (del (upd (upd (upd H1 a (exo a C none)) dx (exd dx (putF (L2.start N (.ref a :: vs)) fs []))) a (exo a C (some dx))) a) dx (.xd (putF (L2.start N (.ref a :: vs)) fs [])) = upd H1 dx (.xd (putF (L2.start N (.ref a :: vs)) fs [])) := by
        funext b
        by_cases hb : b = dx
        · subst hb; rw [upd_same, upd_same]
        · rw [upd_ne hb, upd_ne hb]
          by_cases ha : b = a
          · subst ha; rw [del_same, hna]
          · rw [del_ne ha, upd_ne ha, upd_ne hb, upd_ne ha]
      rw [e1]
      have s2 : Step ι1 H1 ι1 (upd H1 dx (.xd (putF (L2.start N (.ref a :: vs)) fs []))) := step_new hd1
      have r2 := r1.new (o := .xd (putF (L2.start N (.ref a :: vs)) fs [])) hd1
      refine q1 ι1 _ σ _ _ s2 r2 ⟨C, rfl, hm, .inr ⟨dx, _, rfl, upd_same, fun f x hx => ?_⟩⟩
      have rv2 : RepAll (gx X).K (upd H1 dx (.xd (putF (L2.start N (.ref a :: vs)) fs []))) Fx ι1 ds vs := RepAll.car s2.car _ _ rv
      exact put_lookup rv2 N (.ref a) fs [] [] (fun p hp => by have := hin p hp; omega) (fun _ _ z => by cases z) f x hx
  · exact q1.elim
theorem PSd.raise0 {m : Str} {j : Nat} {p3 : Pos} (hc : X.calm = true) (tk : L2N.Takes X W) (T : ExT X c) (hg : Gl X c) (hdb : (c == ("__debug__" : Str)) = false) : PSd X W (.Raise (some (.Call (.Name c p) [.Constant (.str m) j p3] [] pos)) none pos2) (sRaise0 c) := by
  obtain ⟨C, bmB, B, newId, initId, F, q, gC, kC, rC⟩ := T.ex
  refine PS.imp (L2N.ps_raise hc tk (L2N.pmk_own F q gC kC rC hg hdb)) fun Dn σ H h => ?_
  obtain ⟨Fx, ι, st, r, q⟩ := h
  exact q ι H σ _ _ Step.refl r ⟨C, rfl, gC, .inl ⟨rfl, rfl⟩⟩
end
/-! ### try: .. except C as n: return what the exception bears -/
def XF (g : Gx) (i : Nat) (a : Addr) (cls : Value) (d : Option Addr) (Fx : Addr → Prop) (ι : Io) (H : Hp) (σ : L2.St) (ex : Exc) : Prop :=
  σ[i]? = some (some (.ref a)) ∧ (∃ C, cls = .ref C ∧ g.mg ex.c = some (.ref C)) ∧
    ((ex.fs = [] ∧ d = none) ∨ ∃ dd fv, d = some dd ∧ H dd = some (.xd fv) ∧ ∀ f x, ex.fs.lookup f = some x → ∃ v, fv.lookup f = some v ∧ Rep g.K H Fx ι x v)
theorem XF.grow {g : Gx} {i : Nat} {a : Addr} {cls : Value} {d : Option Addr} {Fx : Addr → Prop} {ι : Io} {H H' : Hp} {σ : L2.St} {ex : Exc} (h : XF g i a cls d Fx ι H σ ex) (k : Grow H H') : XF g i a cls d Fx ι H' σ ex := by
  obtain ⟨h0, h1, h2⟩ := h
  refine ⟨h0, h1, ?_⟩
  rcases h2 with h2 | ⟨dd, fv, e1, e2, e3⟩
  · exact .inl h2
  · refine .inr ⟨dd, fv, e1, k _ _ e2, fun f x l => ?_⟩
    obtain ⟨v, l1, r⟩ := e3 f x l
    exact ⟨v, l1, Rep.car k.step.car _ _ r⟩
def tX (g : Gx) (i : Nat) (a : Addr) (cls : Value) (d : Option Addr) (f : Exc → Option D) : TE := fun σ H Q => ∃ Fx ι st ex dv, SRel g Fx ι H σ st ∧ XF g i a cls d Fx ι H σ ex ∧ f ex = some dv ∧ ∀ v H', Grow H H' → Rep g.K H' Fx ι dv v → Q v H'
def tXs (g : Gx) (i : Nat) (a : Addr) (cls : Value) (d : Option Addr) (f : Exc → Option (List D)) : TA := fun σ H Q => ∃ Fx ι st ex ds, SRel g Fx ι H σ st ∧ XF g i a cls d Fx ι H σ ex ∧ f ex = some ds ∧ ∀ vs H', Grow H H' → RepAll g.K H' Fx ι ds vs → Q vs H'
theorem Grow.trans {H H' H'' : Hp} (a : Grow H H') (b : Grow H' H'') : Grow H H'' := fun x o h => b x o (a x o h)
section
variable {X : Cx} {g : Gx} {i : Nat} {a : Addr} {cls : Value} {d : Option Addr} {e : Expr} {es : List Expr} {f : Exc → Option D} {fs : Exc → Option (List D)} {pos : Pos}
theorem px_con {v : V} {dv : D} (he : PE X e (tC v)) (hr : ∀ H Fx ι, Rep g.K H Fx ι dv v) : PE X e (tX g i a cls d fun _ => some dv) := PE.imp he fun σ H Q h => by
  obtain ⟨Fx, ι, st, ex, dv', r, x, e, q⟩ := h
  cases e
  exact q v H (Grow.refl H) (hr H Fx ι)
theorem px_nil : PA X [] (tXs g i a cls d fun _ => some []) := PA.imp pa_nil fun σ H Q h => by
  obtain ⟨Fx, ι, st, ex, dv', r, x, e, q⟩ := h
  cases e
  exact q [] H (Grow.refl H) .nil
theorem px_cons (he : PE X e (tX g i a cls d f)) (hs : PA X es (tXs g i a cls d fs)) (h0 : starEach (e :: es) X.env = (false, eval e X.env) :: starEach es X.env) :
    PA X (e :: es) (tXs g i a cls d fun ex => (f ex).bind fun x => (fs ex).map (x :: ·)) := PA.imp (pa_cons he hs h0) fun σ H Q h => by
  obtain ⟨Fx, ι, st, ex, ds, r, x, e, q⟩ := h
  cases e1 : f ex with
  | none => simp [e1] at e
  | some d1 =>
    cases e2 : fs ex with
    | none => simp [e1, e2] at e
    | some dr =>
      simp [e1, e2] at e
      subst e
      refine ⟨Fx, ι, st, ex, d1, r, x, e1, fun v H1 k1 r1 => ⟨Fx, ι, st, ex, dr, r.same k1, x.grow k1, e2, fun vs H2 k2 r2 => q _ H2 (k1.trans k2) (.cons (Rep.car k2.step.car _ _ r1) r2)⟩⟩
theorem px_tup {k : Nat} (h : PA X es (tXs g i a cls d fs)) : PE X (.Tuple es k pos) (tX g i a cls d fun ex => (fs ex).bind fun ds => if ds.length ≤ lim then some (.tup ds) else none) := PE.imp (pe_tup h) fun σ H Q h => by
  obtain ⟨Fx, ι, st, ex, dv, r, x, e, q⟩ := h
  cases e2 : fs ex with
  | none => simp [e2] at e
  | some ds =>
    simp only [e2, Option.bind_some] at e
    split at e
    · rename_i hl
      cases e
      refine ⟨Fx, ι, st, ex, ds, r, x, e2, fun vs H1 k1 r1 => ⟨by rw [← r1.length]; exact Nat.le_trans hl lim_line, fun p hp => ?_⟩⟩
      refine q _ _ (k1.trans (Grow.new hp)) ?_
      exact (r.same k1).newTup hp r1
    · cases e
theorem px_lst (h : PA X es (tXs g i a cls d fs)) : PE X (.List es pos) (tX g i a cls d fun ex => (fs ex).bind fun ds => if ds.length ≤ lim then some (.lst ds) else none) := PE.imp (pe_lst h) fun σ H Q h => by
  obtain ⟨Fx, ι, st, ex, dv, r, x, e, q⟩ := h
  cases e2 : fs ex with
  | none => simp [e2] at e
  | some ds =>
    simp only [e2, Option.bind_some] at e
    split at e
    · rename_i hl
      cases e
      refine ⟨Fx, ι, st, ex, ds, r, x, e2, fun vs H1 k1 r1 => ⟨by rw [← r1.length]; exact Nat.le_trans hl lim_line, fun p hp => ?_⟩⟩
      refine q _ _ (k1.trans (Grow.new hp)) ?_
      exact (r.same k1).newLst hp r1
    · cases e
/-- the classes whose fields are read -/
def FldOk (K : PySem.W.Frag) (mg : Str → Option Value) (tab flds : List Str) : Prop := ∀ x ∈ tab, ∀ C, mg x = some (.ref C) → XfC K C ∧ ∀ f ∈ flds, PySem.W.findIn K (.ref C) f = some none
theorem px_fld {oe : Obj} {pn : List (Addr × Obj)} {x n : Str} {p : Pos} {tab flds : List Str} (hk : FldOk X.K X.mg tab flds) (hn : n ∈ flds) (hz : Zc cls d oe) (hf : ∃ vs, oe.data = .fields vs) (he : PE (X.suite a ((a, oe) :: pn)) (.Name x p) (tVar i)) :
    PE (X.suite a ((a, oe) :: pn)) (.Attribute (.Name x p) n pos) (tX (gx X) i a cls d fun ex => if tab.contains ex.c then ex.fs.lookup n else none) := ⟨fun pins s σ H Q I h => by
  obtain ⟨Fx, ι, st, ex, dv, r, ⟨h0, ⟨C, hC, hmC⟩, h2⟩, e, q⟩ := h
  dsimp only at e
  split at e
  · rename_i hc
    obtain ⟨T, hno⟩ := hk ex.c (by simpa using hc) C hmC
    rcases h2 with ⟨e1, e2⟩ | ⟨dd, fv, ed, ea, hl⟩
    · rw [e1] at e; cases e
    · obtain ⟨v, l, rep⟩ := hl n dv e
      exact (pe_xf T (hno n hn) hz hf he).run pins s σ H Q I ⟨.ref a, h0, rfl, hC, dd, fv, v, ed, ea, l, q v H (Grow.refl H) rep⟩
  · cases e⟩
end
/-- one clause whose suite returns -/
def sTryR (i : Nat) (sub : Str → Option Bool) (f : Exc → Option D) (body : MS) : MS := fun st => match body st with
  | .er ex st1 => (match sub ex.c with
    | some true => if i < st1.sl.length then (match f ex with
      | some d => .ok (.rt d) ⟨st1.sl.set i .un, st1.mu⟩
      | none => .bad) else .bad
    | some false => .er ex st1
    | none => .bad)
  | r => r
def SubOk (K : PySem.W.Frag) (mg : Str → Option Value) (sub : Str → Option Bool) (c : Value) : Prop := ∀ x b, sub x = some b → ∀ C, mg x = some (.ref C) → PySem.W.exmOne K (.ref C) c = some b
def tsR (g : Gx) (i : Nat) (f : Exc → Option D) (a : Addr) (cls : Value) (d : Option Addr) : TS := fun D σ H => tX g i a cls d f σ H D.rt
section
variable {X : Cx} {W : WX} {x n : Str} {c : Value} {i : Nat} {body : List Stmt} {fb : MS} {E : Expr} {f : Exc → Option D} {sub : Str → Option Bool} {np pos pos' rpos : Pos}
theorem PSd.tryR (hs : X.stack = X.env :: X.outer) (hf : X.env.frame = some X.env.locals) (hN : X.N.Nodup) (hi : X.N[i]? = some n) (hln : X.env.kindOf n = some .local) (hc : Names X x c) (tk : L2N.Takes X W) (hsub : SubOk X.K X.mg sub c)
    (hb : ∀ (W : WX) (pn : List (Addr × Obj)) (xe : Value → Shared → Prop), L2N.Takes (X.tr pn xe) W → PassesOwn (model X.prog X.w) X.A X.env xe → PSsd (X.tr pn xe) W body fb)
    (hE : ∀ (a : Addr) (oe : Obj) (cls : Value) (d : Option Addr) (pn : List (Addr × Obj)), L2N.Zn cls d oe → (∃ vs, oe.data = .fields vs) → PE (X.suite a ((a, oe) :: pn)) E (tX (gx X) i a cls d f)) :
    PSd X W (.Try body [.ExceptHandler (some (.Name x np)) (some n) [.Return (some E) rpos] pos'] [] [] pos) (sTryR i sub f fb) := by
  refine PS.imp (L2N.ps_try_as hs hf hN hi hln hc tk (tb := fun W => tS (gx X) W fb) (ts := tsR (gx X) i f) (fun W pn xe t p => hb W pn xe t p) (fun a oe cls d pn z hv => pss_one (ps_ret (hE a oe cls d pn z hv)))) fun Dn σ H h => ?_
  obtain ⟨Fx, ι, st, r, q⟩ := h
  refine ⟨Fx, ι, st, r, ?_⟩
  unfold sTryR at q
  cases e : fb st with
  | ok b st1 => rw [e] at q; exact q
  | bad => rw [e] at q; exact q
  | er ex st1 =>
    rw [e] at q
    intro ι1 H1 σ1 cls d s1 r1 hx
    obtain ⟨C, e1, e2, e3⟩ := hx
    cases hb1 : sub ex.c with
    | none => simp only [hb1] at q; exact q.elim
    | some b =>
      simp only [hb1] at q
      refine ⟨b, by rw [e1]; exact hsub _ _ hb1 C e2, fun hb2 a na => ?_, fun hb2 => ?_⟩
      · subst hb2
        dsimp only at q
        split at q
        · rename_i hlt
          split at q
          · rename_i dv hdv
            have r2 := r1.drop i (some (.ref a)) .un (fun _ z => by cases z) (fun _ z => by cases z)
            have hlen : σ1.length = st1.sl.length := r1.len
            refine ⟨Fx, cut ι1 i, _, ex, dv, r2, ⟨?_, ⟨C, e1, e2⟩, ?_⟩, hdv, fun v H2 k2 rv => ?_⟩
            · rw [List.getElem?_set_self (by omega)]
            · rcases e3 with e3 | ⟨dd, fv, y1, y2, y3⟩
              · exact .inl e3
              · refine .inr ⟨dd, fv, y1, y2, fun f' x' l => ?_⟩
                obtain ⟨v, l1, rr⟩ := y3 f' x' l
                exact ⟨v, l1, Rep.car step_cut.car _ _ rr⟩
            · exact q (cut ι1 i) H2 _ (s1.trans (step_cut.trans k2.step)) (r2.same k2) v rv
          · exact q.elim
        · exact q.elim
      · subst hb2
        exact q ι1 H1 σ1 cls d s1 r1 ⟨C, e1, e2, e3⟩
end
end Pv
/-! Pv14: what a suite (and a def that it calls) says of the caught exception. -/
namespace Pv
open PySem PySem.W PySem.Spec PyProof.Rows
section
variable {prog : Program} {w : World} {A : Around} {E : Value → Shared → Prop} {s : Shared} {K : PySem.W.Frag} {x D : Addr} {ox : Obj} {od : Option Obj}
theorem findObj_dataO {C : Addr} {name : Str} {a g : Value} (hc : (clsIn K C).isSome = true) (ha : findIn K (.ref C) name = some (some a)) (hg : specialIn K a "__get__" = some (some g)) (ht : takesIn K a = some true) : findObj K C od name = some (.bind g a) := by
  obtain ⟨cd, hc⟩ := Option.isSome_iff_exists.mp hc
  unfold findObj
  rw [hc, Option.bind_some, ha, Option.bind_some]
  simp [hg, ht]
theorem cls_of_exc {Q : Option Value → Shared → Prop} (T : L2.ExcC K D) (X : K.In s.heap) (I : InstAt s.heap x ox D od) (h : Q (some (.ref D)) { s with toks := s.toks + 1 }) : wpAny (model prog w) A (getAttr? (.ref x) "__class__") Q E s := by
  have found : findObj K D od "__class__" = some (.bind (.builtin "getset_descriptor.__get__") (.builtin "object.__class__")) := findObj_dataO (by obtain ⟨cd, hc, _⟩ := any_some T.hd; rw [hc]; rfl) T.ha T.hn T.ht
  obtain ⟨hp, g, d, t, os⟩ := s
  have ty := I.type (M := model prog w)
  have own := looks_findIn (M := model prog w) X T.hg
  have gat := looks_findIn (M := model prog w) X T.hk
  have ob := looks_find (M := model prog w) X I found
  have sub : Looks (model prog w) hp (isInstance (.ref x) (.type "BaseException")) true := ty.andThen (looks_subIn X T.hs)
  have n0 : (false && onTheHeap (Value.builtin "BaseException.__getattribute__")) = false := rfl
  have n2 : (Value.builtin "BaseException.__getattribute__" == Value.builtin "object.__getattribute__") = false := by decide +kernel
  have n1 : (onTheHeap (Value.ref D) && Value.builtin "BaseException.__getattribute__" == Value.builtin "object.__getattribute__") = false := by rw [n2]; rfl
  unfold getAttr? getAttrBy? getAttrBy
  refine wpAny_bind (wpAny_mkText (wpAny_bind (wpAny_attempt (wpAny_holding (wpAny_bind (ty.at (wpAny_bind (own.at ?_))))))))
  show wpAny _ _ (if (onTheHeap (Value.ref D) && Value.builtin "BaseException.__getattribute__" == Value.builtin "object.__getattribute__") = true then _ else _) _ _ _
  rw [n1, if_neg Bool.false_ne_true]
  unfold getAttrByItsOwn hookBefore
  refine wpAny_bind ?_
  rw [if_pos (show onTheHeap (Value.ref D) = true from rfl)]
  refine gat.at ?_
  refine wpAny_bind (wpAny_attempt (wpAny_holding ?_))
  unfold callGetattribute
  rw [n0, if_neg Bool.false_ne_true]
  unfold boundAndCalled
  rw [PySem.F.excAttr_ValueError.ga.bind (.ref x)]
  refine wpAny_bind (wpAny_pure ?_)
  show wpAny _ _ (call (.builtin "BaseException.__getattribute__") [.ref x, .str "__class__" t]) _ _ _
  refine wpAny_call (codeAny_call_builtin PySem.F.excAttr_ValueError.ga.plain PySem.F.entry_bexc_ga ?_)
  refine @check_slot (model prog w) _ _ ⟨hp, g, d, t + 1, os⟩ "BaseException.__getattribute__" "BaseException" "__getattribute__" (.ref x) [.str "__class__" t] [] _ (by decide +kernel) (by decide +kernel) sub (PySem.F.args_bexc_ga (.ref x) (.str "__class__" t)) ?_
  unfold Builtin.«object.__getattribute__»
  refine wpAny_bind (wpAny_of_eq (a := ((Value.ref x : Value), [Value.str "__class__" t])) (by first | rfl | (simp only [slotArgs]; rfl)) ?_)
  refine wpAny_bind (wpAny_pure (wpAny_bind (ty.at (wpAny_bind (ob.at ?_)))))
  show wpAny _ _ (holding [Value.builtin "object.__class__"] (call (.builtin "getset_descriptor.__get__") [.builtin "object.__class__", .ref x, .ref D]) >>= ret) _ _ _
  refine wpAny_bind (wpAny_holding (wpAny_call (class_get (s := ⟨hp, g, d, t + 1, os⟩) (ox := ox) (od := od) X I T.hm ?_)))
  refine wpAny_pure ?_
  show wpAny _ _ (handedOut (.ref D)) _ _ _
  rw [handedOut_of (v := .ref D) rfl]
  first
    | exact wpAny_pure (wpAny_pure h)
    | exact wpAny_pure h
    | exact wpAny_pure (wpAny_bind (wpAny_pure (wpAny_pure h)))
theorem kit_exc (T : L2.ExcC K D) : KitX K (.ref x) (.ref D) (fun h => InstAt h x ox D od) where
  ty := fun _ _ _ I => I.type
  it := fun _ _ X _ => by
    obtain ⟨cdD, hcD, _⟩ := any_some T.hd
    unfold clsIn at hcD
    split at hcD
    · rename_i c' d' cd' sl' ho
      intro A' Q' E' s' k q
      unfold isType loadHead
      exact wpAny_bind (wpAny_loadPart (k _ _ (X _ _ ho)) (wpAny_pure q))
    · cases hcD
  ne := fun h tp dd its n sl X htp => by
    obtain ⟨cdD, hcD, _⟩ := any_some T.hd
    refine Bool.eq_false_iff.mpr fun q => ?_
    have e : D = tp := Value.ref.inj (beq_iff_eq.mp q)
    subst e
    unfold clsIn at hcD
    split at hcD
    · rename_i c' d' cd' sl' ho
      have z := (X _ _ ho).symm.trans htp
      cases z
    · cases hcD
  ca := fun X I k => cls_of_exc T X I k
end
open L2 in
/-- isinstance(e, c), e the exception that the suite holds; c one class, or a tuple of classes -/
def rIsX (K : PySem.W.Frag) (D a : Addr) (d : Option Addr) : List V → Hp → VK → Prop := fun xs H Q => ∃ (c : V) (b : Bool), xs = [.ref a, c] ∧ (d = none ∨ ∃ dd fs, d = some dd ∧ H dd = some (.xd fs)) ∧
  ((∃ cv : Value, (∀ u, RelV c u → u = cv) ∧ PySem.W.kitOne K (.ref D) cv = some b) ∨ ∃ (t : Addr) (cs : List V) (ivs : List Value), c = .ref t ∧ H t = some (.tup cs) ∧ (∀ its, Vals cs its → its = ivs) ∧ PySem.W.kitAny K (.ref D) ivs = some b) ∧ Q (.bl b) H
open L2 in
theorem call_isX {X : Cx} {a D : Addr} {d : Option Addr} {oe : Obj} (T : L2.ExcC X.K D) (hz : Zc (.ref D) d oe) (hf : ∃ vs, oe.data = .fields vs) (hp : (a, oe) ∈ X.pn) : CallR X (.builtin "isinstance") (rIsX X.K D a d) := by
  intro pins s σ H xs us Q I r h
  obtain ⟨c, b, rfl, hd, hc, q⟩ := h
  cases r with
  | cons rx rr =>
    cases rr with
    | cons rt rr =>
      cases rr
      cases rx
      obtain ⟨hget, _⟩ := I.pin (a, oe) (List.mem_append.mpr (.inl hp))
      obtain ⟨vs, hv⟩ := hf
      have J : ∃ od, PySem.W.InstAt s.heap a oe D od := by
        rcases hd with hd | ⟨dd, fs, hd, hx⟩
        · exact ⟨none, hget, hz.1, by unfold PySem.W.notCls; rw [hv] <;> rfl, by rw [hz.2, hd]; trivial⟩
        · have ho : ObjOk X.prog X.w H s.heap dd (.xd fs) := I.hok dd _ hx
          obtain ⟨mA, hns, hr⟩ := ho
          obtain ⟨od, ho, hl⟩ := lookIn_ns hns
          exact ⟨some od, hget, hz.1, by unfold PySem.W.notCls; rw [hv] <;> rfl, by rw [hz.2, hd]; exact ho⟩
      obtain ⟨od, J⟩ := J
      rcases hc with ⟨cv, hcv, e⟩ | ⟨t, cs, ivs, rfl, ht, hi, e⟩
      · have ec := hcv _ rt
        subst ec
        exact PySem.W.kia_one (kit_exc T) I.kIn J e (fun z => nomatch z) fun tk => ⟨.bl b, H, I.kept (t' := tk) fun _ _ z => z, rfl, q⟩
      · cases rt
        have ho : ObjOk X.prog X.w H s.heap t (.tup cs) := I.hok t _ ht
        obtain ⟨_, its, rv, o, hg, hc1, n, hc2⟩ := ho
        have := hi its rv
        subst this
        obtain ⟨oc, od', odt, osl⟩ := o
        simp only at hc1 hc2
        subst hc1 hc2
        exact PySem.W.kia_tup (kit_exc T) I.kIn J hg e (fun z => nomatch z) fun tk => ⟨.bl b, H, I.kept (t' := tk) fun _ _ z => z, rfl, q⟩
open L2 in
theorem px_isi {X : Cx} {a Cy : Addr} {cls : Value} {d : Option Addr} {oe : Obj} {i : Nat} {n y : Str} {p p1 p2 pos : Pos} {isi : Str → Option Bool} (hz : Zc cls d oe) (hv : ∃ vs, oe.data = .fields vs) (hp : (a, oe) ∈ X.pn)
    (hI : ∀ x b, isi x = some b → ∀ C, X.mg x = some (.ref C) → L2.ExcC X.K C ∧ PySem.W.kitOne X.K (.ref C) (.ref Cy) = some b) (hg : Gl X "isinstance") (hm : X.mg "isinstance" = none) (hgy : Gl X y) (hmy : X.mg y = some (.ref Cy)) (hdy : (y == ("__debug__" : Str)) = false)
    (he : PE X (.Name n p1) (tVar i)) :
    PE X (.Call (.Name "isinstance" p) [.Name n p1, .Name y p2] [] pos) (Pv.tX (Pv.gx X) i a cls d fun ex => (isi ex.c).map .bl) := ⟨fun pins s σ H Q I h => by
  obtain ⟨Fx, ι, st, ex, dv, r, ⟨h0, ⟨C, hC, hmC⟩, h2⟩, e, q⟩ := h
  subst hC
  cases hi : isi ex.c with
  | none => simp [hi] at e
  | some b =>
    simp [hi] at e
    subst e
    obtain ⟨T, hk⟩ := hI _ _ hi C hmC
    refine (pe_callB (call_isX T hz hv hp) hg hm (by decide +kernel) (pa_cons he (pa_cons (pe_glob (v := .ref Cy) hgy hmy rfl hdy) pa_nil) (by rfl)) (by decide) (by decide) (by rfl) (by rfl)).run pins s σ H Q I ?_
    refine ⟨.ref a, h0, .ref Cy, b, rfl, ?_, .inl ⟨.ref Cy, fun u hu => hu, hk⟩, q _ H (Grow.refl H) mk_bl⟩
    rcases h2 with ⟨_, e2⟩ | ⟨dd, fv, e1, e2, _⟩
    · exact .inl e2
    · exact .inr ⟨dd, fv, e1, e2⟩⟩
open L2 in
theorem px_isB {X : Cx} {a : Addr} {T0 : String} {cls : Value} {d : Option Addr} {oe : Obj} {i : Nat} {n y : Str} {p p1 p2 pos : Pos} {isi : Str → Option Bool} (hz : Zc cls d oe) (hv : ∃ vs, oe.data = .fields vs) (hp : (a, oe) ∈ X.pn)
    (hI : ∀ x b, isi x = some b → ∀ C, X.mg x = some (.ref C) → L2.ExcC X.K C ∧ PySem.W.kitOne X.K (.ref C) (.type T0) = some b) (hg : Gl X "isinstance") (hm : X.mg "isinstance" = none) (hgy : Gl X y) (hmy : X.mg y = none) (hby : bootBuiltins y = some (.type T0)) (hny : y ≠ ("__name__" : Str)) (hdy : (y == ("__debug__" : Str)) = false)
    (he : PE X (.Name n p1) (tVar i)) :
    PE X (.Call (.Name "isinstance" p) [.Name n p1, .Name y p2] [] pos) (Pv.tX (Pv.gx X) i a cls d fun ex => (isi ex.c).map .bl) := ⟨fun pins s σ H Q I h => by
  obtain ⟨Fx, ι, st, ex, dv, r, ⟨h0, ⟨C, hC, hmC⟩, h2⟩, e, q⟩ := h
  subst hC
  cases hi : isi ex.c with
  | none => simp [hi] at e
  | some b =>
    simp [hi] at e
    subst e
    obtain ⟨T, hk⟩ := hI _ _ hi C hmC
    refine (pe_callB (call_isX T hz hv hp) hg hm (by decide +kernel) (pa_cons he (pa_cons (pe_bltn (v := .ty T0) hgy hmy hby rfl hny hdy) pa_nil) (by rfl)) (by decide) (by decide) (by rfl) (by rfl)).run pins s σ H Q I ?_
    refine ⟨.ref a, h0, .ty T0, b, rfl, ?_, .inl ⟨.type T0, fun u hu => hu, hk⟩, q _ H (Grow.refl H) mk_bl⟩
    rcases h2 with ⟨_, e2⟩ | ⟨dd, fv, e1, e2, _⟩
    · exact .inl e2
    · exact .inr ⟨dd, fv, e1, e2⟩⟩
open L2 in
def NmsOk (X : Cx) : List Expr → List Addr → Prop
  | [], [] => True
  | .Name y _ :: es, c :: cs => Gl X y ∧ X.mg y = some (.ref c) ∧ (y == ("__debug__" : Str)) = false ∧ NmsOk X es cs
  | _, _ => False
open L2 in
theorem pa_nms {X : Cx} : ∀ {es : List Expr} {cs : List Addr}, NmsOk X es cs → PA X es (fun σ H Q => Q (cs.map .ref) H)
  | [], [], _ => PA.imp pa_nil fun _ _ _ h => h
  | .Name y p :: es, c :: cs, ⟨h1, h2, h3, h4⟩ => PA.imp (pa_cons (pe_glob (v := .ref c) h1 h2 rfl h3) (pa_nms h4) (by rfl)) fun _ _ _ h => h
open L2 in
theorem px_isT {X : Cx} {a : Addr} {cls : Value} {d : Option Addr} {oe : Obj} {i k : Nat} {n : Str} {p p1 pt pos : Pos} {isi : Str → Option Bool} {es : List Expr} {cs : List Addr} (hz : Zc cls d oe) (hv : ∃ vs, oe.data = .fields vs) (hp : (a, oe) ∈ X.pn)
    (hI : ∀ x b, isi x = some b → ∀ C, X.mg x = some (.ref C) → L2.ExcC X.K C ∧ PySem.W.kitAny X.K (.ref C) (cs.map .ref) = some b) (hl : cs.length ≤ 1000) (hg : Gl X "isinstance") (hm : X.mg "isinstance" = none) (hn : NmsOk X es cs)
    (he : PE X (.Name n p1) (tVar i)) :
    PE X (.Call (.Name "isinstance" p) [.Name n p1, .Tuple es k pt] [] pos) (Pv.tX (Pv.gx X) i a cls d fun ex => (isi ex.c).map .bl) := ⟨fun pins s σ H Q I h => by
  obtain ⟨Fx, ι, st, ex, dv, r, ⟨h0, ⟨C, hC, hmC⟩, h2⟩, e, q⟩ := h
  subst hC
  cases hi : isi ex.c with
  | none => simp [hi] at e
  | some b =>
    simp [hi] at e
    subst e
    obtain ⟨T, hk⟩ := hI _ _ hi C hmC
    refine (pe_callB (call_isX T hz hv hp) hg hm (by decide +kernel) (pa_cons he (pa_cons (pe_tup (pa_nms hn)) pa_nil) (by rfl)) (by decide) (by decide) (by rfl) (by rfl)).run pins s σ H Q I ?_
    refine ⟨.ref a, h0, by rw [List.length_map, sizeLine_eq]; omega, fun t ht => ?_⟩
    refine ⟨.ref t, b, rfl, ?_, .inr ⟨t, cs.map .ref, cs.map .ref, rfl, upd_same, fun its hit => ?_, hk⟩, q _ _ (Grow.new ht) mk_bl⟩
    · rcases h2 with ⟨_, e2⟩ | ⟨dd, fv, e1, e2, _⟩
      · exact .inl e2
      · exact .inr ⟨dd, fv, e1, by rw [upd_ne (ne_of_none e2 ht)]; exact e2⟩
    · have key : ∀ (cs : List Addr) (its : List Value), Vals (cs.map V.ref) its → its = cs.map Value.ref := fun cs => by
        induction cs with
        | nil => intro its h; cases h; rfl
        | cons c cs ih =>
          intro its h
          cases h with
          | cons h1 h2 =>
            cases h1
            rw [ih _ h2]
            rfl
      exact key cs its hit⟩
/-! ### words -/
open L2 in
def tXt (g : Gx) (i : Nat) (a : Addr) (cls : Value) (d : Option Addr) (f : Exc → Option D) : TT := tTest (Pv.tX g i a cls d f)
def xAnd (f g : Exc → Option D) : Exc → Option D := fun ex => match f ex with
  | some (.bl true) => g ex
  | some (.bl false) => some (.bl false)
  | _ => none
def xOr (f g : Exc → Option D) : Exc → Option D := fun ex => match f ex with
  | some (.bl true) => some (.bl true)
  | some (.bl false) => g ex
  | _ => none
def xNot (f : Exc → Option D) : Exc → Option D := fun ex => match f ex with
  | some (.bl b) => some (.bl (!b))
  | _ => none
/-- what a suite does: it returns, or goes on -/
abbrev XSu := Exc → Option (Option D)
def xNext : XSu := fun _ => some none
def xRet (f : Exc → Option D) : XSu := fun ex => (f ex).map some
def xIf (t : Exc → Option D) (u v : XSu) : XSu := fun ex => match t ex with
  | some (.bl true) => u ex
  | some (.bl false) => v ex
  | _ => none
def xSeq (u v : XSu) : XSu := fun ex => match u ex with
  | some none => v ex
  | r => r
open L2 in
def tsX (g : Gx) (i : Nat) (a : Addr) (cls : Value) (d : Option Addr) (f : XSu) : TS := fun Dn σ H => ∃ Fx ι st ex r, SRel g Fx ι H σ st ∧ Pv.XF g i a cls d Fx ι H σ ex ∧ f ex = some r ∧ (match r with
  | some dv => ∀ v H', Grow H H' → Rep g.K H' Fx ι dv v → Dn.rt v H'
  | none => ∀ H', Grow H H' → Dn.nx σ H')
section
open L2
variable {X : Cx} {g : Gx} {i : Nat} {a : Addr} {cls : Value} {d : Option Addr} {e e1 e2 : Expr} {es rest : List Expr} {f f1 f2 : Exc → Option D} {pos : Pos} {s : Stmt} {ss ss2 : List Stmt} {u v : XSu}
theorem xAnd_of {ex : Exc} {dv : D} (h : xAnd f1 f2 ex = some dv) : (f1 ex = some (.bl true) ∧ f2 ex = some dv) ∨ (f1 ex = some (.bl false) ∧ dv = .bl false) := by
  unfold xAnd at h
  split at h
  · rename_i q; exact .inl ⟨q, h⟩
  · rename_i q; cases h; exact .inr ⟨q, rfl⟩
  · cases h
theorem xOr_of {ex : Exc} {dv : D} (h : xOr f1 f2 ex = some dv) : (f1 ex = some (.bl false) ∧ f2 ex = some dv) ∨ (f1 ex = some (.bl true) ∧ dv = .bl true) := by
  unfold xOr at h
  split at h
  · rename_i q; cases h; exact .inr ⟨q, rfl⟩
  · rename_i q; exact .inl ⟨q, h⟩
  · cases h
theorem xNot_of {ex : Exc} {dv : D} (h : xNot f ex = some dv) : ∃ b, f ex = some (.bl b) ∧ dv = .bl (!b) := by
  unfold xNot at h
  split at h
  · rename_i b q; cases h; exact ⟨b, q, rfl⟩
  · cases h
theorem px_andV (h1 : PE X e1 (tX g i a cls d f1)) (h2 : PE X (.BoolOp .And (e2 :: rest) pos) (tX g i a cls d f2)) : PE X (.BoolOp .And (e1 :: e2 :: rest) pos) (tX g i a cls d (xAnd f1 f2)) := PE.imp (pe_and h1 h2) fun σ H Q h => by
  obtain ⟨Fx, ι, st, ex, dv, r, x, e, q⟩ := h
  rcases xAnd_of e with ⟨z1, z2⟩ | ⟨z1, z2⟩
  · exact ⟨Fx, ι, st, ex, _, r, x, z1, fun v H1 k1 rv => ⟨true, rep_bl rv, Fx, ι, st, ex, dv, r.same k1, x.grow k1, z2, fun w H2 k2 rw => q w H2 (k1.trans k2) rw⟩⟩
  · subst z2
    exact ⟨Fx, ι, st, ex, _, r, x, z1, fun v H1 k1 rv => ⟨false, rep_bl rv, q _ H1 k1 mk_bl⟩⟩
theorem px_orV (h1 : PE X e1 (tX g i a cls d f1)) (h2 : PE X (.BoolOp .Or (e2 :: rest) pos) (tX g i a cls d f2)) : PE X (.BoolOp .Or (e1 :: e2 :: rest) pos) (tX g i a cls d (xOr f1 f2)) := PE.imp (pe_or h1 h2) fun σ H Q h => by
  obtain ⟨Fx, ι, st, ex, dv, r, x, e, q⟩ := h
  rcases xOr_of e with ⟨z1, z2⟩ | ⟨z1, z2⟩
  · exact ⟨Fx, ι, st, ex, _, r, x, z1, fun v H1 k1 rv => ⟨false, rep_bl rv, Fx, ι, st, ex, dv, r.same k1, x.grow k1, z2, fun w H2 k2 rw => q w H2 (k1.trans k2) rw⟩⟩
  · subst z2
    exact ⟨Fx, ι, st, ex, _, r, x, z1, fun v H1 k1 rv => ⟨true, rep_bl rv, q _ H1 k1 mk_bl⟩⟩
theorem px_notV (h1 : PE X e (tX g i a cls d f)) : PE X (.UnaryOp .Not e pos) (tX g i a cls d (xNot f)) := PE.imp (pe_not h1) fun σ H Q h => by
  obtain ⟨Fx, ι, st, ex, dv, r, x, e, q⟩ := h
  obtain ⟨b, z1, rfl⟩ := xNot_of e
  exact ⟨Fx, ι, st, ex, _, r, x, z1, fun v H1 k1 rv => ⟨b, rep_bl rv, q _ H1 k1 mk_bl⟩⟩
theorem px_oneV {op : BoolOp} (h1 : PE X e (tX g i a cls d f)) : PE X (.BoolOp op [e] pos) (tX g i a cls d f) := pe_one h1
/-! tests -/
theorem px_andT (h1 : PT X e1 (tXt g i a cls d f1)) (h2 : PW X (.BoolOp .And (e2 :: rest) pos) (tXt g i a cls d f2)) : PW X (.BoolOp .And (e1 :: e2 :: rest) pos) (tXt g i a cls d (xAnd f1 f2)) := PW.imp (pw_and h1 h2) fun σ H Q h => by
  obtain ⟨Fx, ι, st, ex, dv, r, x, e, q⟩ := h
  rcases xAnd_of e with ⟨z1, z2⟩ | ⟨z1, z2⟩
  · exact ⟨Fx, ι, st, ex, _, r, x, z1, fun v H1 k1 rv => ⟨true, rep_bl rv, Fx, ι, st, ex, dv, r.same k1, x.grow k1, z2, fun w H2 k2 rw => q w H2 (k1.trans k2) rw⟩⟩
  · subst z2
    refine ⟨Fx, ι, st, ex, _, r, x, z1, fun v H1 k1 rv => ⟨false, rep_bl rv, ?_⟩⟩
    obtain ⟨k, hk, q2⟩ := q _ H1 k1 mk_bl
    cases hk
    exact q2
theorem px_orT (h1 : PT X e1 (tXt g i a cls d f1)) (h2 : PW X (.BoolOp .Or (e2 :: rest) pos) (tXt g i a cls d f2)) : PW X (.BoolOp .Or (e1 :: e2 :: rest) pos) (tXt g i a cls d (xOr f1 f2)) := PW.imp (pw_or h1 h2) fun σ H Q h => by
  obtain ⟨Fx, ι, st, ex, dv, r, x, e, q⟩ := h
  rcases xOr_of e with ⟨z1, z2⟩ | ⟨z1, z2⟩
  · exact ⟨Fx, ι, st, ex, _, r, x, z1, fun v H1 k1 rv => ⟨false, rep_bl rv, Fx, ι, st, ex, dv, r.same k1, x.grow k1, z2, fun w H2 k2 rw => q w H2 (k1.trans k2) rw⟩⟩
  · subst z2
    refine ⟨Fx, ι, st, ex, _, r, x, z1, fun v H1 k1 rv => ⟨true, rep_bl rv, ?_⟩⟩
    obtain ⟨k, hk, q2⟩ := q _ H1 k1 mk_bl
    cases hk
    exact q2
theorem px_notT (h1 : PT X e (tXt g i a cls d f)) : PT X (.UnaryOp .Not e pos) (tXt g i a cls d (xNot f)) := PT.imp (pt_not h1) fun σ H Q h => by
  obtain ⟨Fx, ι, st, ex, dv, r, x, e, q⟩ := h
  obtain ⟨b, z1, rfl⟩ := xNot_of e
  refine ⟨Fx, ι, st, ex, _, r, x, z1, fun v H1 k1 rv => ⟨b, rep_bl rv, ?_⟩⟩
  obtain ⟨k, hk, q2⟩ := q _ H1 k1 mk_bl
  cases hk
  exact q2
theorem px_test (h1 : PE X e (tX g i a cls d f)) (he : ∀ whole, isTrue e X.env whole = (do let v ← whole; standAt e.pos; holding [v] (truthy v))) : PT X e (tXt g i a cls d f) := PT.imp (pt_val h1 he) fun σ H Q h => h
/-! statements -/
theorem psx_nil : PSs X [] (tsX g i a cls d xNext) := PSs.imp pss_nil fun Dn σ H h => by
  obtain ⟨Fx, ι, st, ex, r, sr, x, e, q⟩ := h
  cases e
  exact q H (Grow.refl H)
theorem psx_one (h : PS X s (tsX g i a cls d u)) : PSs X [s] (tsX g i a cls d u) := pss_one h
theorem psx_cons (h1 : PS X s (tsX g i a cls d u)) (h2 : PSs X ss (tsX g i a cls d v)) : PSs X (s :: ss) (tsX g i a cls d (xSeq u v)) := PSs.imp (pss_cons h1 h2) fun Dn σ H h => by
  obtain ⟨Fx, ι, st, ex, r, sr, x, e, q⟩ := h
  unfold xSeq at e
  cases z : u ex with
  | none => rw [z] at e; cases e
  | some o =>
    rw [z] at e
    cases o with
    | none => exact ⟨Fx, ι, st, ex, none, sr, x, z, fun H1 k1 => ⟨Fx, ι, st, ex, r, sr.same k1, x.grow k1, e, by
        cases r with
        | none => exact fun H2 k2 => q H2 (k1.trans k2)
        | some dv => exact fun w H2 k2 => q w H2 (k1.trans k2)⟩⟩
    | some dv =>
      cases e
      exact ⟨Fx, ι, st, ex, some dv, sr, x, z, q⟩
theorem psx_ret (h : PE X e (tX g i a cls d f)) : PS X (.Return (some e) pos) (tsX g i a cls d (xRet f)) := PS.imp (ps_ret h) fun Dn σ H h => by
  obtain ⟨Fx, ι, st, ex, r, sr, x, e, q⟩ := h
  unfold xRet at e
  cases z : f ex with
  | none => rw [z] at e; cases e
  | some dv =>
    rw [z] at e
    cases e
    exact ⟨Fx, ι, st, ex, dv, sr, x, z, q⟩
theorem psx_if (ht : PT X e (tXt g i a cls d f)) (h1 : PSs X ss (tsX g i a cls d u)) (h2 : PSs X ss2 (tsX g i a cls d v)) : PS X (.If e ss ss2 pos) (tsX g i a cls d (xIf f u v)) := PS.imp (ps_if ht h1 h2) fun Dn σ H h => by
  obtain ⟨Fx, ι, st, ex, r, sr, x, e, q⟩ := h
  unfold xIf at e
  split at e
  · rename_i z
    refine ⟨Fx, ι, st, ex, _, sr, x, z, fun w H1 k1 rw => ⟨true, rep_bl rw, Fx, ι, st, ex, r, sr.same k1, x.grow k1, e, ?_⟩⟩
    cases r with
    | none => exact fun H2 k2 => q H2 (k1.trans k2)
    | some dv => exact fun w H2 k2 => q w H2 (k1.trans k2)
  · rename_i z
    refine ⟨Fx, ι, st, ex, _, sr, x, z, fun w H1 k1 rw => ⟨false, rep_bl rw, Fx, ι, st, ex, r, sr.same k1, x.grow k1, e, ?_⟩⟩
    cases r with
    | none => exact fun H2 k2 => q H2 (k1.trans k2)
    | some dv => exact fun w H2 k2 => q w H2 (k1.trans k2)
  · cases e
end
/-! ### a def that is handed the exception -/
def xOut (u : XSu) : Exc → Option D := fun ex => (u ex).map fun o => o.getD .non
open L2 in
theorem SRel.blank {g : Gx} {Fx : Addr → Prop} {ι : Io} {H : Hp} {mu : List Cell} (r : SRel g Fx ι H [] ⟨[], mu⟩) (σ : L2.St) : SRel g Fx ι H σ ⟨List.replicate σ.length .un, mu⟩ := by
  refine ⟨by simp, fun i d e => ?_, fun i xs e => ?_, r.ce, fun i a e => ?_, r.domc, r.inj, r.fx, r.fxt, r.owt⟩
  · have e' : (List.replicate σ.length Slot.un)[i]? = some (.va d) := e
    rw [List.getElem?_replicate] at e'
    split at e' <;> cases e'
  · have e' : (List.replicate σ.length Slot.un)[i]? = some (.ac xs) := e
    rw [List.getElem?_replicate] at e'
    split at e' <;> cases e'
  · obtain ⟨xs, z⟩ := r.dom i a e
    simp at z
open L2 in
theorem Rep.back {K : PySem.W.Frag} {H : Hp} {Fx : Addr → Prop} {ι : Io} {d : D} {v : V} (h : Rep K H (strange Fx ι) (cells ι) d v) : Rep K H Fx ι d v :=
  Rep.car ⟨fun _ _ z _ => z, fun b z => .inl ((mt_strange b).mpr z), fun _ _ z => z⟩ _ _ h
section
open L2 L2H PyProof.Rows
/-- what is told of an exception's object -/
structure XObj (K : PySem.W.Frag) (mg : Str → Option Value) (H : Hp) (Fx : Addr → Prop) (ι : Io) (oe : Obj) (cls : Value) (d : Option Addr) (ex : Exc) : Prop where
  z : Zc cls d oe
  v : ∃ vs, oe.data = .fields vs
  c : ∃ C, cls = .ref C ∧ mg ex.c = some (.ref C)
  f : (ex.fs = [] ∧ d = none) ∨ ∃ dd fv, d = some dd ∧ H dd = some (.xd fv) ∧ ∀ f x, ex.fs.lookup f = some x → ∃ v, fv.lookup f = some v ∧ Rep K H Fx ι x v
structure FnX (P : Program) (w : World) (K : PySem.W.Frag) (mg : Str → Option Value) (base : Heap) (k : Nat) (f : Addr) (fd : FuncData) (x1 : Str) (h : Exc → Option D) : Prop where
  run : ∀ (A : Around) (outer : List Env) (s : Shared) (H : Hp) (args : Args) (Q : VK) (a : Addr) (oe : Obj) (cls : Value) (d : Option Addr) (Fx : Addr → Prop) (ι : Io) (mu : List Cell) (ex : Exc) (dv : D),
    RoomH k A → Hot1 A (a, oe) → PinOk outer H s (a, oe) → Env0 P w K mg base A outer s H → BindsTo s fd args [(x1, .ref a)] → XObj K mg H Fx ι oe cls d ex → SRel ⟨K, mg⟩ Fx ι H [] ⟨[], mu⟩ → h ex = some dv →
    (∀ v H', Grow H H' → Rep K H' Fx ι dv v → Q v H') → codeAny (model P w) A (.call (.ref f) args) (CR C8.CX0 outer P w H s Q C8.E0) s
theorem fnX_of {P : Program} {w : World} {K : PySem.W.Frag} {mg : Str → Option Value} {base : Heap} {k : Nat} {f : Addr} {name qual : Str} {prms : Arguments} {ss : List Stmt} {sc : Scope} {dV kV doc pm cdv ct oc : Value} {an od : Option Addr} {osl : Array (Option Value)} {N : List Str} {x1 : Str} {u : XSu}
    (there : K.lookup f = some ⟨oc, od, .func (PySem.W.fnOf name qual prms ss sc dV kV doc pm an cdv ct), osl⟩) (code : PySem.W.codeIn K cdv qual = true) (S : FnScope N [x1] sc)
    (hss : ∀ (A : Around) (outer : List Env) (s : Shared) (H : Hp) (a : Addr) (oe : Obj) (cls : Value) (d : Option Addr), Zc cls d oe → (∃ vs, oe.data = .fields vs) → PSs (cxH C8.CX0 P w K mg base N qual sc f cdv A outer s H C8.E0 (a, oe)) ss (tsX ⟨K, mg⟩ 0 a cls d u)) :
    FnX P w K mg base (k + 1) f (PySem.W.fnOf name qual prms ss sc dV kV doc pm an cdv ct) x1 (xOut u) := ⟨fun A outer s H args Q a oe cls d Fx ι mu ex dv room hot pin env bind xo sr hx q => by
  have inK : K.In s.heap := env.mod.kin.keeps fun b o z => (env.bs b o z).1
  have free : s.heap.NoLimit := env.mod.nolimit.keeps fun b o z => (env.bs b o z).1
  have par1 : ∀ y ∈ [x1].zip [Value.ref a], sc.names.lookup y.1 = some .local ∨ (sc.names.lookup y.1 = some .cell ∧ ((cellsFrom (s.heap.objs.size + 1) sc.names []).lookup y.1).isSome = true) := fun ⟨n, v⟩ hy => by
    rcases S.par n (List.of_mem_zip hy).1 with z | z
    · exact .inl z
    · exact .inr ⟨z, PySem.W.cellsFrom_some _ _ _ (.inl z)⟩
  refine codeAny_call_function room.depth (inK _ _ there) rfl S.co S.gen rfl (PySem.W.codeRec_of inK code) (bind _ _ _ _ ?_)
  refine wpAny_newFunctionEnv_cells S.kind par1 fun en hen s1 beg => ?_
  subst hen
  refine ⟨free.keeps beg.toInCall.keep, codeAny_func ?_⟩
  have I0 : Inv (cxH C8.CX0 P w K mg base N qual sc f cdv A outer s H C8.E0 (a, oe)) [] (L2.start N [.ref a]) H s1 := inv_startH (vs := [.ref a]) (us := [.ref a]) S pin env rfl (.cons rfl .nil) beg
  unfold xOut at hx
  cases z : u ex with
  | none => rw [z] at hx; cases hx
  | some o =>
    rw [z] at hx
    cases hx
    refine wpAny_mono ((hss A outer s H a oe cls d xo.z xo.v).run [] s1 (L2.start N [.ref a]) H { nx := fun _ H' => Q .non H', rt := Q } I0 ⟨Fx, ι, _, ex, o, sr.blank _, ⟨by rfl, xo.c, xo.f⟩, z, ?_⟩) (fun fl s' hs => ?_) fun _ _ hs => hs
    · cases o with
      | none => exact fun H' gr => q .non H' gr mk_non
      | some dv => exact fun v H' gr rv => q v H' gr rv
    · cases fl with
      | ret w1 =>
        obtain ⟨v1, σ1, H1, J, rv, q1⟩ := hs
        exact ⟨v1, H1, J.os, J.bare, J.base, J.hok, rv, q1⟩
      | next =>
        obtain ⟨σ1, H1, J, q1⟩ := hs
        exact ⟨V.non, H1, J.os, J.bare, J.base, J.hok, rfl, q1⟩
      | brk => exact hs.elim fun _ z => z.elim fun _ z => z.2.elim
      | cont => exact hs.elim fun _ z => z.elim fun _ z => z.2.elim⟩
theorem px_callX {X : Cx} {k i : Nat} {f a : Addr} {oe : Obj} {cls : Value} {d : Option Addr} {fd : FuncData} {x1 y n : Str} {h : Exc → Option D} {p p1 pos : Pos} (F : FnX X.prog X.w X.K X.mg X.base k f fd x1 h) (room : RoomH k X.A) (hot : Hot1 X.A (a, oe)) (hp : (a, oe) ∈ X.pn)
    (hg : Gl X y) (hm : X.mg y = some (.ref f)) (hk : PySem.W.keepIn X.K (.ref f) = true) (hb : Binds X.K fd [x1] []) (hz : Zc cls d oe) (hv : ∃ vs, oe.data = .fields vs) (he : PE X (.Name n p1) (tVar i)) (hdb : (y == ("__debug__" : Str)) = false) :
    PE X (.Call (.Name y p) [.Name n p1] [] pos) (Pv.tX (gx X) i a cls d h) := ⟨fun pins s σ H Q I hh => by
  obtain ⟨Fx, ι, st, ex, dv, r, ⟨h0, hc, hf⟩, e, q⟩ := hh
  refine wpAny_Call_Name_kw (ld_glob I hg hm ?_ hdb)
  refine PySem.W.callWith_K (h₀ := X.base) I.ok.mod.kin hk (thn ((pa_cons he pa_nil (by rfl)).run pos pins s σ H (fun vs H1 => vs = [.ref a] ∧ H1 = H) I ⟨.ref a, h0, rfl, rfl⟩) fun us s1 ⟨vs, H1, I1, r1, e1, e2⟩ => ⟨I1.kIn, ?_⟩) (by rfl) (by rfl)
  subst e1 e2
  cases r1 with
  | cons ra rr =>
    cases rr
    cases ra
    have b := hb s1 [.ref a] I1.kIn rfl
    have pn := I1.pin (a, oe) (List.mem_append_left _ hp)
    have pin : PinOk X.stack H1 s1 (a, oe) := ⟨pn.1, pn.2.1, fun m => (List.mem_cons.mp (I1.stkSub a m)).elim pn.2.2.1 pn.2.2.2.1, pn.2.2.2.2⟩
    have sr := r.callee
    have xo : XObj X.K X.mg H1 (strange Fx ι) (cells ι) oe cls d ex := ⟨hz, hv, hc, by
      rcases hf with hf | ⟨dd, fv, z1, z2, z3⟩
      · exact .inl hf
      · refine .inr ⟨dd, fv, z1, z2, fun f x l => ?_⟩
        obtain ⟨v, l1, rv⟩ := z3 f x l
        exact ⟨v, l1, Rep.car car_callee _ _ rv⟩⟩
    refine wpAny_call (codeAny_mono (F.run X.A X.stack s1 H1 ⟨[.ref a], []⟩ Q a oe cls d _ _ st.mu ex dv room hot pin I1.env0 b xo sr e fun v H' gr rv => q v H' gr (Rep.back rv)) fun res s' hq => ?_)
    cases res with
    | error er => exact False.elim hq
    | ok fl =>
      cases fl with
      | ret w1 => exact I1.after hq
      | next => exact False.elim hq
      | brk => exact False.elim hq
      | cont => exact False.elim hq⟩
end
end Pv
/-! Pv22: text.replace: what stands behind a written text that is stored. -/
namespace Pv
open PySem PySem.Spec L2
def repl1 (c : Nat) (z s : List Nat) : List Nat := s.flatMap fun d => if d = c then z else [d]
theorem repl1_app (c : Nat) (z a b : List Nat) : repl1 c z (a ++ b) = repl1 c z a ++ repl1 c z b := by
  unfold repl1
  rw [List.flatMap_append]
theorem repl1_free (c : Nat) (z : List Nat) : ∀ l : List Nat, c ∉ l → repl1 c z l = l
  | [], _ => rfl
  | k :: r, h => by
    have h1 : ¬ k = c := fun e => h (e ▸ List.mem_cons_self ..)
    have ih := repl1_free c z r fun m => h (List.mem_cons_of_mem _ m)
    unfold repl1 at ih ⊢
    rw [List.flatMap_cons, if_neg h1, ih]
    rfl
theorem repl1_join (c : Nat) (z : Str) : ∀ parts : List Str, (∀ p ∈ parts, c ∉ p.cps.toList) → repl1 c z.cps.toList (Str.join ⟨#[c]⟩ parts).cps.toList = (Str.join z parts).cps.toList
  | [], _ => rfl
  | [p], h => repl1_free c _ _ (h p (List.mem_singleton.mpr rfl))
  | p :: q :: r, h => by
    have ih := repl1_join c z (q :: r) fun a ha => h a (List.mem_cons_of_mem _ ha)
    show repl1 c z.cps.toList (p ++ ⟨#[c]⟩ ++ Str.join ⟨#[c]⟩ (q :: r)).cps.toList = (p ++ z ++ Str.join z (q :: r)).cps.toList
    simp only [Str.cps_append, Array.toList_append]
    rw [repl1_app, repl1_app, ih, repl1_free c _ _ (h p (List.mem_cons_self ..))]
    have : repl1 c z.cps.toList [c] = z.cps.toList := by simp [repl1]
    rw [this]
theorem replace_at (x z : Str) (c : Nat) : (Txt.replace x ⟨#[c]⟩ z).cps.toList = repl1 c z.cps.toList x.cps.toList := by
  rw [StrLaws.replace_one, ← repl1_join c z _ (StrLaws.split_free x c), StrLaws.join_split]
def mRepl (c : Nat) (z : List Nat) (f : M D) : M D := fun st => (f st).bind fun d st1 => match d with
  | .str s => if s.length ≤ 100000 ∧ z.length ≤ 100 ∧ okSb (repl1 c z s) = true then .ok (.str (repl1 c z s)) st1 else .bad
  | _ => .bad
def PETd (X : Cx) (W : WX) (e : Expr) (f : M D) : Prop := PET X e (tE (gx X) W f)
def PATd (X : Cx) (W : WX) (es : List Expr) (f : M (List D)) : Prop := PAT X es (tAs (gx X) W f)
def PSTd (X : Cx) (W : WX) (s : Stmt) (f : MS) : Prop := PST X s (tS (gx X) W f)
def PSsTd (X : Cx) (W : WX) (s : List Stmt) (f : MS) : Prop := PSsT X s (tS (gx X) W f)
theorem PET.imp {X : Cx} {e : Expr} {t t' : TE} (h : PET X e t) (k : ∀ σ H Q, t' σ H Q → t σ H Q) : PET X e t' := fun pins s σ H Q h0 I q => h pins s σ H Q h0 I (k σ H Q q)
theorem PAT.imp {X : Cx} {e : List Expr} {t t' : TA} (h : PAT X e t) (k : ∀ σ H Q, t' σ H Q → t σ H Q) : PAT X e t' := fun p pins s σ H Q h0 I q => h p pins s σ H Q h0 I (k σ H Q q)
theorem PST.imp {X : Cx} {e : Stmt} {t t' : TS} (h : PST X e t) (k : ∀ D σ H, t' D σ H → t D σ H) : PST X e t' := fun pins s σ H D h0 I q => h pins s σ H D h0 I (k D σ H q)
theorem PSsT.imp {X : Cx} {e : List Stmt} {t t' : TS} (h : PSsT X e t) (k : ∀ D σ H, t' D σ H → t D σ H) : PSsT X e t' := fun pins s σ H D h0 I q => h pins s σ H D h0 I (k D σ H q)
section
variable {X : Cx} {W : WX} {e o a b : Expr} {f fo fa fb : M D} {pos apos : Pos}
theorem PETd.of (h : PEd X W e f) : PETd X W e f := CwR.PET.of h
theorem PETd.repl {c j k : Nat} {z : Str} {c0 c1 : Pos} (ho : PETd X W o fo) (hz : ((⟨#[c]⟩ : Str) == z) = false)
    (hbase : attributeBase o "replace" X.env (eval o X.env) = eval o X.env) (hline : (apos.endLine == pos.line) = true) :
    PETd X W (.Call (.Attribute o "replace" apos) [.Constant (.str ⟨#[c]⟩) j c0, .Constant (.str z) k c1] [] pos) (mRepl c z.cps.toList fo) := PET.imp (CwR.pet_replT ho hz (by rfl) hbase hline) fun σ H Q h => by
  obtain ⟨Fx, ι, st, r, q⟩ := h
  refine ⟨Fx, ι, st, r, q.bind.imp fun d ι1 H1 st1 s1 r1 q1 v rv => ?_⟩
  cases d with
  | str s =>
    simp only at q1
    split at q1
    · rename_i hl
      obtain ⟨e1, ok⟩ := rep_str rv
      subst e1
      refine ⟨_, rfl, ?_, ?_⟩
      · have : z.length = z.cps.toList.length := by show z.cps.size = _; simp
        rw [str_len, this]
        have h1 : (s.length + 1) * z.cps.toList.length ≤ 100001 * 100 := Nat.mul_le_mul (by omega) hl.2.1
        omega
      · have e2 : Txt.replace ⟨s.toArray⟩ ⟨#[c]⟩ z = ⟨(repl1 c z.cps.toList s).toArray⟩ := by
          have := replace_at ⟨s.toArray⟩ z c
          simp only [List.toList_toArray] at this
          rw [← this]
        rw [e2]
        exact q1.ok r1 _ (mk_str (OkS.of hl.2.2))
    · exact q1.elim
  | _ => exact q1.elim
theorem PETd.op2 {op : Operator} {k : List Cell → D → D → Option D} (ho : Op2 X (binaryOp op) k) (ha : PETd X W a fa) (hb : PETd X W b fb) : PETd X W (.BinOp a op b pos) (mOp2 k fa fb) :=
  PET.imp (CwR.pet_op ho ha hb) fun _ _ _ h => tE_op h
theorem PATd.nil : PATd X W [] mNil := PAT.imp pat_nil fun σ H Q h => by
  obtain ⟨Fx, ι, st, r, q⟩ := h
  exact q.ok r _ .nil
theorem PATd.cons {es : List Expr} {fs : M (List D)} (ha : PETd X W e f) (hr : PATd X W es fs) (hs : starEach (e :: es) X.env = (false, eval e X.env) :: starEach es X.env) : PATd X W (e :: es) (mCons f fs) := PAT.imp (pat_cons ha hr hs) fun σ H Q h => by
  obtain ⟨Fx, ι, st, r, q⟩ := h
  refine ⟨Fx, ι, st, r, q.bind.imp fun d ι1 H1 st1 s1 r1 q1 x rx => ⟨Fx, ι1, st1, r1, q1.bind.imp fun ds ι2 H2 st2 s2 r2 q2 xs rxs => ?_⟩⟩
  exact q2.ok r2 _ (.cons (Rep.car s2.car _ _ rx) rxs)
theorem pet_tup {X : Cx} {es : List Expr} {t : TA} {x1 : Nat} {pos : Pos} (h : PAT X es t) : PET X (.Tuple es x1 pos) (tTup t) := by
  intro pins s σ H Q h0 I hq
  refine wpAny_Tuple_spliced (thn (h pos pins s σ H _ h0 I hq) fun us s1 ⟨xs, H1, I1, r, z, q⟩ => ⟨by rw [← r.length]; exact z, ?_⟩)
  have hf : H1 s1.heap.objs.size = none := I1.hok.fresh (Nat.le_refl _)
  refine ⟨.ref s1.heap.objs.size, upd H1 s1.heap.objs.size (.tup xs), I1.laid (t' := s1.toks) (fun b u e => Heap.get?_push_of_some _ e) (Nat.le_refl _) ?_, rfl, q _ hf⟩
  exact ⟨z, us, r, ⟨_, Heap.get?_push_size _ rfl, rfl, _, rfl⟩⟩
theorem PETd.tup {es : List Expr} {fs : M (List D)} {k : Nat} (h : PATd X W es fs) : PETd X W (.Tuple es k pos) (mTup fs) := PET.imp (pet_tup h) fun σ H Q h => by
  obtain ⟨Fx, ι, st, r, q⟩ := h
  refine ⟨Fx, ι, st, r, q.bind.imp fun ds ι1 H1 st1 s1 r1 q1 xs rxs => ?_⟩
  by_cases hl : ds.length ≤ lim
  · rw [if_pos hl] at q1
    refine ⟨by rw [← rxs.length]; exact Nat.le_trans hl lim_line, fun p hp => ?_⟩
    refine q1 ι1 _ (step_new hp) (r1.new hp) _ ?_
    simp only [Rep]
    exact ⟨p, xs, rfl, .inl ⟨.inl upd_same, r1.fresh hp⟩, RepAll.car (step_new hp).car _ _ rxs⟩
  · rw [if_neg hl] at q1
    exact q1.elim
theorem PSTd.of {s : Stmt} {g : MS} (h : PSd X W s g) : PSTd X W s g := PST.of h
theorem pst_set {X : Cx} {i : Nat} {x : Str} {e : Expr} {te : TE} {pos pos' : Pos} (hN : X.N.Nodup) (hi : X.N[i]? = some x) (hx : L2.Loc X.env.scope x) (he : PET X e te) (hs : swapsWith e (some (.Name x pos')) pos.line X.env = pure false) (hf : X.fn x = true ∨ X.env.scope.names.lookup x = some .local) :
    PST X (.Assign [.Name x pos'] e pos) (tAsg te (gName i)) := by
  intro pins s σ H D h0 I h
  refine wpAny_Assign_Name (thn (he pins s σ H _ h0 I h) fun v s1 ⟨y, H1, I1, r1, q1⟩ => ?_) hs
  exact store_ok I1 hN hi hx r1 (fun s2 I2 => ⟨_, H1, I2, q1⟩) hf
theorem PSTd.set {i : Nat} {x : Str} {pos' : Pos} (hN : X.N.Nodup) (hi : X.N[i]? = some x) (hx : L2.Loc X.env.scope x) (he : PETd X W e f) (hs : swapsWith e (some (.Name x pos')) pos.line X.env = pure false) (hf : X.fn x = true ∨ X.env.scope.names.lookup x = some .local) :
    PSTd X W (.Assign [.Name x pos'] e pos) (sSet i f) := PST.imp (pst_set hN hi hx he hs hf) fun Dn σ H h => by
  obtain ⟨Fx, ι, st, r, q⟩ := h
  refine ⟨Fx, ι, st, r, q.bind.imp fun d ι1 H1 st1 s1 r1 q1 v rv => ?_⟩
  exact q1 _ H1 _ step_cut (r1.put i rv)
theorem PSTd.ret (he : PETd X W e f) : PSTd X W (.Return (some e) pos) (sRet f) := PST.imp (CwR.pst_ret he) fun Dn σ H h => by
  obtain ⟨Fx, ι, st, r, q⟩ := h
  refine ⟨Fx, ι, st, r, q.bind.imp fun d ι1 H1 st1 s1 r1 q1 v rv => ?_⟩
  exact q1 ι1 H1 σ Step.refl r1 v rv
theorem PSsTd.of {ss : List Stmt} {g : MS} (h : PSsd X W ss g) : PSsTd X W ss g := PSsT.of h
theorem PSsTd.cons {s : Stmt} {ss : List Stmt} {t u : MS} (h1 : PSTd X W s t) (h2 : PSsTd X W ss u) : PSsTd X W (s :: ss) (sSeq t u) := PSsT.imp (psst_cons h1 h2) fun _ _ _ h => tS_seq h
theorem PSsTd.one {s : Stmt} {t : MS} (h1 : PSTd X W s t) : PSsTd X W [s] t := PSsT.imp (CwR.psst_one h1) fun _ _ _ h => h
/-- a written text is stored: behind it a token is out -/
theorem PSsd.str {i j : Nat} {x c : Str} {cpos pos' : Pos} {ss : List Stmt} {u : MS} (hc : okSb c.cps.toList = true) (hN : X.N.Nodup) (hi : X.N[i]? = some x) (hx : L2.Loc X.env.scope x) (h2 : PSsTd X W ss u)
    (hf : X.fn x = true ∨ X.env.scope.names.lookup x = some .local) :
    PSsd X W (.Assign [.Name x pos'] (.Constant (.str c) j cpos) pos :: ss) (sSeq (sSet i (mPure (.str c.cps.toList))) u) := PSs.imp (pss_str hN hi hx h2 rfl hf) fun Dn σ H h => by
  have h := tS_seq h
  obtain ⟨Fx, ι, st, r, q⟩ := h
  have q' : AftS (gx X) W Fx ι H (.ok .nx { st with sl := st.sl.set i (.va (.str c.cps.toList)) }) _ := q
  refine q' _ H _ step_cut (r.put i ?_)
  have e : c = ⟨c.cps.toList.toArray⟩ := by simp
  conv => rhs; rw [e]
  exact mk_str (OkS.of hc)
end
end Pv
/-! Pv13: statements and defs compiled. -/
namespace Pv
open PySem PySem.Spec L2
def sBad : MS := fun _ => .bad
theorem PSd.never {X : Cx} {W : WX} {s : Stmt} : PSd X W s sBad := PS.imp (ps_never (X := X) (st := s)) fun Dn σ H h => by
  obtain ⟨Fx, ι, st, r, q⟩ := h
  exact q
/-- how many turns a while may take -/
def turns : Nat := 1000000
def isDisp : Expr → Bool
  | .List _ _ => true
  | _ => false
/-- a plain local; a comprehension that may store it at once -/
def lclB (nm : List (Str × NameKind)) (x : Str) : Bool := match nm.lookup x with
  | some .local => true
  | _ => false
def celB (nm : List (Str × NameKind)) (x : Str) : Bool := match nm.lookup x with
  | some .cell => true
  | _ => false
theorem celB_of {nm : List (Str × NameKind)} {x : Str} (h : celB nm x = true) : nm.lookup x = some .cell := by
  unfold celB at h
  split at h
  · assumption
  · cases h
theorem sw_cell {elt : Expr} {gs : List Comprehension} {scope : Scope} {pos py : Pos} {y : Str} {l : Nat} {env : Env} (hy : env.scope.names.lookup y = some .cell) : swapsWith (.ListComp elt gs scope pos) (some (.Name y py)) l env = pure false := by
  have ky : env.kindOf y = some .cell := hy
  unfold swapsWith
  simp only [ky]
  cases env.blockKind <;> rfl
def swapB (nm : List (Str × NameKind)) (scope : Scope) (x : Str) (p pos : Pos) : Bool := (p.line == pos.line) && (lclB nm x && !(scope.names.any fun (n, k) => n == x && (k == .local || k == .cell)))
/-- what is told of exceptions: the classes with an own __init__ (fields, how many arguments), those made with a text, the handled ones, who is under whom, whose fields are read, which -/
structure XInf where
  ex : List (Str × List (Str × Nat) × Nat) := []
  et : List Str := []
  hs : List Str := []
  sub : Str → Str → Option Bool := fun _ _ => none
  tab : List Str := []
  flds : List Str := []
  isNs : List Str := []
  isN : Str → Str → Option Bool := fun _ _ => none
  vb : Bool := false
  an : Bool := false
  isV : Str → Option Bool := fun _ => none
  hot : Str → Option (Exc → Option D) := fun _ => none
def IsOk (K : PySem.W.Frag) (mg : Str → Option Value) (t : Str → Option Bool) (cv : Value) : Prop := ∀ x b, t x = some b → ∀ C, mg x = some (.ref C) → L2.ExcC K C ∧ PySem.W.kitOne K (.ref C) cv = some b
structure CtX (c : Ct) (xi : XInf) (W : WX) (X : Cx) : Prop where
  k : CtOk c W X
  st : X.stack = X.env :: X.outer
  fr : X.env.frame = some X.env.locals
  ex : ∀ x fs np, (x, fs, np) ∈ xi.ex → ExI X x fs np
  et : ∀ x, x ∈ xi.et → ExT X x
  sub : ∀ y, y ∈ xi.hs → ∃ v, X.mg y = some v ∧ SubOk X.K X.mg (xi.sub y) v
  fl : FldOk X.K X.mg xi.tab xi.flds
  isn : ∀ y, y ∈ xi.isNs → ∃ Cy, X.mg y = some (.ref Cy) ∧ IsOk X.K X.mg (xi.isN y) (.ref Cy)
  isv : xi.vb = true → X.mg "ValueError" = none ∧ IsOk X.K X.mg xi.isV (.type "ValueError")
  hot : ∀ y h, xi.hot y = some h → ∃ (k : Nat) (f : Addr) (fd : FuncData) (x1 : Str), FnX X.prog X.w X.K X.mg X.base k f fd x1 h ∧ L2H.RoomH k X.A ∧ X.mg y = some (.ref f) ∧ PySem.W.keepIn X.K (.ref f) = true ∧ Binds X.K fd [x1] []
/-- names alone -/
def namesOf : List Expr → Option (List Str)
  | [] => some []
  | .Name y _ :: es => (namesOf es).map (y :: ·)
  | _ :: _ => none
def anyN (xi : XInf) (x : Str) : List Str → Option Bool
  | [] => some false
  | y :: ys => match xi.isN y x with
    | some true => some true
    | some false => anyN xi x ys
    | none => none
def clsB (c : Ct) (xi : XInf) (y : Str) : Bool := glB c.nm y && (plainName y && xi.isNs.contains y)
/-- isinstance(e, ..) -/
def cIs (c : Ct) (xi : XInf) : Expr → Option (Exc → Option D)
  | .Name y _ => if y = "ValueError" ∧ xi.vb = true ∧ glB c.nm y = true then some fun ex => (xi.isV ex.c).map .bl else if clsB c xi y then some fun ex => (xi.isN y ex.c).map .bl else none
  | .Tuple es _ _ => match namesOf es with
    | some (y :: ys) => if (y :: ys).all (clsB c xi) && decide ((y :: ys).length ≤ 1000) then some fun ex => (anyN xi ex.c (y :: ys)).map .bl else none
    | _ => none
  | _ => none
def cXB (op : BoolOp) (f : Expr → Option (Exc → Option D)) : List Expr → Option (Exc → Option D)
  | [] => none
  | [e] => f e
  | e :: e' :: es => match f e, cXB op f (e' :: es) with
    | some a, some b => some (match op with
      | .And => xAnd a b
      | .Or => xOr a b)
    | _, _ => none
/-! ### any(list) where an exception is handled -/
section
open HotX
variable {prog : Program} {w : World} {A : Around} {E : Value → Shared → Prop} {s : Shared}
theorem pyNext_list_end_hot {it l x1 : Addr} {i : Nat} {items : Array Value} {Q : Option Value → Shared → Prop} (hot : HotAt A x1 s.heap) (hne : x1 ≠ it) (hit : s.heap.IsListIter it l i) (hl : s.heap.IsList l items) (hx : items[i]? = none)
    (hQ : ∀ h', (∀ b o, b ≠ it → s.heap.get? b = some o → h'.get? b = some o) → Q none { s with heap := h' }) : wpAny (model prog w) A (pyNext (.ref it)) Q E s := by
  obtain ⟨o, ho, hc, hd⟩ := id hit
  obtain ⟨ol, hol, _, nl, hdl⟩ := hl
  obtain ⟨hh, o1, vs1, h1, d1, c1⟩ := hot
  unfold pyNext
  refine wpAny_bind (wpAny_attempt (wpAny_callSpecial?_slot (name := Str.ofString "__next__") hit.typeIs slot_listiter_next
    (wpAny_call_entry slot_listiter_next hit.typeIs entry_listiter_next ?_ (args_listiter_next _))))
  show wpAny _ _ (field (.ref it) 0 >>= _) _ _ s
  refine wpAny_bind (wpAny_field ho hd (x := .ref l) rfl ?_)
  show wpAny _ _ (if (Value.ref l == Value.none) = true then _ else _) _ _ s
  rw [if_neg (show ¬ ((Value.ref l == Value.none) = true) from Bool.false_ne_true)]
  show wpAny _ _ (field (.ref it) 1 >>= _) _ _ s
  refine wpAny_bind (wpAny_field ho hd (x := .int i 0) rfl ?_)
  show wpAny _ _ (seqItems? (.ref l) >>= _) _ _ s
  refine wpAny_bind (wpAny_seqItems hol hdl ?_)
  simp only [Int.toNat_natCast, hx]
  refine wpAny_bind (wpAny_rule (wpAny_bind (wpAny_setField ho hd (by simp) ?_)))
  show wpAny _ _ (newExc (.type "StopIteration") [] >>= _) _ _ _
  refine wpAny_bind ?_
  simp only [newExc, newTuple]
  refine wpAny_bind (wpAny_newObj_type ?_ (by size_fits))
  refine wpAny_bind (m := firstArgMember _ _) (wpAny_of_eq (a := Value.none) (by first | rfl | (simp only [firstArgMember]; rfl)) ?_)
  refine wpAny_newObj_type ?_ (by size_fits)
  have h1' := h1
  rw [← Heap.get?_update_other (a := it) _ (Obj.mapFields (·.setIfInBounds 0 Value.none)) (Ne.symm hne)] at h1'
  refine raiseNew_hot ⟨hh, o1, vs1, Heap.get?_push_of_some _ (Heap.get?_push_of_some _ h1'), d1, c1⟩ (Nat.ne_of_lt (Heap.lt_size (Heap.get?_push_of_some _ h1'))) (Heap.get?_push_size _ rfl) rfl (by first | (simp; done) | (simp; omega) | (simp only [Array.size_append]; simp; omega)) ?_
  refine wpAny_bind (wpAny_isInstance (T := "StopIteration") (b := true) ⟨_, Heap.get?_update_self _ (Heap.get?_push_size _ rfl) rfl, rfl⟩ isSubtype_stop ?_)
  refine wpAny_pure (hQ _ fun b o hb e => ?_)
  rw [← Heap.get?_update_other (a := it) _ (Obj.mapFields (·.setIfInBounds 0 Value.none)) (Ne.symm hb)] at e
  rw [Heap.get?_update_other _ _ (Nat.ne_of_gt (Heap.lt_size (Heap.get?_push_of_some _ e)))]
  exact Heap.get?_push_of_some _ (Heap.get?_push_of_some _ e)
theorem walks_list_hot {x1 : Addr} {o1 : Obj} {vs1 : Array Value} (hh : A.handled = some (.ref x1)) (d1 : o1.data = .fields vs1) (c1 : vs1[2]? = some .none) (I ax : Addr) (hne : ax ≠ I) (hx : x1 ≠ I) (items : Array Value) :
    Walks prog w A I [I, ax, x1] [I] items.size (fun i v => items[i]? = some v) (fun i h => (h.IsListIter I ax i ∧ h.IsList ax items) ∧ h.get? x1 = some o1) where
  sub := fun b hb => by simp at hb; simp [hb]
  frame := fun _ _ _ st hk => ⟨⟨st.1.1.at fun o e => hk I (by simp) o e, st.1.2.at fun o e => hk ax (by simp) o e⟩, hk x1 (by simp) _ st.2⟩
  item := fun i s Q E hi st hQ => by
    refine wpAny_pyNext_list_item st.1.1 st.1.2 (x := items[i]) (by simp [hi]) fun h' hit' hs' => ?_
    exact hQ _ h' s.toks (by simp [hi]) ⟨⟨hit', st.1.2.extBut hs'.extBut hne⟩, hs'.extBut x1 _ hx st.2⟩ fun b o hb e => hs'.extBut b o (fun h => hb (by simp [h])) e
  done := fun s Q E st hQ => pyNext_list_end_hot ⟨hh, o1, vs1, st.2, d1, c1⟩ hx st.1.1 st.1.2 (by simp) fun h' he' => hQ h' s.toks fun b o hb e => he' b o (fun h => hb (by simp [h])) e
  self := fun _ _ _ _ st hQ => wpAny_pyIter_listiter st.1.1 hQ
end
open L2 in
theorem cr_any_hot {X : Cx} {a : Addr} {oe : Obj} (h1 : L2H.Hot1 X.A (a, oe)) (hp : (a, oe) ∈ X.pn) : CallR X (.builtin "any") (rAny X.K) := by
  intro pins s σ H vs us Q I r h
  obtain ⟨al, bs, rfl, hs, q⟩ := h
  obtain ⟨its, rv, hl, _⟩ := I.list hs
  rw [Vals.ref1 r]
  have hb := rv.bls
  obtain ⟨hh, vs1, d1, c1⟩ := h1
  obtain ⟨hget, _⟩ := I.pin (a, oe) (List.mem_append.mpr (.inl hp))
  refine call_any_walk (iter_any hl.isList fun s₂ e2 st hne => ?_)
  subst e2
  have hxI : a ≠ s.heap.objs.size := Nat.ne_of_lt (Heap.lt_size hget)
  refine ⟨_, _, _, _, _, _, _, rfl, walks_list_hot (A := X.A.in1) hh d1 c1 _ al hne hxI its.toArray, ⟨st, Heap.get?_push_of_some _ hget⟩, truth_bools hb, fun h' tk hk => ?_⟩
  refine ⟨.bl _, H, I.kept fun b o eo => hk b o (fun hmem => ?_) (Heap.get?_push_of_some _ eo), ?_, q⟩
  · rcases List.mem_cons.mp hmem with e1 | hmem
    · exact absurd (e1 ▸ Heap.lt_size eo) (Nat.lt_irrefl _)
    · cases hmem
  · show Value.bool _ = Value.bool _
    rw [← L2.any_range, hb, List.size_toArray, List.length_map]
/-! ### a list of truths, any of them -/
def atomD : D → Bool
  | .non => true
  | .bl _ => true
  | .int _ => true
  | .str _ => true
  | _ => false
open L2 in
theorem rep_atom {K : PySem.W.Frag} {H H' : Hp} {Fx Fx' : Addr → Prop} {ι ι' : Io} {d : D} {v : V} (hd : atomD d = true) (h : Rep K H Fx ι d v) : Rep K H' Fx' ι' d v := by
  cases d <;> first | (cases hd; done) | simpa only [Rep] using h
def atomO : Option (Option D) → Option (Option D)
  | some (some d) => if atomD d = true then some (some d) else none
  | _ => none
theorem atomO_of {o : Option (Option D)} {r : Option D} (h : atomO o = some r) : ∃ d, o = some (some d) ∧ r = some d ∧ atomD d = true := by
  unfold atomO at h
  split at h
  · split at h
    · rename_i q; cases h; exact ⟨_, rfl, rfl, q⟩
    · cases h
  · cases h
/-- xs = [..]; if any(xs) or t: u; v -/
def xAnyS (fs : Exc → Option (List D)) (t : Exc → Option D) (u v : XSu) : XSu := fun ex => match fs ex with
  | some ds => (match blsOf ds with
    | some bs => if decide (ds.length ≤ lim) = true then (if bs.any id = true then atomO (u ex) else (match t ex with
      | some (.bl true) => atomO (u ex)
      | some (.bl false) => atomO (v ex)
      | _ => none)) else none
    | none => none)
  | none => none
open L2 in
theorem px_any {X : Cx} {j : Nat} {y : Str} {p p1 pos : Pos} (hc : CallR X (.builtin "any") (rAny X.K)) (hg : Gl X "any") (hm : X.mg "any" = none) (he : PE X (.Name y p1) (tVar j)) :
    PE X (.Call (.Name "any" p) [.Name y p1] [] pos) (fun σ H Q => ∃ (al : Addr) (bs : List Bool), σ[j]? = some (some (.ref al)) ∧ SqL X.K H al (bs.map V.bl) ∧ Q (.bl (bs.any id)) H) := ⟨fun pins s σ H Q I h => by
  obtain ⟨al, bs, h0, hs, q⟩ := h
  refine (pe_callB hc hg hm (by decide +kernel) (pa_cons he pa_nil (by rfl)) (by decide) (by decide) (by rfl) (by rfl)).run pins s σ H Q I ?_
  exact ⟨.ref al, h0, al, bs, rfl, hs, q⟩⟩
open L2 in
theorem psx_any {X : Cx} {i j : Nat} {a : Addr} {cls : Value} {d : Option Addr} {y : Str} {es : List Expr} {e2 : Expr} {more : List Expr} {A rest : List Stmt} {fs : Exc → Option (List D)} {t : Exc → Option D} {u v : XSu} {p p1 pc pb py q0 pos pif : Pos} (hij : j < i) (hc : CallR X (.builtin "any") (rAny X.K))
    (hN : X.N.Nodup) (hj : X.N[j]? = some y) (hx : Loc X.env.scope y) (hfn : X.fn y = true ∨ X.env.scope.names.lookup y = some .local) (hg : Gl X "any") (hm : X.mg "any" = none) (he : PE X (.Name y p1) (tVar j))
    (hl : PA X es (tXs (gx X) i a cls d fs)) (ht : PW X (.BoolOp .Or (e2 :: more) pb) (tXt (gx X) i a cls d t)) (hA : PSs X A (tsX (gx X) i a cls d u)) (hR : PSs X rest (tsX (gx X) i a cls d v)) :
    PSs X (.Assign [.Name y py] (.List es q0) pos :: .If (.BoolOp .Or (.Call (.Name "any" p) [.Name y p1] [] pc :: e2 :: more) pb) A [] pif :: rest) (tsX (gx X) i a cls d (xAnyS fs t u v)) :=
  PSs.imp (pss_cons (ps_set hN hj hx (px_lst hl) (by rfl) hfn) (pss_cons (ps_if (pw_or (pt_val (px_any hc hg hm he)) ht).pt hA pss_nil) hR)) fun Dn σ H h => by
  obtain ⟨Fx, ι, st, ex, r, sr, x, e, q⟩ := h
  unfold xAnyS at e
  cases e1 : fs ex with
  | none => rw [e1] at e; cases e
  | some ds =>
    simp only [e1] at e
    cases e2 : blsOf ds with
    | none => rw [e2] at e; cases e
    | some bs =>
      simp only [e2] at e
      split at e
      · rename_i hlim
        have hlim := of_decide_eq_true hlim
        refine ⟨Fx, ι, st, ex, .lst ds, sr, x, by simp [e1, hlim], fun w H1 k1 rw1 => ?_⟩
        simp only [Rep] at rw1
        obtain ⟨al, vs, rfl, hal, hnm, rvs⟩ := rw1
        have hv := bls_rep rvs e2
        subst hv
        have hlen := sr.len
        have sr1 := (sr.same k1).drop j (some (.ref al)) .un (fun _ z => by cases z) (fun _ z => by cases z)
        have x1 : XF (gx X) i a cls d Fx (cut ι j) H1 (σ.set j (some (.ref al))) ex := by
          obtain ⟨y0, y1, y2⟩ := x.grow k1
          refine ⟨by rw [List.getElem?_set_ne (Nat.ne_of_lt hij)]; exact y0, y1, ?_⟩
          rcases y2 with y2 | ⟨dd, fv, z1, z2, z3⟩
          · exact .inl y2
          · refine .inr ⟨dd, fv, z1, z2, fun f' x' l => ?_⟩
            obtain ⟨v', l1, rr⟩ := z3 f' x' l
            exact ⟨v', l1, Rep.car step_cut.car _ _ rr⟩
        have fin : ∀ {o : Option (Option D)} {H2 : Hp}, atomO o = some r → (∀ b o, H1 b = some o → H2 b = some o) → ∃ dv, o = some (some dv) ∧ ∀ (v' : V) (H' : Hp), Grow H2 H' → Rep (gx X).K H' Fx (cut ι j) dv v' → Dn.rt v' H' := fun {o H2} ho k2 => by
          obtain ⟨dv, rfl, rfl, hd⟩ := atomO_of ho
          exact ⟨dv, rfl, fun v' H' g r' => q v' H' (k1.trans (Grow.trans k2 g)) (rep_atom hd r')⟩
        have hjl : j < σ.length := Nat.lt_trans hij (List.getElem?_eq_some_iff.mp x.1).1
        refine ⟨al, bs, by rw [List.getElem?_set_self hjl], SqL.of hal, bs.any id, rfl, ?_⟩
        by_cases hb : bs.any id = true
        · rw [if_pos hb] at e
          obtain ⟨dv, hu, q2⟩ := fin e fun _ _ z => z
          rw [if_pos hb]
          exact ⟨Fx, cut ι j, _, ex, some dv, sr1, x1, hu, q2⟩
        · rw [if_neg hb] at e
          rw [if_neg hb]
          split at e
          · rename_i ht1
            refine ⟨Fx, cut ι j, _, ex, _, sr1, x1, ht1, fun w H2 k2 rw2 => ⟨true, rep_bl rw2, ?_⟩⟩
            obtain ⟨dv, hu, q2⟩ := fin e k2
            exact ⟨Fx, cut ι j, _, ex, some dv, sr1.same k2, x1.grow k2, hu, q2⟩
          · rename_i ht1
            refine ⟨Fx, cut ι j, _, ex, _, sr1, x1, ht1, fun w H2 k2 rw2 => ⟨false, rep_bl rw2, ?_⟩⟩
            obtain ⟨dv, hu, q2⟩ := fin e k2
            exact ⟨Fx, cut ι j, _, ex, some dv, sr1.same k2, x1.grow k2, hu, q2⟩
          · cases e
      · cases e
open L2 in
theorem px_neg {X : Cx} {i : Nat} {a : Addr} {cls : Value} {d : Option Addr} {z : Int} {j : _} {c : _} {pos : Pos} : PE X (.UnaryOp .USub (.Constant (.int z) j c) pos) (tX (gx X) i a cls d fun _ => some (.int (-z))) := PE.imp (pe_un un_neg pe_int) fun σ H Q h => by
  obtain ⟨Fx, ι, st, ex, dv, r, x, e, q⟩ := h
  cases e
  exact ⟨z, rfl, q _ H (Grow.refl H) mk_int⟩
/-- isinstance(e.f, bool) -/
def xIsBool (f : Exc → Option D) : Exc → Option D := fun ex => match f ex with
  | some (.bl _) => some (.bl true)
  | some (.int _) => some (.bl false)
  | _ => none
open L2 in
theorem px_isBool {X : Cx} {i : Nat} {a : Addr} {cls : Value} {d : Option Addr} {e : Expr} {f : Exc → Option D} {p1 p2 pos : Pos} (he : PE X e (tX (gx X) i a cls d f)) (hg : Gl X "isinstance") (hm : X.mg "isinstance" = none) (hgy : Gl X "bool") (hmy : X.mg "bool" = none)
    (hs : starEach [e, .Name "bool" p2] X.env = (false, eval e X.env) :: starEach [.Name "bool" p2] X.env) : PE X (.Call (.Name "isinstance" p1) [e, .Name "bool" p2] [] pos) (tX (gx X) i a cls d (xIsBool f)) :=
  PE.imp (pe_callB call_isi hg hm (by decide +kernel) (pa_cons he (pa_cons (pe_bltn (v := .ty Ty.bool.name) hgy hmy (by decide +kernel) rfl (by decide) (by decide +kernel)) pa_nil) hs) (by decide) (by decide) hs (by rfl)) fun σ H Q h => by
    obtain ⟨Fx, ι, st, ex, dv, r, x, e, q⟩ := h
    unfold xIsBool at e
    split at e
    · rename_i b e1
      cases e
      exact ⟨Fx, ι, st, ex, .bl b, r, x, e1, fun v H1 k1 rv => ⟨v, .ty Ty.bool.name, _, _, _, rfl, .ty _, kd_ty (k := .bool) (r.same k1) rv rfl, kit_ty (kit_kd .bool .bool), q _ H1 k1 mk_bl⟩⟩
    · rename_i b e1
      cases e
      exact ⟨Fx, ι, st, ex, .int b, r, x, e1, fun v H1 k1 rv => ⟨v, .ty Ty.bool.name, _, _, _, rfl, .ty _, kd_ty (k := .int) (r.same k1) rv rfl, kit_ty (kit_kd .int .bool), q _ H1 k1 mk_bl⟩⟩
    · cases e
mutual
/-- what a suite returns -/
def cX (c : Ct) (xi : XInf) (n : Str) : Nat → Expr → Option (Exc → Option D)
  | 0, _ => none
  | m + 1, e => match e with
    | .Constant (.int i) _ _ => some fun _ => some (.int i)
    | .Constant (.bool b) _ _ => some fun _ => some (.bl b)
    | .Constant (.str x) _ _ => if okSb x.cps.toList then some fun _ => some (.str x.cps.toList) else none
    | .Attribute (.Name x _) f _ => if x = n ∧ (slotR c x).isSome = true ∧ f ∈ xi.flds then some fun ex => if xi.tab.contains ex.c then ex.fs.lookup f else none else none
    | .Tuple es _ _ => (cXs c xi n m es).map fun fs ex => (fs ex).bind fun ds => if ds.length ≤ lim then some (.tup ds) else none
    | .List es _ => (cXs c xi n m es).map fun fs ex => (fs ex).bind fun ds => if ds.length ≤ lim then some (.lst ds) else none
    | .Constant .none _ _ => some fun _ => some .non
    | .UnaryOp .Not e _ => (cX c xi n m e).map xNot
    | .UnaryOp .USub (.Constant (.int i) _ _) _ => some fun _ => some (.int (-i))
    | .BoolOp op es _ => cXB op (cX c xi n m) es
    | .Call (.Name f _) [.Name x _] [] _ => if x = n ∧ (slotR c n).isSome = true ∧ glB c.nm f = true ∧ plainName f = true then xi.hot f else none
    | .Call (.Name f _) [.Name x _, t] [] _ => if f = "isinstance" ∧ x = n ∧ (slotR c n).isSome = true ∧ bltB c f = true then cIs c xi t else none
    | .Call (.Name f _) [.Attribute (.Name x p1) fl p2, .Name y _] [] _ => if f = "isinstance" ∧ y = "bool" ∧ bltB c "isinstance" = true ∧ bltB c "bool" = true ∧ xi.an = true then (cX c xi n m (.Attribute (.Name x p1) fl p2)).map xIsBool else none
    | _ => none
def cXs (c : Ct) (xi : XInf) (n : Str) : Nat → List Expr → Option (Exc → Option (List D))
  | 0, _ => none
  | m + 1, es => match es with
    | [] => some fun _ => some []
    | e :: es => if notStar e then (match cX c xi n m e, cXs c xi n m es with
      | some f, some fs => some fun ex => (f ex).bind fun x => (fs ex).map (x :: ·)
      | _, _ => none) else none
end
/-- .. of slots, of built-in names -/
structure SuA (c : Ct) (X : Cx) (n : Str) (i : Nat) : Prop where
  sn : slotR c n = some i
  cm : L2.CallR X (.builtin "any") (L2.rAny X.K)
  nd : X.N.Nodup
  bl : ∀ x, bltB c x = true → L2.Gl X x ∧ X.mg x = none
  rd : ∀ y j, slotR c y = some j → ∀ p, PE X (.Name y p) (tVar j)
  wr : ∀ y j, slotW c y = some j → X.N[j]? = some y ∧ L2.Loc X.env.scope y ∧ (X.fn y = true ∨ X.env.scope.names.lookup y = some .local)
/-- what a suite's context gives -/
structure SuX (c : Ct) (xi : XInf) (X : Cx) (n : Str) (i : Nat) (a : Addr) (cls : Value) (d : Option Addr) : Prop where
  nm : ∀ p, PE X (.Name n p) (tVar i)
  fld : ∀ f p pos, f ∈ xi.flds → PE X (.Attribute (.Name n p) f pos) (tX (gx X) i a cls d fun ex => if xi.tab.contains ex.c then ex.fs.lookup f else none)
  iss : ∀ p p1 pos t f, bltB c "isinstance" = true → cIs c xi t = some f → PE X (.Call (.Name "isinstance" p) [.Name n p1, t] [] pos) (tX (gx X) i a cls d f)
  hot : ∀ y h p p1 pos, xi.hot y = some h → glB c.nm y = true → plainName y = true → PE X (.Call (.Name y p) [.Name n p1] [] pos) (tX (gx X) i a cls d h)
  an : xi.an = true → SuA c X n i
theorem kitAny_of {K : PySem.W.Frag} {mg : Str → Option Value} {xi : XInf} {x : Str} {C : Addr} (hx : mg x = some (.ref C)) : ∀ {ys : List Str} {b : Bool}, (∀ y ∈ ys, ∃ Cy, mg y = some (.ref Cy) ∧ IsOk K mg (xi.isN y) (.ref Cy)) → anyN xi x ys = some b →
    PySem.W.kitAny K (.ref C) ((ys.map fun y => match mg y with | some (.ref D) => D | _ => 0).map .ref) = some b
  | [], b, h, e => e
  | y :: ys, b, h, e => by
    obtain ⟨Cy, h1, h2⟩ := h y List.mem_cons_self
    unfold anyN at e
    rw [List.map_cons, List.map_cons, h1]
    unfold PySem.W.kitAny
    cases z : xi.isN y x with
    | none => rw [z] at e; cases e
    | some q =>
      rw [z] at e
      rw [(h2 x q z C hx).2]
      cases q with
      | true => exact e
      | false => exact kitAny_of hx (fun y hy => h y (List.mem_cons_of_mem _ hy)) e
theorem anyN_cons {xi : XInf} {x y : Str} {ys : List Str} {b : Bool} (h : anyN xi x (y :: ys) = some b) : ∃ q, xi.isN y x = some q := by
  unfold anyN at h
  cases z : xi.isN y x with
  | none => rw [z] at h; cases h
  | some q => exact ⟨q, rfl⟩
theorem nmsOk_of {X : Cx} {c : Ct} {xi : XInf} (hg : ∀ y, glB c.nm y = true → Gl X y) (hi : ∀ y, y ∈ xi.isNs → ∃ Cy, X.mg y = some (.ref Cy) ∧ IsOk X.K X.mg (xi.isN y) (.ref Cy)) : ∀ {es : List Expr} {ys : List Str}, namesOf es = some ys → ys.all (clsB c xi) = true →
    NmsOk X es (ys.map fun y => match X.mg y with | some (.ref D) => D | _ => 0)
  | [], ys, h, _ => by cases h; exact True.intro
  | e :: es, ys, h, ha => by
    unfold namesOf at h
    split at h
    · rename_i e'; cases e'
    · rename_i y p es' e'
      cases e'
      cases z : namesOf es with
      | none => rw [z] at h; cases h
      | some zs =>
        rw [z] at h
        cases h
        rw [List.all_cons, Bool.and_eq_true] at ha
        obtain ⟨h1, h2⟩ := ha
        unfold clsB at h1
        simp only [Bool.and_eq_true, List.contains_iff_mem] at h1
        obtain ⟨Cy, q1, q2⟩ := hi y h1.2.2
        rw [List.map_cons, q1]
        exact ⟨hg y h1.1, q1, (plain_d h1.2.1).1, nmsOk_of hg hi z h2⟩
    · cases h
theorem isS_of {X : Cx} {c : Ct} {xi : XInf} {n : Str} {i : Nat} {a : Addr} {oe : Obj} {cls : Value} {d : Option Addr} (hg : ∀ y, glB c.nm y = true → Gl X y) (hb : ∀ x, x ∈ c.bn → X.mg x = none) (hi : ∀ y, y ∈ xi.isNs → ∃ Cy, X.mg y = some (.ref Cy) ∧ IsOk X.K X.mg (xi.isN y) (.ref Cy))
    (hw : xi.vb = true → X.mg "ValueError" = none ∧ IsOk X.K X.mg xi.isV (.type "ValueError")) (hn : ∀ p, PE X (.Name n p) (tVar i)) (hz : Zc cls d oe) (hv : ∃ vs, oe.data = .fields vs) (hp : (a, oe) ∈ X.pn) :
    ∀ p p1 pos t f, bltB c "isinstance" = true → cIs c xi t = some f → PE X (.Call (.Name "isinstance" p) [.Name n p1, t] [] pos) (tX (gx X) i a cls d f) := fun p p1 pos t f hbl h => by
  unfold bltB at hbl
  simp only [Bool.and_eq_true, List.contains_iff_mem] at hbl
  have g1 := hg _ hbl.1.1
  have m1 := hb _ hbl.2
  unfold cIs at h
  split at h
  · rename_i y p2
    split at h
    · rename_i hy
      obtain ⟨rfl, v1, v2⟩ := hy
      cases h
      obtain ⟨w1, w2⟩ := hw v1
      exact px_isB (T0 := "ValueError") hz hv hp w2 g1 m1 (hg _ v2) w1 (by decide +kernel) (by decide +kernel) (by decide +kernel) (hn p1)
    · split at h
      · rename_i hy
        cases h
        unfold clsB at hy
        simp only [Bool.and_eq_true, List.contains_iff_mem] at hy
        obtain ⟨Cy, q1, q2⟩ := hi y hy.2.2
        exact px_isi hz hv hp q2 g1 m1 (hg _ hy.1) q1 (plain_d hy.2.1).1 (hn p1)
      · cases h
  · rename_i es k pt
    split at h
    · rename_i y ys hys
      split at h
      · rename_i ha
        cases h
        rw [Bool.and_eq_true, decide_eq_true_eq] at ha
        have hall : ∀ y' ∈ y :: ys, ∃ Cy, X.mg y' = some (.ref Cy) ∧ IsOk X.K X.mg (xi.isN y') (.ref Cy) := fun y' hy' => by
          have := List.all_eq_true.mp ha.1 y' hy'
          unfold clsB at this
          simp only [Bool.and_eq_true, List.contains_iff_mem] at this
          exact hi y' this.2.2
        refine px_isT hz hv hp (isi := fun x => anyN xi x (y :: ys)) (cs := (y :: ys).map fun y => match X.mg y with | some (.ref D) => D | _ => 0) (fun x b e C hC => ⟨?_, kitAny_of hC hall e⟩) (by rw [List.length_map]; exact ha.2) g1 m1 (nmsOk_of hg hi hys ha.1) (hn p1)
        obtain ⟨q, hq⟩ := anyN_cons e
        obtain ⟨Cy, z1, z2⟩ := hall y List.mem_cons_self
        exact (z2 x q hq C hC).1
      · cases h
    · cases h
  · cases h
theorem cXB_ok {X : Cx} {i : Nat} {a : Addr} {cls : Value} {d : Option Addr} {op : BoolOp} {pos : Pos} {f : Expr → Option (Exc → Option D)} (hf : ∀ e g, f e = some g → PE X e (tX (gx X) i a cls d g)) : ∀ {es : List Expr} {g : Exc → Option D}, cXB op f es = some g → PE X (.BoolOp op es pos) (tX (gx X) i a cls d g)
  | [], g, h => by cases h
  | [e], g, h => px_oneV (hf e g h)
  | e :: e' :: es, g, h => by
    unfold cXB at h
    split at h
    · rename_i u v h1 h2
      cases h
      cases op with
      | And => exact px_andV (hf e u h1) (cXB_ok hf h2)
      | Or => exact px_orV (hf e u h1) (cXB_ok hf h2)
    · cases h
theorem cX_ok {c : Ct} {xi : XInf} {X : Cx} {n : Str} {i : Nat} {a : Addr} {cls : Value} {d : Option Addr} (k : SuX c xi X n i a cls d) :
    ∀ m, (∀ e f, cX c xi n m e = some f → PE X e (tX (gx X) i a cls d f)) ∧ (∀ es fs, cXs c xi n m es = some fs → PA X es (tXs (gx X) i a cls d fs))
  | 0 => ⟨fun e f h => (by cases h), fun e f h => (by cases h)⟩
  | m + 1 => by
    obtain ⟨ihE, ihS⟩ := cX_ok k m
    refine ⟨fun e f h => ?_, fun es fs h => ?_⟩
    · unfold cX at h
      split at h
      · cases h; exact px_con pe_int fun _ _ _ => mk_int
      · cases h; exact px_con pe_bl fun _ _ _ => mk_bl
      · rename_i x _ _
        split at h
        · rename_i ho
          cases h
          refine px_con pe_str fun _ _ _ => ?_
          have e : x = ⟨x.cps.toList.toArray⟩ := by simp
          conv => rhs; rw [e]
          exact mk_str (OkS.of ho)
        · cases h
      · rename_i x p f' pos
        split at h
        · rename_i hc
          obtain ⟨rfl, h1, h2⟩ := hc
          cases h
          exact k.fld _ _ _ h2
        · cases h
      · rename_i es kk pos
        cases q : cXs c xi n m es with
        | none => rw [q] at h; cases h
        | some fs => rw [q] at h; cases h; exact px_tup (ihS _ _ q)
      · rename_i es pos
        cases q : cXs c xi n m es with
        | none => rw [q] at h; cases h
        | some fs => rw [q] at h; cases h; exact px_lst (ihS _ _ q)
      · cases h; exact px_con pe_non fun _ _ _ => mk_non
      · rename_i e p
        cases q : cX c xi n m e with
        | none => rw [q] at h; cases h
        | some g => rw [q] at h; cases h; exact px_notV (ihE _ _ q)
      · cases h; exact px_neg
      · exact cXB_ok ihE h
      · rename_i f' p1 x p2 pos
        split at h
        · rename_i hc
          obtain ⟨rfl, h1, h2, h3⟩ := hc
          exact k.hot _ _ _ _ _ h h2 h3
        · cases h
      · rename_i f' p1 x p2 t pos
        split at h
        · rename_i hc
          obtain ⟨rfl, rfl, h1, h2⟩ := hc
          exact k.iss _ _ _ _ _ h2 h
        · cases h
      · rename_i f' p0 x p1 fl p2 y p3 pos
        split at h
        · rename_i hc
          obtain ⟨rfl, rfl, h1, h2, ha⟩ := hc
          have k' := k.an ha
          cases q : cX c xi n m (.Attribute (.Name x p1) fl p2) with
          | none => rw [q] at h; cases h
          | some g =>
            rw [q] at h
            cases h
            obtain ⟨g1, m1⟩ := k'.bl _ h1
            obtain ⟨g2, m2⟩ := k'.bl _ h2
            exact px_isBool (ihE _ _ q) g1 m1 g2 m2 (by rfl)
        · cases h
      · cases h
    · unfold cXs at h
      split at h
      · cases h; exact px_nil
      · rename_i e es
        split at h
        · rename_i hs
          split at h
          · rename_i f fs h1 h2
            cases h
            exact px_cons (ihE _ _ h1) (ihS _ _ h2) (star_of es X.env hs)
          · cases h
        · cases h
/-! tests, statements of a suite -/
def cXTB (op : BoolOp) (f : Expr → Option (Exc → Option D)) : List Expr → Option (Exc → Option D)
  | [] => none
  | [e] => f e
  | e :: e' :: es => match f e, cXTB op f (e' :: es) with
    | some a, some b => some (match op with
      | .And => xAnd a b
      | .Or => xOr a b)
    | _, _ => none
def cXT (c : Ct) (xi : XInf) (n : Str) : Nat → Expr → Option (Exc → Option D)
  | 0, _ => none
  | m + 1, e => match e with
    | .UnaryOp .Not e _ => (cXT c xi n m e).map xNot
    | .BoolOp op es _ => cXTB op (cXT c xi n m) es
    | e => if plainTest e then cX c xi n 20 e else none
/-- ys = [..]; if any(ys) or ..: .. -/
def cXAny (c : Ct) (xi : XInf) (n : Str) (f : List Stmt → Option XSu) : List Stmt → Option XSu
  | .Assign [.Name y _] (.List es _) _ :: .If (.BoolOp .Or (.Call (.Name g _) [.Name y' _] [] _ :: e2 :: more) _) A [] _ :: rest =>
    if g = "any" ∧ y' = y ∧ bltB c "any" = true ∧ xi.an = true then (match slotR c n, slotR c y, slotW c y, cXs c xi n 20 es, cXTB .Or (cXT c xi n 19) (e2 :: more), f A, f rest with
      | some i, some j, some j', some fs, some t, some u, some v => if j < i ∧ j' = j then some (xAnyS fs t u v) else none
      | _, _, _, _, _, _, _ => none) else none
  | _ => none
mutual
def cXS (c : Ct) (xi : XInf) (n : Str) : Nat → Stmt → Option XSu
  | 0, _ => none
  | m + 1, s => match s with
    | .Return (some e) _ => (cX c xi n 20 e).map xRet
    | .If t a b _ => match cXT c xi n 20 t, cXSs c xi n m a, cXSs c xi n m b with
      | some t, some u, some v => some (xIf t u v)
      | _, _, _ => none
    | _ => none
def cXSs (c : Ct) (xi : XInf) (n : Str) : Nat → List Stmt → Option XSu
  | 0, _ => none
  | m + 1, ss => match cXAny c xi n (cXSs c xi n m) ss with
    | some g => some g
    | none => match ss with
    | [] => some xNext
    | [s] => cXS c xi n m s
    | s :: s' :: ss => match cXS c xi n m s, cXSs c xi n m (s' :: ss) with
      | some u, some v => some (xSeq u v)
      | _, _ => none
end
section
variable {c : Ct} {xi : XInf} {X : Cx} {n : Str} {i : Nat} {a : Addr} {cls : Value} {d : Option Addr}
theorem cXTB_ok {op : BoolOp} {pos : Pos} {f : Expr → Option (Exc → Option D)} (hf : ∀ e g, f e = some g → PT X e (tXt (gx X) i a cls d g)) : ∀ {es : List Expr} {g : Exc → Option D}, cXTB op f es = some g → PW X (.BoolOp op es pos) (tXt (gx X) i a cls d g)
  | [], g, h => by cases h
  | [e], g, h => by
    cases op with
    | And => exact pw_and1 (hf e g h)
    | Or => exact pw_or1 (hf e g h)
  | e :: e' :: es, g, h => by
    unfold cXTB at h
    split at h
    · rename_i u v h1 h2
      cases h
      cases op with
      | And => exact px_andT (hf e u h1) (cXTB_ok hf h2)
      | Or => exact px_orT (hf e u h1) (cXTB_ok hf h2)
    · cases h
theorem cXT_ok (k : SuX c xi X n i a cls d) : ∀ m e f, cXT c xi n m e = some f → PT X e (tXt (gx X) i a cls d f)
  | 0, e, f, h => by cases h
  | m + 1, e, f, h => by
    have ih := cXT_ok k m
    unfold cXT at h
    split at h
    · rename_i e p
      cases q : cXT c xi n m e with
      | none => rw [q] at h; cases h
      | some g => rw [q] at h; cases h; exact px_notT (ih _ _ q)
    · exact (cXTB_ok ih h).pt
    · split at h
      · rename_i hp
        exact px_test ((cX_ok k 20).1 _ _ h) (plainTest_of X.env hp)
      · cases h
theorem cXAny_ok (k : SuX c xi X n i a cls d) {f : List Stmt → Option XSu} (hf : ∀ ss u, f ss = some u → PSs X ss (tsX (gx X) i a cls d u)) {ss : List Stmt} {u : XSu} (h : cXAny c xi n f ss = some u) : PSs X ss (tsX (gx X) i a cls d u) := by
  unfold cXAny at h
  split at h
  · rename_i y py es q0 pos g p y' p1 pc e2 more pb A pif rest
    split at h
    · rename_i hc
      obtain ⟨rfl, rfl, hb, ha⟩ := hc
      have k' := k.an ha
      obtain ⟨g1, m1⟩ := k'.bl _ hb
      split at h
      · rename_i i' j j' fs t u v h1 h2 h3 h4 h5 h6 h7
        split at h
        · rename_i hj
          obtain ⟨hj, rfl⟩ := hj
          cases h
          have hi := k'.sn
          rw [h1] at hi
          cases hi
          obtain ⟨w1, w2, w3⟩ := k'.wr _ _ h3
          exact psx_any hj k'.cm k'.nd w1 w2 w3 g1 m1 (k'.rd _ _ h2 _) ((cX_ok k 20).2 _ _ h4) (cXTB_ok (fun e g h => cXT_ok k 19 e g h) h5) (hf _ _ h6) (hf _ _ h7)
        · cases h
      · cases h
    · cases h
  · cases h
theorem cXS_ok (k : SuX c xi X n i a cls d) : ∀ m, (∀ s u, cXS c xi n m s = some u → PS X s (tsX (gx X) i a cls d u)) ∧ (∀ ss u, cXSs c xi n m ss = some u → PSs X ss (tsX (gx X) i a cls d u))
  | 0 => ⟨fun s u h => (by cases h), fun s u h => (by cases h)⟩
  | m + 1 => by
    obtain ⟨ihS, ihSs⟩ := cXS_ok k m
    refine ⟨fun s u h => ?_, fun ss u h => ?_⟩
    · unfold cXS at h
      split at h
      · rename_i e p
        cases q : cX c xi n 20 e with
        | none => rw [q] at h; cases h
        | some g => rw [q] at h; cases h; exact psx_ret ((cX_ok k 20).1 _ _ q)
      · split at h
        · rename_i h1 h2 h3
          cases h
          exact psx_if (cXT_ok k 20 _ _ h1) (ihSs _ _ h2) (ihSs _ _ h3)
        · cases h
      · cases h
    · unfold cXSs at h
      split at h
      · rename_i g hg
        cases h
        exact cXAny_ok k ihSs hg
      · split at h
        · cases h; exact psx_nil
        · exact psx_one (ihS _ _ h)
        · split at h
          · rename_i h1 h2
            cases h
            exact psx_cons (ihS _ _ h1) (ihSs _ _ h2)
          · cases h
end
/-- a suite's own context -/
theorem CtX.su {c : Ct} {xi : XInf} {W : WX} {X : Cx} (k : CtX c xi W X) {n : Str} {i : Nat} (hi : slotR c n = some i) {a : Addr} {oe : Obj} {cls : Value} {d : Option Addr} {pn : List (Addr × Obj)} (hz : L2N.Zn cls d oe) (hv : ∃ vs, oe.data = .fields vs) :
    SuX c xi (X.suite a ((a, oe) :: pn)) n i a cls d := by
  obtain ⟨n1, v1, d1, c1⟩ := k.k.rd hi
  have hn : ∀ p, PE (X.suite a ((a, oe) :: pn)) (.Name n p) (tVar i) := fun p => pe_var n1 v1 d1 c1
  have hp : (a, oe) ∈ (X.suite a ((a, oe) :: pn)).pn := List.mem_cons_self
  refine ⟨hn, fun f p pos hf => px_fld k.fl hf hz.zc hv (hn p), isS_of (fun y hy => k.k.glo hy) k.k.bn k.isn k.isv hn hz.zc hv hp, fun y h p p1 pos hh hg hpl => ?_, fun _ => ⟨hi, ?_, k.k.nd, fun x hb => ?_, fun y j hj p => ?_, fun y j hj => k.k.wr hj⟩⟩
  rotate_left
  · obtain ⟨vs, e⟩ := hv
    exact cr_any_hot ⟨rfl, vs, e, hz.2.2 vs e⟩ hp
  · unfold bltB at hb
    simp only [Bool.and_eq_true, List.contains_iff_mem] at hb
    exact ⟨k.k.glo hb.1.1, k.k.bn _ hb.2⟩
  · obtain ⟨n2, v2, d2, c2⟩ := k.k.rd hj
    exact pe_var n2 v2 d2 c2
  obtain ⟨kk, f, fd, x1, F, room, hm, hk, hb⟩ := k.hot y h hh
  refine px_callX F ⟨room.dp, room.un⟩ ⟨rfl, ?_⟩ hp (k.k.glo hg) hm hk hb hz.zc hv (hn p1) (plain_d hpl).1
  obtain ⟨vs, e⟩ := hv
  exact ⟨vs, e, hz.2.2 vs e⟩
/-- try: body, one named clause with such a suite -/
def sTryX (i : Nat) (sub : Str → Option Bool) (u : XSu) (body : MS) : MS := fun st => match body st with
  | .er ex st1 => (match sub ex.c with
    | some true => if i < st1.sl.length then (match u ex with
      | some (some d) => .ok (.rt d) ⟨st1.sl.set i .un, st1.mu⟩
      | some none => .ok .nx ⟨st1.sl.set i .un, st1.mu⟩
      | none => .bad) else .bad
    | some false => .er ex st1
    | none => .bad)
  | r => r
section
variable {X : Cx} {W : WX} {x n : Str} {c : Value} {i : Nat} {body : List Stmt} {fb : MS} {b0 : Stmt} {suite : List Stmt} {u : XSu} {sub : Str → Option Bool} {np pos pos' rpos : Pos}
theorem PSd.tryX (hs : X.stack = X.env :: X.outer) (hf : X.env.frame = some X.env.locals) (hN : X.N.Nodup) (hi : X.N[i]? = some n) (hln : X.env.kindOf n = some .local) (hc : Names X x c) (tk : L2N.Takes X W) (hsub : SubOk X.K X.mg sub c)
    (hb : ∀ (W : WX) (pn : List (Addr × Obj)) (xe : Value → Shared → Prop), L2N.Takes (X.tr pn xe) W → PassesOwn (model X.prog X.w) X.A X.env xe → PSsd (X.tr pn xe) W body fb)
    (hE : ∀ (a : Addr) (oe : Obj) (cls : Value) (d : Option Addr) (pn : List (Addr × Obj)), L2N.Zn cls d oe → (∃ vs, oe.data = .fields vs) → PSs (X.suite a ((a, oe) :: pn)) (b0 :: suite) (tsX (gx X) i a cls d u)) :
    PSd X W (.Try body [.ExceptHandler (some (.Name x np)) (some n) (b0 :: suite) pos'] [] [] pos) (sTryX i sub u fb) := by
  refine PS.imp (L2N.ps_try_as hs hf hN hi hln hc tk (tb := fun W => tS (gx X) W fb) (ts := fun a cls d => tsX (gx X) i a cls d u) (fun W pn xe t p => hb W pn xe t p) (fun a oe cls d pn z hv => hE a oe cls d pn z hv)) fun Dn σ H h => ?_
  obtain ⟨Fx, ι, st, r, q⟩ := h
  refine ⟨Fx, ι, st, r, ?_⟩
  unfold sTryX at q
  cases e : fb st with
  | ok b st1 => rw [e] at q; exact q
  | bad => rw [e] at q; exact q
  | er ex st1 =>
    rw [e] at q
    intro ι1 H1 σ1 cls d s1 r1 hx
    obtain ⟨C, e1, e2, e3⟩ := hx
    cases hb1 : sub ex.c with
    | none => simp only [hb1] at q; exact q.elim
    | some b =>
      simp only [hb1] at q
      refine ⟨b, by rw [e1]; exact hsub _ _ hb1 C e2, fun hb2 a na => ?_, fun hb2 => ?_⟩
      · subst hb2
        dsimp only at q
        split at q
        · rename_i hlt
          have r2 := r1.drop i (some (.ref a)) .un (fun _ z => by cases z) (fun _ z => by cases z)
          have hlen : σ1.length = st1.sl.length := r1.len
          have xf : XF (gx X) i a cls d Fx (cut ι1 i) H1 (σ1.set i (some (.ref a))) ex := ⟨by rw [List.getElem?_set_self (by omega)], ⟨C, e1, e2⟩, by
            rcases e3 with e3 | ⟨dd, fv, y1, y2, y3⟩
            · exact .inl e3
            · refine .inr ⟨dd, fv, y1, y2, fun f' x' l => ?_⟩
              obtain ⟨v, l1, rr⟩ := y3 f' x' l
              exact ⟨v, l1, Rep.car step_cut.car _ _ rr⟩⟩
          cases hu : u ex with
          | none => simp only [hu] at q; exact q.elim
          | some o =>
            refine ⟨Fx, cut ι1 i, _, ex, o, r2, xf, hu, ?_⟩
            cases o with
            | some dv =>
              simp only [hu] at q
              exact fun v H2 k2 rv => q (cut ι1 i) H2 _ (s1.trans (step_cut.trans k2.step)) (r2.same k2) v rv
            | none =>
              simp only [hu] at q
              refine fun H2 k2 => q (cut ι1 i) H2 _ (s1.trans (step_cut.trans k2.step)) ?_
              have r3 := (r1.same k2).drop i none .un (fun _ z => by cases z) (fun _ z => by cases z)
              rw [List.set_set]
              exact r3
        · exact q.elim
      · subst hb2
        exact q ι1 H1 σ1 cls d s1 r1 ⟨C, e1, e2, e3⟩
end
/-- a class that is raised: its fields -/
def exOf (xi : XInf) (x : Str) : Option (List (Str × Nat) × Nat) := xi.ex.lookup x
theorem exOf_mem {xi : XInf} {x : Str} {fs : List (Str × Nat)} {np : Nat} (h : exOf xi x = some (fs, np)) : (x, fs, np) ∈ xi.ex := by
  unfold exOf at h
  generalize xi.ex = l at *
  induction l with
  | nil => cases h
  | cons p l ih =>
    obtain ⟨y, e⟩ := p
    by_cases hx : x = y
    · subst hx
      simp [List.lookup] at h
      subst h
      exact List.mem_cons_self
    · have : (x == y) = false := by simpa using hx
      simp [List.lookup, this] at h
      exact List.mem_cons_of_mem _ (ih h)
/-- statements that a def that reads through cells takes otherwise -/
noncomputable def cSRx (c : Ct) (f : Expr → Option (M D)) (cc : Expr → Expr → Expr → List Expr → Scope → Option (M (List D))) (fs : List Stmt → Option MS) : Stmt → Option MS
  | .Assign [.Name x p] (.List es q) _ => if mkC c q then (match slotW c x, cAs f es with
    | some i, some g => some (sSet i (mCell (mDisp g)))
    | _, _ => none) else none
  | .Assign [.Name x p] (.ListComp elt [⟨tg, iter, ifs, 0⟩] scope pos) _ => if mkC c pos && swapB c.nm scope x p pos then (match findIx c.N x, cc elt tg iter ifs scope with
    | some i, some fl => some (sSet i (mCell fl))
    | _, _ => none) else none
  | .Assign [.Subscript o i p'] v _ => if plainIxB i && (noComp v && noTuple v) then (match f v, f o, f i with
    | some fv, some fo, some fi => if c.md p'.line p'.col == 4 then some (sDctSet fv fo fi) else some (sIxSet fv fo fi)
    | _, _, _ => none) else none
  | .For tg iter body [] _ => if rM c && noMark iter then (match cItC c f tg iter, cTg c tg, fs body with
    | some its, some T, some g => some (sForC T its g)
    | _, _, _ => none) else none
  | _ => none
mutual
noncomputable def cS (xi : XInf) : Nat → Ct → Stmt → Option MS
  | 0, _, _ => none
  | n + 1, c, s => match cSRx c (cE n c) (cC n c) (cSs xi n c) s with
    | some g => some g
    | none => match s with
    | .Pass _ => some sNext
    | .Break _ => some sBreak
    | .Continue _ => some sCont
    | .Expr (.Constant (.str _) _ _) _ => some sNext
    | .Expr e _ => if noComp e then (cE n c e).map sDrop else none
    | .Return none _ => some sRetN
    | .Return (some e) _ => (cE n c e).map sRet
    | .If t a b _ => match cT n c t, cSs xi n c a, cSs xi n c b with
      | some t, some f, some g => some (mIte t f g)
      | _, _, _ => none
    | .Assign [.Name x p] (.List es _) _ => match slotW c x, cAs (cE n c) es with
      | some i, some fs => some (sSetL i (mDisp fs))
      | _, _ => none
    | .Assign [.Name x p] (.ListComp elt [⟨tg, iter, ifs, 0⟩] scope pos) sp => if swapB c.nm scope x p pos then
        match findIx c.N x, cC n c elt tg iter ifs scope with
        | some i, some fl => some (sSetL i fl)
        | _, _ => none else if celB c.nm x then
        match slotW c x, cC n c elt tg iter ifs scope with
        | some i, some fl => some (sSetL i fl)
        | _, _ => none else none
    | .Assign [.Name x _] e _ => if noComp e then match slotW c x, cE n c e with
      | some i, some f => some (sSet i f)
      | _, _ => none else none
    | .Assign [.Tuple es k p] e _ => if noComp e && noTuple e then match cNames c es, cE n c e with
      | some is, some f => some (sAsg (.tp is) f)
      | _, _ => none else none
    | .For tg iter body [] _ => if noMark iter then match cIt c (cE n c) tg iter, cTg c tg, cSs xi n c body with
      | some its, some T, some f => some (sFor T its f)
      | _, _, _ => none else none
    | .While t body [] _ => match cT n c t, cSs xi n c body with
      | some t, some f => some (sWhile turns t f)
      | _, _ => none
    | .Raise (some (.Call (.Name x _) [.Constant (.str _) _ _] [] _)) none _ => if glB c.nm x && plainName x then (if x ∈ xi.et then some (sRaise0 x) else some sBad) else some sBad
    | .Raise (some (.Call (.Name x _) (a :: as) [] _)) none _ => if glB c.nm x && plainName x then (match exOf xi x, cAs (cE n c) (a :: as) with
      | some (fs, np), some args => some (sRaise x fs np args)
      | _, _ => some sBad) else some sBad
    | .Raise _ _ _ => some sBad
    | .Try body [.ExceptHandler (some (.Name y _)) (some m) [.Return (some e) _] _] [] [] _ => if glB c.nm y && (plainName y && lclB c.nm m) then (if y ∈ xi.hs then (match slotR c m, cSs xi n c body, cX c xi m 20 e with
      | some i, some fb, some f => some (sTryR i (xi.sub y) f fb)
      | _, _, _ => none) else none) else none
    | .Try body [.ExceptHandler (some (.Name y _)) (some m) (b0 :: suite) _] [] [] _ => if glB c.nm y && (plainName y && lclB c.nm m) then (if y ∈ xi.hs then (match slotR c m, cSs xi n c body, cXSs c xi m 30 (b0 :: suite) with
      | some i, some fb, some u => some (sTryX i (xi.sub y) u fb)
      | _, _, _ => none) else none) else none
    | _ => none
noncomputable def cSs (xi : XInf) : Nat → Ct → List Stmt → Option MS
  | 0, _, _ => none
  | n + 1, c, ss => match ss with
    | [] => some sNext
    | [s] => cS xi n c s
    | s :: s' :: ss => match cS xi n c s, cSs xi n c (s' :: ss) with
      | some a, some b => some (sSeq a b)
      | _, _ => none
end
section
theorem CtX.tr {c : Ct} {xi : XInf} {W W' : WX} {X : Cx} (k : CtX c xi W X) {pn : List (Addr × Obj)} {xe : Value → Shared → Prop} (t : L2N.Takes (X.tr pn xe) W') (p : PassesOwn (model X.prog X.w) X.A X.env xe) : CtX c xi W' (X.tr pn xe) where
  k := ⟨k.k.N, k.k.nd, k.k.nm, k.k.kind, k.k.fb, k.k.calm, k.k.un, t, p, k.k.fn, k.k.gl, k.k.bn⟩
  st := k.st
  fr := k.fr
  ex := fun x fs np h => ⟨(k.ex x fs np h).ex⟩
  et := fun x h => ⟨(k.et x h).ex⟩
  sub := k.sub
  fl := k.fl
  isn := k.isn
  isv := k.isv
  hot := k.hot
theorem cSRx_ok {c : Ct} {xi : XInf} {W : WX} {X : Cx} {f : Expr → Option (M D)} {cc : Expr → Expr → Expr → List Expr → Scope → Option (M (List D))} {fs : List Stmt → Option MS} (kx : CtX c xi W X) (hf : ∀ e g, f e = some g → PEd X W e g)
    (hc : ∀ elt tg iter ifs scope g, cc elt tg iter ifs scope = some g → PCd X W elt tg iter ifs scope g) (hs : ∀ ss g, fs ss = some g → PSsd X W ss g) {s : Stmt} {g : MS} (h : cSRx c f cc fs s = some g) : PSd X W s g := by
  have k := kx.k
  unfold cSRx at h
  split at h
  · rename_i x p es q pos
    split at h
    · split at h
      · rename_i i g' hi hg
        cases h
        obtain ⟨a, b, d⟩ := k.wr hi
        exact PSd.set k.nd a b (PFd.lst (cAs_ok hf hg)).cell (by rfl) d
      · cases h
    · cases h
  · rename_i x p elt tg iter ifs scope pos sp
    split at h
    · rename_i hb
      rw [Bool.and_eq_true] at hb
      have hb := hb.2
      unfold swapB at hb
      simp only [Bool.and_eq_true] at hb
      split at h
      · rename_i i fl hi hfl
        cases h
        have hloc : X.env.scope.names.lookup x = some .local := by
          have z := hb.2.1
          unfold lclB at z
          rw [← k.nm] at z
          split at z
          · assumption
          · cases z
        exact (hc _ _ _ _ _ _ hfl).t i x p pos sp (by rw [k.N]; exact findIx_get hi) hloc (sw_true k.kind hloc hb.1 (by simpa using hb.2.2))
      · cases h
    · cases h
  · rename_i o i p' v pos
    split at h
    · rename_i hn
      simp only [Bool.and_eq_true] at hn
      split at h
      · rename_i fv fo fi h1 h2 h3
        split at h
        · cases h
          exact PSd.dctSet (by have := k.un; omega) (hf _ _ h1) (hf _ _ h2) (hf _ _ h3) (noComp_of (some (.Subscript o i p')) pos.line X.env hn.2.1)
        · cases h
          exact PSd.ixSet (hf _ _ h1) (hf _ _ h2) (hf _ _ h3) (noComp_of (some (.Subscript o i p')) pos.line X.env hn.2.1) (noSwap_of _ hn.2.2) (fun a b c p z => by subst z; cases hn.1) (by rfl)
      · cases h
    · cases h
  · rename_i tg iter body p
    split at h
    · rename_i hm
      rw [Bool.and_eq_true] at hm
      split at h
      · rename_i its T g' h1 h2 h3
        cases h
        exact PSd.forC k.hp k.calm (cItC_ok k hf h1) (cTg_ok k h2) (hs _ _ h3) (fold_of _ hm.2)
      · cases h
    · cases h
  · cases h
theorem cSt_ok {xi : XInf} : ∀ n : Nat, (∀ c s f, cS xi n c s = some f → ∀ W X, CtX c xi W X → PSd X W s f) ∧ (∀ c s f, cSs xi n c s = some f → ∀ W X, CtX c xi W X → PSsd X W s f)
  | 0 => ⟨fun c s f h => (by cases h), fun c s f h => (by cases h)⟩
  | n + 1 => by
    obtain ⟨ihS, ihSs⟩ := cSt_ok (xi := xi) n
    refine ⟨fun c s f h W X kx => ?_, fun c s f h W X kx => ?_⟩
    all_goals have k := kx.k
    · have hf : ∀ e g, cE n c e = some g → PEd X W e g := fun e g q => (cAll_ok n).1 c e g q W X k
      have ht : ∀ e g, cT n c e = some g → PTd X W e g := fun e g q => (cAll_ok n).2.1 c e g q W X k
      have hc : ∀ elt tg iter ifs scope g, cC n c elt tg iter ifs scope = some g → PCd X W elt tg iter ifs scope g := fun elt tg iter ifs scope g q => (cAll_ok n).2.2 c elt tg iter ifs scope g q W X k
      unfold cS at h
      split at h
      · rename_i g' hg'
        cases h
        exact cSRx_ok kx hf hc (fun ss g q => ihSs c ss g q W X kx) hg'
      rename_i hnone
      clear hnone
      split at h
      · cases h; exact PSd.pass
      · cases h; exact PSd.brk
      · cases h; exact PSd.cont
      · cases h; exact PSd.doc
      · rename_i e p _
        split at h
        · rename_i hn
          cases q : cE n c e with
          | none => rw [q] at h; cases h
          | some g => rw [q] at h; cases h; exact PSd.expr (hf _ _ q) (noComp_of _ _ _ hn)
        · cases h
      · cases h; exact PSd.retN
      · rename_i e p
        cases q : cE n c e with
        | none => rw [q] at h; cases h
        | some g => rw [q] at h; cases h; exact PSd.ret (hf _ _ q)
      · rename_i t a b p
        split at h
        · rename_i h1 h2 h3
          cases h
          exact PSd.ite (ht _ _ h1) (ihSs c _ _ h2 W X kx) (ihSs c _ _ h3 W X kx)
        · cases h
      · rename_i x p es p2 sp
        split at h
        · rename_i i fs hi hs
          cases h
          obtain ⟨a, b, d⟩ := k.wr hi
          exact PSd.setL k.nd a b (PFd.lst (cAs_ok hf hs)) (by rfl) d
        · cases h
      · rename_i x p elt tg iter ifs scope pos sp
        split at h
        · rename_i hb
          unfold swapB at hb
          simp only [Bool.and_eq_true] at hb
          split at h
          · rename_i i fl hi hfl
            cases h
            have hloc : X.env.scope.names.lookup x = some .local := by
              have z := hb.2.1
              unfold lclB at z
              rw [← k.nm] at z
              split at z
              · assumption
              · cases z
            exact (hc _ _ _ _ _ _ hfl).s i x p pos sp (by rw [k.N]; exact findIx_get hi) hloc (sw_true k.kind hloc hb.1 (by simpa using hb.2.2))
          · cases h
        · split at h
          · rename_i hb
            split at h
            · rename_i i fl hi hfl
              cases h
              obtain ⟨a, b, d⟩ := k.wr hi
              exact PSd.setL k.nd a b ((hc _ _ _ _ _ _ hfl).e pos) (sw_cell (by rw [k.nm]; exact celB_of hb)) d
            · cases h
          · cases h
      · rename_i x p e sp _ _
        split at h
        · rename_i hn
          split at h
          · rename_i i g hi hg
            cases h
            obtain ⟨a, b, d⟩ := k.wr hi
            exact PSd.set k.nd a b (hf _ _ hg) (noComp_of _ _ _ hn) d
          · cases h
        · cases h
      · rename_i es kk p e sp
        split at h
        · rename_i hn
          simp only [Bool.and_eq_true] at hn
          split at h
          · rename_i is g hi hg
            cases h
            exact PSd.asg (hf _ _ hg) (PGd.tp k.calm k.nd (cNames_ok k hi)) (noComp_of (some (.Tuple es kk p)) sp.line X.env hn.1) (noSwap_of _ hn.2) (by rfl)
          · cases h
        · cases h
      · rename_i tg iter body p
        split at h
        · rename_i hm
          split at h
          · rename_i its T g h1 h2 h3
            cases h
            exact PSd.for_ k.hp k.calm (cIt_ok k hf h1) (cTg_ok k h2) (ihSs c _ _ h3 W X kx) (fold_of _ hm)
          · cases h
        · cases h
      · rename_i t body p
        split at h
        · rename_i h1 h2
          cases h
          exact PSd.while_ k.hp (ht _ _ h1) (ihSs c _ _ h2 W X kx)
        · cases h
      · rename_i x p1 m j p2 pos p3
        split at h
        · rename_i hg
          rw [Bool.and_eq_true] at hg
          split at h
          · rename_i hx
            cases h
            exact PSd.raise0 k.calm k.tk (kx.et x hx) (k.glo hg.1) (plain_d hg.2).1
          · cases h; exact PSd.never
        · cases h; exact PSd.never
      · rename_i x p1 a as pos p3 _
        split at h
        · rename_i hg
          rw [Bool.and_eq_true] at hg
          split at h
          · rename_i fs np args hx ha
            cases h
            have hs := cAs_star ha
            simp only [List.all_cons, Bool.and_eq_true] at hs
            exact PSd.raise k.calm k.tk (kx.ex x fs np (exOf_mem hx)) (k.glo hg.1) (cAs_ok hf ha) (plain_d hg.2).1 (star_of as X.env hs.1) (plainStar pos X.env hs.2)
          · cases h; exact PSd.never
        · cases h; exact PSd.never
      · cases h; exact PSd.never
      · rename_i body y p1 m e p2 p3 p4
        split at h
        · rename_i hg
          simp only [Bool.and_eq_true] at hg
          split at h
          · rename_i hy
            split at h
            · rename_i i fb f' h1 h2 h3
              cases h
              obtain ⟨v, hv, hsub⟩ := kx.sub y hy
              have hloc : X.env.scope.names.lookup m = some .local := by
                have z := hg.2.2
                unfold lclB at z
                rw [← k.nm] at z
                split at z
                · assumption
                · cases z
              exact PSd.tryR kx.st kx.fr k.nd (k.rd h1).1 hloc ⟨k.glo hg.1, (plain_d hg.2.1).1, .inl hv⟩ k.tk hsub (fun W' pn xe t p => ihSs c _ _ h2 W' _ (kx.tr t p)) (fun a oe cls d pn hz hv => (cX_ok (kx.su h1 hz hv) 20).1 _ _ h3)
            · cases h
          · cases h
        · cases h
      · rename_i body y p1 m b0 suite p3 p4 _
        split at h
        · rename_i hg
          simp only [Bool.and_eq_true] at hg
          split at h
          · rename_i hy
            split at h
            · rename_i i fb u h1 h2 h3
              cases h
              obtain ⟨v, hv, hsub⟩ := kx.sub y hy
              have hloc : X.env.scope.names.lookup m = some .local := by
                have z := hg.2.2
                unfold lclB at z
                rw [← k.nm] at z
                split at z
                · assumption
                · cases z
              exact PSd.tryX kx.st kx.fr k.nd (k.rd h1).1 hloc ⟨k.glo hg.1, (plain_d hg.2.1).1, .inl hv⟩ k.tk hsub (fun W' pn xe t p => ihSs c _ _ h2 W' _ (kx.tr t p)) (fun a oe cls d pn hz hv => (cXS_ok (kx.su h1 hz hv) 30).2 _ _ h3)
            · cases h
          · cases h
        · cases h
      · cases h
    · unfold cSs at h
      split at h
      · cases h; exact PSsd.nil
      · exact PSsd.one (ihS c _ _ h W X kx)
      · rename_i s s' ss
        split at h
        · rename_i h1 h2
          cases h
          exact PSsd.cons (ihS c _ _ h1 W X kx) (ihSs c _ _ h2 W X kx)
        · cases h
end
/-! ### a def's body: texts replaced behind a written text -/
noncomputable def cR (n : Nat) (c : Ct) : Nat → Expr → Option (M D)
  | 0, _ => none
  | m + 1, e => match cE n c e with
    | some f => some f
    | none => match e with
      | .Call (.Attribute o a apos) [.Constant (.str y) _ _, .Constant (.str z) _ _] [] pos => if (a = "replace" ∧ baseOk o = true) ∧ (apos.endLine == pos.line) = true then (match y.cps.toList with
        | [k] => if ((⟨#[k]⟩ : Str) == z) = false then (cR n c m o).map (mRepl k z.cps.toList) else none
        | _ => none) else none
      | .BinOp a op b _ => match cR n c m a, cR n c m b with
        | some f, some g => some (mOp2 (dBin op) f g)
        | _, _ => none
      | .Tuple es _ _ => (cAs (cR n c m) es).map mTup
      | _ => none
noncomputable def cR1 (xi : XInf) (n : Nat) (c : Ct) (s : Stmt) : Option MS := match cS xi n c s with
  | some f => some f
  | none => match s with
    | .Assign [.Name x _] e _ => if noComp e then (match slotW c x, cR n c 20 e with
      | some i, some f => some (sSet i f)
      | _, _ => none) else none
    | .Return (some e) _ => (cR n c 20 e).map sRet
    | _ => none
noncomputable def cTs (xi : XInf) (n : Nat) (c : Ct) : List Stmt → Option MS
  | [] => some sNext
  | [s] => cR1 xi n c s
  | s :: s' :: ss => match cR1 xi n c s, cTs xi n c (s' :: ss) with
    | some a, some b => some (sSeq a b)
    | _, _ => none
noncomputable def cBd (xi : XInf) (n : Nat) (c : Ct) : List Stmt → Option MS
  | [] => some sNext
  | [s] => cS xi n c s
  | s :: s' :: ss => match cBd xi n c (s' :: ss) with
    | some b => (cS xi n c s).map fun a => sSeq a b
    | none => match s with
      | .Assign [.Name x _] (.Constant (.str y) _ _) _ => if okSb y.cps.toList = true then (match slotW c x, cTs xi n c (s' :: ss) with
        | some i, some u => some (sSeq (sSet i (mPure (.str y.cps.toList))) u)
        | _, _ => none) else none
      | _ => none
section
variable {xi : XInf} {n : Nat} {c : Ct} {W : WX} {X : Cx}
theorem cAs_okT {f : Expr → Option (M D)} (hf : ∀ e g, f e = some g → PETd X W e g) : ∀ {es : List Expr} {fs : M (List D)}, cAs f es = some fs → PATd X W es fs
  | [], fs, h => by cases h; exact PATd.nil
  | e :: es, fs, h => by
    unfold cAs at h
    split at h
    · rename_i hs
      split at h
      · rename_i a b h1 h2
        cases h
        exact PATd.cons (hf _ _ h1) (cAs_okT hf h2) (star_of es X.env hs)
      · cases h
    · cases h
theorem cR_ok (k : CtOk c W X) : ∀ m e f, cR n c m e = some f → PETd X W e f
  | 0, e, f, h => by cases h
  | m + 1, e, f, h => by
    have ih := cR_ok k m
    unfold cR at h
    split at h
    · rename_i g hg
      cases h
      exact PETd.of ((cAll_ok n).1 c e _ hg W X k)
    · split at h
      · rename_i o a apos y j0 c0 z j1 c1 pos _
        split at h
        · rename_i hc
          obtain ⟨⟨rfl, hb⟩, hl⟩ := hc
          split at h
          · rename_i q hq
            split at h
            · rename_i hne
              cases e1 : cR n c m o with
              | none => rw [e1] at h; cases h
              | some g =>
                rw [e1] at h
                cases h
                have ey : y = ⟨#[q]⟩ := by
                  obtain ⟨l⟩ := y
                  obtain ⟨l⟩ := l
                  have : l = [q] := hq
                  subst this
                  rfl
                subst ey
                exact PETd.repl (ih _ _ e1) hne (base_of _ X.env hb) hl
            · cases h
          · cases h
        · cases h
      · split at h
        · rename_i h1 h2
          cases h
          exact PETd.op2 (opBin _) (ih _ _ h1) (ih _ _ h2)
        · cases h
      · rename_i es _ _ _
        cases e1 : cAs (cR n c m) es with
        | none => rw [e1] at h; cases h
        | some fs =>
          rw [e1] at h
          cases h
          exact PETd.tup (cAs_okT ih e1)
      · cases h
theorem cR1_ok (kx : CtX c xi W X) {s : Stmt} {f : MS} (h : cR1 xi n c s = some f) : PSTd X W s f := by
  have k := kx.k
  unfold cR1 at h
  split at h
  · rename_i g hg
    cases h
    exact PSTd.of ((cSt_ok n).1 c s _ hg W X kx)
  · split at h
    · split at h
      · rename_i hn
        split at h
        · rename_i i g hi hg
          cases h
          obtain ⟨a, b, d⟩ := k.wr hi
          exact PSTd.set k.nd a b (cR_ok k _ _ _ hg) (noComp_of _ _ _ hn) d
        · cases h
      · cases h
    · rename_i e _ _
      cases e1 : cR n c 20 e with
      | none => rw [e1] at h; cases h
      | some g => rw [e1] at h; cases h; exact PSTd.ret (cR_ok k _ _ _ e1)
    · cases h
theorem cTs_ok (kx : CtX c xi W X) : ∀ {ss : List Stmt} {f : MS}, cTs xi n c ss = some f → PSsTd X W ss f
  | [], f, h => by cases h; exact PSsTd.of PSsd.nil
  | [s], f, h => PSsTd.one (cR1_ok kx h)
  | s :: s' :: ss, f, h => by
    unfold cTs at h
    split at h
    · rename_i h1 h2
      cases h
      exact PSsTd.cons (cR1_ok kx h1) (cTs_ok kx h2)
    · cases h
theorem cBd_ok (kx : CtX c xi W X) : ∀ {ss : List Stmt} {f : MS}, cBd xi n c ss = some f → PSsd X W ss f
  | [], f, h => by cases h; exact PSsd.nil
  | [s], f, h => PSsd.one ((cSt_ok n).1 c s _ h W X kx)
  | s :: s' :: ss, f, h => by
    have k := kx.k
    unfold cBd at h
    split at h
    · rename_i b hb
      cases e1 : cS xi n c s with
      | none => rw [e1] at h; cases h
      | some a =>
        rw [e1] at h
        cases h
        exact PSsd.cons ((cSt_ok n).1 c s _ e1 W X kx) (cBd_ok kx hb)
    · split at h
      · split at h
        · rename_i ho
          split at h
          · rename_i i u hi hu
            cases h
            obtain ⟨a, b, d⟩ := k.wr hi
            exact PSsd.str ho k.nd a b (cTs_ok kx hu) d
          · cases h
        · cases h
      · cases h
end
/-! ### a def -/
def defR (a : Fl) (s : ES) : R D := match a with
  | .rt d => .ok d ⟨[], s.mu⟩
  | .nx => .ok .non ⟨[], s.mu⟩
  | _ => .bad
def runDef (m np : Nat) (body : MS) : Fn := fun ds mu => if ds.length = np then match body ⟨ds.map .va ++ List.replicate (m - np) .un, mu⟩ with
  | .ok a s => defR a s
  | .er e s => .er e ⟨[], s.mu⟩
  | .bad => .bad else .bad
theorem runDef_len {m np : Nat} {body : MS} {ds : List D} {mu : List Cell} (h : ds.length ≠ np) : runDef m np body ds mu = .bad := if_neg h
theorem SRel.begin {g : Gx} {Fx : Addr → Prop} {ι : Io} {H : Hp} {mu : List Cell} (r : SRel g Fx ι H [] ⟨[], mu⟩) {N : List Str} {ds : List D} {vs : List V} (h : RepAll g.K H Fx ι ds vs) {np : Nat} (hp : ds.length = np) : SRel g Fx ι H (L2.start N vs) ⟨ds.map .va ++ List.replicate (N.length - np) .un, mu⟩ := by
  have hl := h.length
  have hnp : vs.length = np := by omega
  refine ⟨?_, fun i d e => ?_, fun i xs e => ?_, r.ce, fun i a e => ?_, r.domc, r.inj, r.fx, r.fxt, r.owt⟩
  · unfold L2.start
    simp [hnp, hp]
  · have e' : (ds.map Slot.va ++ List.replicate (N.length - np) Slot.un)[i]? = some (.va d) := e
    by_cases hi : i < ds.length
    · rw [List.getElem?_append_left (by simpa using hi), List.getElem?_map] at e'
      cases q : ds[i]? with
      | none => rw [q] at e'; cases e'
      | some d' =>
        rw [q] at e'
        cases e'
        obtain ⟨v, q1, q2⟩ := h.get q
        refine ⟨v, ?_, q2⟩
        unfold L2.start
        rw [List.getElem?_append_left (by simp; omega), List.getElem?_map, q1]
        rfl
    · rw [List.getElem?_append_right (by simpa using hi), List.getElem?_replicate] at e'
      split at e' <;> cases e'
  · have e' : (ds.map Slot.va ++ List.replicate (N.length - np) Slot.un)[i]? = some (.ac xs) := e
    by_cases hi : i < ds.length
    · rw [List.getElem?_append_left (by simpa using hi), List.getElem?_map] at e'
      cases q : ds[i]? with
      | none => rw [q] at e'; cases e'
      | some d' => rw [q] at e'; cases e'
    · rw [List.getElem?_append_right (by simpa using hi), List.getElem?_replicate] at e'
      split at e' <;> cases e'
  · obtain ⟨xs, z⟩ := r.dom i a e
    simp at z
theorem Rep.alone {g : Gx} {Fx : Addr → Prop} {ι : Io} {H : Hp} {d : D} {v : V} (h : Rep g.K H Fx ι d v) : Rep g.K H Fx (cells ι) d v := Rep.car step_cells.car _ _ h
/-- what is told of a def of the text -/
structure DefAt (K : W.Frag) (mg : Str → Option Value) (st : Stmt) (name qual : Str) (f : Addr) (fd : FuncData) : Prop where
  F : Fun K name qual st f fd
/-- what the written part and the module say of exceptions -/
structure XOk (P : Program) (w : World) (K : PySem.W.Frag) (mg : Str → Option Value) (base : Heap) (xi : XInf) : Prop where
  ex : ∀ x fs np, (x, fs, np) ∈ xi.ex → ∃ (C fI : Addr) (fd : FuncData) (N ps : List Str), mg x = some (.ref C) ∧ OexC K C ∧ PySem.W.findIn K (.ref C) "__init__" = some (some (.ref fI)) ∧ PySem.W.typeIn K (.ref fI) = some (.type "function") ∧
    FnOk P w K mg base (L2N.CX P w) 1 fI fd ps (spI K N ps.length fs) ∧ Binds K fd ps [] ∧ ps.length = np + 1 ∧ ∀ p ∈ fs, PySem.W.findIn K (.ref C) p.1 = some none
  et : ∀ x, x ∈ xi.et → ∃ (C : Addr) (bmB : List Value) (B newId initId : String), ExcBaseFacts B newId initId bmB ∧ PySem.W.excIn K C bmB newId = true ∧ mg x = some (.ref C) ∧ PySem.W.keepIn K (.ref C) = true ∧ PySem.W.subIn K (.ref C) (.type "BaseException") = some true ∧ PySem.W.typeIn K (.ref C) = some (.type "type")
  sub : ∀ y, y ∈ xi.hs → ∃ v, mg y = some v ∧ SubOk K mg (xi.sub y) v
  fl : FldOk K mg xi.tab xi.flds
  isn : ∀ y, y ∈ xi.isNs → ∃ Cy, mg y = some (.ref Cy) ∧ IsOk K mg (xi.isN y) (.ref Cy)
  isv : xi.vb = true → mg "ValueError" = none ∧ IsOk K mg xi.isV (.type "ValueError")
  hot : ∀ y h, xi.hot y = some h → ∃ (f : Addr) (fd : FuncData) (x1 : Str), FnX P w K mg base 1 f fd x1 h ∧ mg y = some (.ref f) ∧ PySem.W.keepIn K (.ref f) = true ∧ Binds K fd [x1] []
theorem XOk.none {P : Program} {w : World} {K : PySem.W.Frag} {mg : Str → Option Value} {base : Heap} : XOk P w K mg base {} := ⟨fun x fs np h => (by cases h), fun x h => (by cases h), fun x h => (by cases h), fun x h => (by cases h), fun x h => (by cases h), fun h => (by cases h), fun y h e => (by cases e)⟩
theorem fn_ok {P : Program} {w : World} {K : PySem.W.Frag} {mg : Str → Option Value} {base : Heap} {name qual : Str} {st : Stmt} {f : Addr} {fd : FuncData} (F : Fun K name qual st f fd) {N ps : List Str} (S : FnScope N ps (defScope st)) {k n : Nat} {c : Ct} {body : MS} (hN : c.N = N) (hnm : c.nm = (defScope st).names) (hfb : c.fb = fun _ => true)
    {xi : XInf} (hxi : XOk P w K mg base xi) (hk2 : 2 ≤ k) (hb : cBd xi n c (defBody st) = some body)
    (hfn : ∀ x h m, c.fn x = some (h, m) → ∃ f fd ps, FnOk P w K mg base (L2N.CX P w) k f fd ps (spD ⟨K, mg⟩ ps.length h) ∧ ps.length = m ∧ mg x = some (.ref f) ∧ PySem.W.keepIn K (.ref f) = true ∧ Binds K fd ps [] ∧ ∀ ds mu, ds.length ≠ m → h ds mu = .bad)
    (hgl : ∀ x d, c.gl x = some d → ∃ u v, mg x = some u ∧ RelV v u ∧ ∀ H Fx ι, Rep K H Fx ι d v)
    (hbn : ∀ x, x ∈ c.bn → mg x = none) : FnOk P w K mg base (L2N.CX P w) (k + 1) f fd ps (spD ⟨K, mg⟩ ps.length (runDef N.length ps.length body)) := by
  obtain ⟨oc, od, kV, doc, pm, an, cdv, ct, osl, rfl, lk, hcd⟩ := F.ex
  refine fn_of lk hcd S (fun vs H Q E h => h.1) fun A outer s H vs Q E hr hsp => ?_
  have KO : CtOk c (fun cls d _ H => E cls d H) (cxOf (L2N.CX P w) P w K mg base N qual (defScope st) f cdv A outer s H E) := {
    N := hN.symm
    nd := S.nd
    nm := hnm.symm
    kind := S.kind
    fb := fun x => by rw [hfb]; rfl
    calm := rfl
    un := by
      have z := hr.un
      show (A.deeper (PyProof.Rows.envOfC qual (defScope st) s.heap.objs.size f cdv)).units + 65 < cLine
      omega
    tk := L2N.takes_of rfl rfl rfl rfl
    hp := passes_of rfl
    fn := fun x h m e => by
      obtain ⟨f, fd, ps, F, a1, a2, a3, a4, a5⟩ := hfn x h m e
      exact ⟨k, f, fd, ps, F, a1, hr, a2, a3, a4, a5⟩
    gl := hgl
    bn := hbn }
  obtain ⟨hl, Fx, ι, ds, mu, r, rp, q⟩ := hsp
  have hlen : ds.length = ps.length := by rw [rp.length]; exact hl
  have KX : CtX c xi (fun cls d _ H => E cls d H) (cxOf (L2N.CX P w) P w K mg base N qual (defScope st) f cdv A outer s H E) := {
    k := KO
    st := rfl
    fr := rfl
    ex := fun x fs np h => by
      obtain ⟨C, fI, fd, N', ps', a1, a2, a3, a4, a5, a6, a7, a8⟩ := hxi.ex x fs np h
      exact ⟨C, fI, fd, N', ps', 1, a1, a2, a3, a4, a5, hr.mono hk2, a6, a7, a8⟩
    et := fun x h => by
      obtain ⟨C, bmB, B, newId, initId, a1, a2, a3, a4, a5, a6⟩ := hxi.et x h
      exact ⟨C, bmB, B, newId, initId, a1, a2, a3, a4, raises_own a5 a6⟩
    sub := hxi.sub
    fl := hxi.fl
    isn := hxi.isn
    isv := hxi.isv
    hot := fun y h e => by
      obtain ⟨f, fd, x1, F, m1, m2, m3⟩ := hxi.hot y h e
      exact ⟨1, f, fd, x1, F, L2H.roomH_of (hr.mono (by omega)), m1, m2, m3⟩ }
  refine ⟨_, cBd_ok KX hb, Fx, ι, _, r.begin (N := N) rp hlen, ?_⟩
  unfold runDef at q
  rw [if_pos hlen] at q
  cases e : body ⟨ds.map .va ++ List.replicate (N.length - ps.length) .un, mu⟩ with
  | ok a s' =>
    rw [e] at q
    intro ι1 H1 σ1 s1 r1
    have s2 : Step ι H (cells ι1) H1 := s1.trans step_cells
    cases a with
    | nx => exact q _ H1 s2 r1.alone _ mk_non
    | rt d => exact fun v rv => q _ H1 s2 r1.alone v (Rep.alone rv)
    | bk => exact q.elim
    | ct => exact q.elim
  | er x s' =>
    rw [e] at q
    intro ι1 H1 σ1 cls d s1 r1 hx
    refine q (cells ι1) H1 cls d (s1.trans step_cells) r1.alone ?_
    obtain ⟨C, z1, z2, z3⟩ := hx
    refine ⟨C, z1, z2, ?_⟩
    rcases z3 with z3 | ⟨a, fv, y1, y2, y3⟩
    · exact .inl z3
    · refine .inr ⟨a, fv, y1, y2, fun f x hf => ?_⟩
      obtain ⟨v, w1, w2⟩ := y3 f x hf
      exact ⟨v, w1, Rep.alone w2⟩
  | bad =>
    rw [e] at q
    exact q.elim
end Pv
/-! Pv14: the module's defs, one after another; the law's end. -/
namespace Pv
open PySem PySem.Spec L2
/-- a def of the module's top -/
structure DefIn (K : PySem.W.Frag) (mg : Str → Option Value) (st : Stmt) (name : Str) (ps : List Str) : Prop where
  ex : ∃ f fd, Fun K name name st f fd ∧ mg name = some (.ref f) ∧ Binds K fd ps []
/-- how a def's parameters are bound -/
def BindsSt (st : Stmt) (name : Str) (ps : List Str) : Prop := ∀ (kV doc pm : Value) (an : Option Addr) (cdv ct : Value) (us : List Value), us.length = ps.length →
  bindArgs (PySem.W.fnOf name name (defArgs st) (defBody st) (defScope st) .none kV doc pm an cdv ct) ⟨us, []⟩ = pure (ps.zip us)
theorem defIn {K : PySem.W.Frag} {mg : Str → Option Value} {h : Heap} {st : Stmt} {name : Str} {ps : List Str} {f : Addr} {oc : Value} {od an : Option Addr} {osl : Array (Option Value)} {kV doc pm cdv ct : Value}
    (B : BindsSt st name ps) (X : K.In h) (G : h.Ns mainGlobals mg) (a : PySem.W.nsIn K mainGlobals name = some (some (.ref f)))
    (l : K.lookup f = some ⟨oc, od, .func (PySem.W.fnOf name name (defArgs st) (defBody st) (defScope st) .none kV doc pm an cdv ct), osl⟩)
    (c : PySem.W.codeIn K cdv name = true) (k : PySem.W.keepIn K (.ref f) = true) : DefIn K mg st name ps := by
  have F := fun_mk (st := st) l c k
  exact ⟨f, _, F, PySem.W.mg_of X G a, F.binds B⟩
abbrev Tab := Str → Option (Fn × Nat)
def TOk (P : Program) (w : World) (K : PySem.W.Frag) (mg : Str → Option Value) (base : Heap) (k : Nat) (T : Tab) : Prop :=
  ∀ x h m, T x = some (h, m) → ∃ f fd ps, FnOk P w K mg base (L2N.CX P w) k f fd ps (spD ⟨K, mg⟩ ps.length h) ∧ ps.length = m ∧ mg x = some (.ref f) ∧ PySem.W.keepIn K (.ref f) = true ∧ Binds K fd ps [] ∧ ∀ ds mu, ds.length ≠ m → h ds mu = .bad
def GlOk (K : PySem.W.Frag) (mg : Str → Option Value) (gl : Str → Option D) : Prop := ∀ x d, gl x = some d → ∃ u v, mg x = some u ∧ RelV v u ∧ ∀ H Fx ι, Rep K H Fx ι d v
def BnOk (mg : Str → Option Value) (bn : List Str) : Prop := ∀ x, x ∈ bn → mg x = none
def addT (T : Tab) (name : Str) (f : Fn) (m : Nat) : Tab := fun x => if x = name then some (f, m) else T x
section
variable {P : Program} {w : World} {K : PySem.W.Frag} {mg : Str → Option Value} {base : Heap} {k n m : Nat} {T : Tab} {gl : Str → Option D} {bn : List Str} {st : Stmt} {name : Str} {N ps : List Str} {body : MS} {md : Nat → Nat → Nat}
theorem TOk.zero : TOk P w K mg base 2 fun _ => none := fun x h m e => by cases e
theorem TOk.fn (t : TOk P w K mg base k T) (hg : GlOk K mg gl) (hb : BnOk mg bn) (D : DefIn K mg st name ps) (S : FnScope N ps (defScope st)) {xi : XInf} (hxi : XOk P w K mg base xi) (hk2 : 2 ≤ k) (hc : cBd xi n ⟨N, (defScope st).names, fun _ => true, T, gl, bn, md⟩ (defBody st) = some body) :
    ∃ f fd, FnOk P w K mg base (L2N.CX P w) (k + 1) f fd ps (spD ⟨K, mg⟩ ps.length (runDef N.length ps.length body)) ∧ mg name = some (.ref f) ∧ PySem.W.keepIn K (.ref f) = true ∧ Binds K fd ps [] := by
  obtain ⟨f, fd, F, h1, h2⟩ := D.ex
  exact ⟨f, fd, fn_ok F S rfl rfl rfl hxi hk2 hc t hg hb, h1, F.kp, h2⟩
theorem TOk.add (t : TOk P w K mg base k T) (hg : GlOk K mg gl) (hb : BnOk mg bn) (D : DefIn K mg st name ps) (S : FnScope N ps (defScope st)) {xi : XInf} (hxi : XOk P w K mg base xi) (hk2 : 2 ≤ k) (hc : cBd xi n ⟨N, (defScope st).names, fun _ => true, T, gl, bn, md⟩ (defBody st) = some body) :
    TOk P w K mg base (k + 1) (addT T name (runDef N.length ps.length body) ps.length) := fun x h m e => by
  unfold addT at e
  split at e
  · rename_i ex
    cases e
    subst ex
    obtain ⟨f, fd, F, h1, h2, h3⟩ := t.fn hg hb D S hxi hk2 hc
    exact ⟨f, fd, ps, F, rfl, h1, h2, h3, fun ds mu hl => runDef_len hl⟩
  · obtain ⟨f, fd, ps', F, h1, h2⟩ := t x h m e
    exact ⟨f, fd, ps', F.mono (Nat.le_succ k), h1, h2⟩
end
/-! ### defs that call themselves, one another -/
def badF : Fn := fun _ _ => .bad
/-- j turns deep at most -/
noncomputable def recF (m np : Nat) (b : Fn → MS) : Nat → Fn
  | 0 => badF
  | j + 1 => runDef m np (b (recF m np b j))
noncomputable def recF2 (m np : Nat) (b : Fn → Fn → MS) (m' np' : Nat) (b' : Fn → Fn → MS) : Nat → Fn × Fn
  | 0 => (badF, badF)
  | j + 1 => (runDef m np (b (recF2 m np b m' np' b' j).1 (recF2 m np b m' np' b' j).2), runDef m' np' (b' (runDef m np (b (recF2 m np b m' np' b' j).1 (recF2 m np b m' np' b' j).2)) (recF2 m np b m' np' b' j).2))
theorem addT_twice {T : Tab} {x : Str} {f g : Fn} {m m' : Nat} : addT (addT T x f m) x g m' = addT T x g m' := by
  funext y
  by_cases h : y = x <;> simp [addT, h]
theorem addT_swap {T : Tab} {x y : Str} {f g f' : Fn} {m n m' : Nat} (h : x ≠ y) : addT (addT (addT T x f m) y g n) x f' m' = addT (addT T x f' m') y g n := by
  funext z
  unfold addT
  by_cases hx : z = x
  · subst hx
    simp [h]
  · by_cases hy : z = y
    · subst hy
      simp [hx]
    · simp [hx, hy]
section
variable {P : Program} {w : World} {K : PySem.W.Frag} {mg : Str → Option Value} {base : Heap} {k n n' : Nat} {T : Tab} {gl : Str → Option D} {bn : List Str} {st st' : Stmt} {name name' : Str} {N ps N' ps' : List Str} {md md' : Nat → Nat → Nat}
theorem TOk.bad (t : TOk P w K mg base k T) (D : DefIn K mg st name ps) : TOk P w K mg base k (addT T name badF ps.length) := fun x h m e => by
  unfold addT at e
  split at e
  · rename_i ex
    cases e
    subst ex
    obtain ⟨f, fd, F, h1, h2⟩ := D.ex
    refine ⟨f, fd, ps, ⟨fun vs H Q E h => h.1, fun A outer s H args us vs Q E _ _ _ _ hsp => ?_⟩, rfl, h1, F.kp, h2, fun ds mu hl => rfl⟩
    obtain ⟨_, _, _, _, _, _, _, q⟩ := hsp
    exact q.elim
  · exact t x h m e
theorem TOk.recs (t : TOk P w K mg base k T) (hg : GlOk K mg gl) (hb : BnOk mg bn) (D : DefIn K mg st name ps) (S : FnScope N ps (defScope st)) {xi : XInf} (hxi : XOk P w K mg base xi) (hk2 : 2 ≤ k) {b : Fn → MS}
    (hc : ∀ h, cBd xi n ⟨N, (defScope st).names, fun _ => true, addT T name h ps.length, gl, bn, md⟩ (defBody st) = some (b h)) : ∀ j, TOk P w K mg base (k + j) (addT T name (recF N.length ps.length b j) ps.length)
  | 0 => t.bad D
  | j + 1 => by
    have z := (TOk.recs t hg hb D S hxi hk2 hc j).add hg hb D S hxi (by omega) (hc _)
    rw [addT_twice] at z
    exact z
theorem TOk.recs2 (t : TOk P w K mg base k T) (hg : GlOk K mg gl) (hb : BnOk mg bn) (D : DefIn K mg st name ps) (D' : DefIn K mg st' name' ps') (S : FnScope N ps (defScope st)) (S' : FnScope N' ps' (defScope st')) {xi : XInf} (hxi : XOk P w K mg base xi) (hk2 : 2 ≤ k) (hne : name ≠ name') {b b' : Fn → Fn → MS}
    (hc : ∀ f g, cBd xi n ⟨N, (defScope st).names, fun _ => true, addT (addT T name f ps.length) name' g ps'.length, gl, bn, md⟩ (defBody st) = some (b f g))
    (hc' : ∀ f g, cBd xi n' ⟨N', (defScope st').names, fun _ => true, addT (addT T name f ps.length) name' g ps'.length, gl, bn, md'⟩ (defBody st') = some (b' f g)) :
    ∀ j, TOk P w K mg base (k + 2 * j) (addT (addT T name (recF2 N.length ps.length b N'.length ps'.length b' j).1 ps.length) name' (recF2 N.length ps.length b N'.length ps'.length b' j).2 ps'.length)
  | 0 => (t.bad D).bad D'
  | j + 1 => by
    have z := (TOk.recs2 t hg hb D D' S S' hxi hk2 hne hc hc' j).add hg hb D S hxi (by omega) (hc _ _)
    rw [addT_swap hne] at z
    have z2 := z.add hg hb D' S' hxi (by omega) (hc' _ _)
    rw [addT_twice] at z2
    exact z2
end
mutual
/-- a constant of the module, as the written part has it -/
def repK (K : PySem.W.Frag) : D → Value → Bool
  | .non, u => u == .none
  | .bl b, u => u == .bool b
  | .int i, u => (match u with
    | .int j _ => i == j
    | _ => false)
  | .str s, u => (match u with
    | .str y _ => decide (y.cps.toList = s) && okSb s
    | _ => false)
  | .tup ds, u => (match u with
    | .ref a => (match K.lookup a with
      | some o => o.cls == .type "tuple" && (match o.data with
        | .seq its _ => decide (its.size ≤ sizeLine) && repKs K ds its.toList
        | _ => false)
      | none => false)
    | _ => false)
  | .lk ds, u => (match u with
    | .ref a => (match K.lookup a with
      | some o => o.cls == .type "list" && (o.dict.isNone && (match o.data with
        | .seq its _ => decide (its.size ≤ sizeLine) && repKs K ds its.toList
        | _ => false))
      | none => false)
    | _ => false)
  | .lst _, _ => false
  | .ref _, _ => false
def repKs (K : PySem.W.Frag) : List D → List Value → Bool
  | [], us => us.isEmpty
  | d :: ds, us => (match us with
    | u :: us => repK K d u && repKs K ds us
    | [] => false)
end
mutual
theorem repK_ok {K : PySem.W.Frag} : ∀ (d : D) (u : Value), repK K d u = true → ∃ v, RelV v u ∧ ∀ H Fx ι, Rep K H Fx ι d v
  | .non, u, h => ⟨.non, by simpa [repK, RelV] using h, fun _ _ _ => mk_non⟩
  | .bl b, u, h => ⟨.bl b, by simpa [repK, RelV] using h, fun _ _ _ => mk_bl⟩
  | .int i, u, h => by
    unfold repK at h
    split at h
    · have e := of_decide_eq_true h
      subst e
      exact ⟨.int i, ⟨_, rfl⟩, fun _ _ _ => mk_int⟩
    · cases h
  | .str s, u, h => by
    unfold repK at h
    split at h
    · rename_i y t
      simp only [Bool.and_eq_true, decide_eq_true_eq] at h
      obtain ⟨rfl, h2⟩ := h
      exact ⟨.str y, ⟨t, rfl⟩, fun _ _ _ => by
        have e : y = ⟨y.cps.toList.toArray⟩ := by simp
        conv => rhs; rw [e]
        exact mk_str (OkS.of h2)⟩
    · cases h
  | .tup ds, u, h => by
    unfold repK at h
    split at h
    · rename_i a
      split at h
      · rename_i o ho
        simp only [Bool.and_eq_true, beq_iff_eq] at h
        obtain ⟨h1, h2⟩ := h
        split at h2
        · rename_i its n hd
          simp only [Bool.and_eq_true, decide_eq_true_eq] at h2
          obtain ⟨vs, r, p⟩ := repKs_ok ds its.toList h2.2
          exact ⟨.ref a, rfl, fun _ _ _ => by simp only [Rep]; exact ⟨a, vs, rfl, .inr ⟨o, its, n, ho, h1, hd, h2.1, r⟩, p _ _ _⟩⟩
        · cases h2
      · cases h
    · cases h
  | .lk ds, u, h => by
    unfold repK at h
    split at h
    · rename_i a
      split at h
      · rename_i o ho
        simp only [Bool.and_eq_true, beq_iff_eq, Option.isNone_iff_eq_none] at h
        obtain ⟨h1, h0, h2⟩ := h
        split at h2
        · rename_i its n hd
          simp only [Bool.and_eq_true, decide_eq_true_eq] at h2
          obtain ⟨vs, r, p⟩ := repKs_ok ds its.toList h2.2
          exact ⟨.ref a, rfl, fun _ _ _ => by simp only [Rep]; exact ⟨a, vs, rfl, .inr ⟨o, its, n, ho, h1, h0, hd, h2.1, r⟩, p _ _ _⟩⟩
        · cases h2
      · cases h
    · cases h
  | .lst _, u, h => by simp [repK] at h
  | .ref _, u, h => by simp [repK] at h
theorem repKs_ok {K : PySem.W.Frag} : ∀ (ds : List D) (us : List Value), repKs K ds us = true → ∃ vs, Vals vs us ∧ ∀ H Fx ι, RepAll K H Fx ι ds vs
  | [], us, h => by
    have : us = [] := by simpa [repKs] using h
    subst this
    exact ⟨[], .nil, fun _ _ _ => .nil⟩
  | d :: ds, us, h => by
    unfold repKs at h
    split at h
    · rename_i u us
      simp only [Bool.and_eq_true] at h
      obtain ⟨v, r, p⟩ := repK_ok d u h.1
      obtain ⟨vs, rs, ps⟩ := repKs_ok ds us h.2
      exact ⟨v :: vs, .cons r rs, fun _ _ _ => .cons (p _ _ _) (ps _ _ _)⟩
    · cases h
end
/-- all constants that a law's defs read -/
def glAll (K : PySem.W.Frag) (gls : List (Str × D)) : Bool := gls.all fun p => match PySem.W.nsIn K mainGlobals p.1 with
  | some (some u) => repK K p.2 u
  | _ => false
def bnAll (K : PySem.W.Frag) (bn : List Str) : Bool := bn.all fun x => match PySem.W.nsIn K mainGlobals x with
  | some none => true
  | _ => false
theorem lookup_mem {α β : Type} [BEq α] [LawfulBEq α] {l : List (α × β)} {x : α} {d : β} (h : l.lookup x = some d) : (x, d) ∈ l := by
  induction l with
  | nil => cases h
  | cons p l ih =>
    obtain ⟨y, e⟩ := p
    by_cases hx : x = y
    · subst hx
      simp [List.lookup] at h
      subst h
      exact List.mem_cons_self
    · have : (x == y) = false := by simpa using hx
      simp [List.lookup, this] at h
      exact List.mem_cons_of_mem _ (ih h)
theorem gl_ok {K : PySem.W.Frag} {mg : Str → Option Value} {h : Heap} {gls : List (Str × D)} (X : K.In h) (G : h.Ns mainGlobals mg) (b : glAll K gls = true) : GlOk K mg fun x => gls.lookup x := fun x d e => by
  have hm := lookup_mem e
  have := List.all_eq_true.mp b _ hm
  dsimp only at this
  split at this
  · rename_i u hu
    obtain ⟨v, r, p⟩ := repK_ok _ _ this
    exact ⟨u, v, PySem.W.mg_of X G hu, r, p⟩
  · cases this
theorem bn_ok {K : PySem.W.Frag} {mg : Str → Option Value} {h : Heap} {bn : List Str} (X : K.In h) (G : h.Ns mainGlobals mg) (b : bnAll K bn = true) : BnOk mg bn := fun x hx => by
  have := List.all_eq_true.mp b _ hx
  split at this
  · rename_i hu
    exact PySem.W.mg_none_of X G hu
  · cases this
/-- the law's promise -/
def spLaw (K : PySem.W.Frag) : Sp := fun vs H Q _ => ∃ (a : Addr) (ns : List Int), vs = [.ref a] ∧ SqL K H a (ns.map V.int) ∧ ns.length ≤ 63 ∧ ∀ H', Q (.bl true) H'
theorem rep_ints {K : PySem.W.Frag} {H : Hp} {Fx : Addr → Prop} {ι : Io} : ∀ ns : List Int, RepAll K H Fx ι (ns.map .int) (ns.map V.int)
  | [] => .nil
  | n :: ns => .cons mk_int (rep_ints ns)
theorem law_fn {P : Program} {w : World} {K : PySem.W.Frag} {mg : Str → Option Value} {base : Heap} {k : Nat} {f : Addr} {fd : FuncData} {x : Str} {h : Fn} (F : FnOk P w K mg base (L2N.CX P w) k f fd [x] (spD ⟨K, mg⟩ 1 h))
    (ht : ∀ ns : List Int, ns.length ≤ 63 → ∃ s, h [.lk (ns.map .int)] [] = .ok (.bl true) s) : FnOk P w K mg base (L2N.CX P w) k f fd [x] (spLaw K) := F.imp fun vs H Q E hq => by
  obtain ⟨a, ns, rfl, hS, hl, q⟩ := hq
  obtain ⟨s, e⟩ := ht ns hl
  refine ⟨rfl, fun _ => False, fun _ => none, [.lk (ns.map .int)], [], ?_, ?_, ?_⟩
  · refine ⟨rfl, fun i d e => (by simp at e), fun i d e => (by simp at e), fun i d e => (by simp at e), fun i a e => (by cases e), fun i a e => (by cases e), fun w w' a e => (by cases e), fun a z => z.elim, fun a z => z.elim, fun a z => (by obtain ⟨w, z⟩ := z; cases z)⟩
  · refine .cons ?_ .nil
    simp only [Rep]
    refine ⟨a, ns.map V.int, rfl, ?_, rep_ints ns⟩
    rcases hS with z | z
    · exact .inl ⟨z, fun q => by
        rcases q with q | ⟨w, q⟩
        · exact q
        · cases q⟩
    · exact .inr z
  · rw [e]
    intro ι' H' _ _ v rv
    cases rep_bl rv
    exact q H'
theorem walk {l : PySem.W.OpenLaw} {q : Program} {loose : List Str} {XP : (Str → Option Value) → Heap → Prop} {YP : World → Heap → Prop} {d : DefRec} {K : Params → PySem.W.Frag} {k : Nat} {x : Str} (hk : k ≤ 200) (hn : l.most = some 63) (hdf : d.params.defaults = [])
    (hY : ∀ (w : World) (h : Heap), YP w h → (K w.params).In h)
    (F : ∀ (w : World) (mg : Str → Option Value) (fa : Addr) (h : Heap), (K w.params).In h → h.Ns mainGlobals mg → mg d.name = some (.ref fa) →
      ∃ fd : FuncData, (∀ (s : Shared) (u : Value), BindsTo s fd ⟨[u], []⟩ [(x, u)]) ∧ ∀ base : Heap, (K w.params).In base → base.Ns mainGlobals mg → FnOk l.prog w (K w.params) mg base (L2N.CX l.prog w) k fa fd [x] (spLaw (K w.params))) :
    PySem.W.WalkO q loose XP YP l.row.toRowW d [] (fun f vs => PySem.call f vs) :=
  L2.walk_of (n := 63) (k := k) (x := x) (CX := fun w => L2N.CX l.prog w) (sp := fun w => spLaw (K w.params)) hn (by decide) hdf ⟨rfl, by have : callerA.depth + 3 * 200 + 5 < recursionLimit := (by decide); omega, by have : callerA.units + 16 * 200 + 200 < cLine := (by decide); omega⟩ hY F (fun _ _ a ns hl _ hS => ⟨a, ns, rfl, hS, hl, fun _ => rfl⟩) fun _ _ _ _ _ z => by
    obtain ⟨_, _, _, _, _, _, _, _, _, _, _, _, w⟩ := z
    exact w
/-! ### what the written part says of exceptions -/
def oexB (K : PySem.W.Frag) (C : Addr) : Bool := match K.lookup C with
  | some ⟨.type "type", _, .cls cd, sl⟩ => (match cd.mro, sl.toList with
    | .ref C' :: bm, [_, _, _, _, some (.builtin n), _] => C' == C && (n == "ValueError.__new__" && (!cd.hasDel && (cd.hasDict && PySem.HandSPX.refsVE bm)))
    | _, _ => false)
  | _ => false
def oexA (K : PySem.W.Frag) (C : Addr) : Bool := oexB K C && (PySem.W.findIn K (.ref C) "__setattr__" == some (some (.builtin "object.__setattr__")) && (PySem.W.subIn K (.ref C) (.type "BaseException") == some true && (PySem.W.typeIn K (.ref C) == some (.type "type") && PySem.W.keepIn K (.ref C))))
theorem oexA_ok {K : PySem.W.Frag} {C : Addr} (h : oexA K C = true) : OexC K C := by
  unfold oexA at h
  simp only [Bool.and_eq_true, beq_iff_eq] at h
  obtain ⟨q, h1, h2, h3, h4⟩ := h
  refine ⟨?_, h1, h2, h3, h4⟩
  unfold oexB at q
  split at q
  · rename_i dd cd sl ho
    split at q
    · rename_i C' bm k0 k1 k2 k3 n k5 hm hs
      simp only [Bool.and_eq_true, beq_iff_eq, Bool.not_eq_true'] at q
      obtain ⟨rfl, rfl, hdel, hd, hr⟩ := q
      obtain ⟨nm, bs, mro, ns, qn, hdct, sn, sub, ab, col, del⟩ := cd
      dsimp only at hm hdel hd
      subst hm hdel hd
      have hsl : sl = #[k0, k1, k2, k3, some (.builtin "ValueError.__new__"), k5] := by
        obtain ⟨l⟩ := sl
        simp only at hs
        rw [hs]
      subst hsl
      exact ⟨nm, qn, ns, bs, bm, sn, sub, ab, col, dd, k0, k1, k2, k3, k5, ho, hr⟩
    · cases q
  · cases q
def baseB (K : PySem.W.Frag) (b : Str) : Bool := match PySem.W.nsIn K mainGlobals b with
  | some (some (.ref S)) => PySem.W.specialIn K (.ref S) "__getattribute__" == some (some (.builtin "type.__getattribute__")) && (PySem.W.readsIn K S (.type "type") && (match PySem.W.findCls K (.ref S) (.type "type") "__init__" with
    | some (.val v) => v == .builtin "ValueError.__init__"
    | _ => false))
  | _ => false
def exB (K : PySem.W.Frag) (C fI : Addr) (fs : List (Str × Nat)) : Bool := oexA K C && (PySem.W.findIn K (.ref C) "__init__" == some (some (.ref fI)) && (PySem.W.typeIn K (.ref fI) == some (.type "function") && fs.all fun p => PySem.W.findIn K (.ref C) p.1 == some none))
def subsOf (subs : List (Str × List (Str × Bool))) (y x : Str) : Option Bool := (subs.lookup y).bind fun l => l.lookup x
def subB (K : PySem.W.Frag) (y : Str) (l : List (Str × Bool)) : Bool := match PySem.W.nsIn K mainGlobals y with
  | some (some v) => l.all fun p => match PySem.W.nsIn K mainGlobals p.1 with
    | some (some (.ref C)) => PySem.W.exmOne K (.ref C) v == some p.2
    | _ => false
  | _ => false
def subsB (K : PySem.W.Frag) (subs : List (Str × List (Str × Bool))) : Bool := subs.all fun p => subB K p.1 p.2
def fldB (K : PySem.W.Frag) (tab flds : List Str) : Bool := tab.all fun x => match PySem.W.nsIn K mainGlobals x with
  | some (some (.ref C)) => xfB K C && flds.all fun f => PySem.W.findIn K (.ref C) f == some none
  | _ => false
def inCls (s : Stmt) (j : Nat) : Stmt := match s with
  | .ClassDef _ _ _ body _ _ _ _ _ _ _ => body.getD j (.Pass ⟨0, 0, 0, 0⟩)
  | _ => .Pass ⟨0, 0, 0, 0⟩
def BindsQ (st : Stmt) (name qual : Str) (ps : List Str) : Prop := ∀ (kV doc pm : Value) (an : Option Addr) (cdv ct : Value) (us : List Value), us.length = ps.length →
  bindArgs (PySem.W.fnOf name qual (defArgs st) (defBody st) (defScope st) .none kV doc pm an cdv ct) ⟨us, []⟩ = pure (ps.zip us)
section
variable {P : Program} {w : World} {K : PySem.W.Frag} {mg : Str → Option Value} {h : Heap}
theorem exI_of {x b qual : Str} {C fI : Addr} {st : Stmt} {oc : Value} {od an : Option Addr} {osl : Array (Option Value)} {kV doc pm cdv ct : Value} {fs : List (Str × Nat)} {np : Nat} {N ps : List Str} (X : K.In h) (G : h.Ns mainGlobals mg)
    (hx : PySem.W.nsIn K mainGlobals x = some (some (.ref C))) (hfi : PySem.W.findIn K (.ref C) "__init__" = some (some (.ref fI))) (l : K.lookup fI = some ⟨oc, od, .func (PySem.W.fnOf "__init__" qual (defArgs st) (defBody st) (defScope st) .none kV doc pm an cdv ct), osl⟩) (c : PySem.W.codeIn K cdv qual = true)
    (k : PySem.W.keepIn K (.ref fI) = true) (e : exB K C fI fs = true) (hb : baseB K b = true) (B : BindsQ st "__init__" qual ps) (Sc : FnScope N ps (defScope st)) (hi : initOf ⟨N, (defScope st).names, fun _ => true, fun _ => none, fun _ => none, [], noMd⟩ b (defBody st) = some fs) (hnp : ps.length = np + 1) :
    ∀ base : Heap, ∃ (C fI : Addr) (fd : FuncData) (N ps : List Str), mg x = some (.ref C) ∧ OexC K C ∧ PySem.W.findIn K (.ref C) "__init__" = some (some (.ref fI)) ∧ PySem.W.typeIn K (.ref fI) = some (.type "function") ∧
    FnOk P w K mg base (L2N.CX P w) 1 fI fd ps (spI K N ps.length fs) ∧ Binds K fd ps [] ∧ ps.length = np + 1 ∧ ∀ p ∈ fs, PySem.W.findIn K (.ref C) p.1 = some none := by
  unfold exB at e
  simp only [Bool.and_eq_true, beq_iff_eq, List.all_eq_true] at e
  obtain ⟨e1, e2, e3, e4⟩ := e
  unfold baseB at hb
  split at hb
  · rename_i S hS
    simp only [Bool.and_eq_true, beq_iff_eq] at hb
    obtain ⟨b1, b2, b3⟩ := hb
    split at b3
    · rename_i v hv
      rw [beq_iff_eq] at b3
      subst b3
      have F := fun_mk (st := st) l c k
      exact fun base => ⟨C, fI, _, N, ps, PySem.W.mg_of X G hx, oexA_ok e1, e2, e3, init_fn F Sc (PySem.W.mg_of X G hS) b1 b2 hv hi, F.binds B, hnp, e4⟩
    · cases b3
  · cases hb
theorem subs_ok {subs : List (Str × List (Str × Bool))} (X : K.In h) (G : h.Ns mainGlobals mg) (b : subsB K subs = true) : ∀ y, y ∈ subs.map (·.1) → ∃ v, mg y = some v ∧ SubOk K mg (subsOf subs y) v := fun y hy => by
  obtain ⟨p, hp, rfl⟩ := List.mem_map.mp hy
  have q := List.all_eq_true.mp b p hp
  unfold subB at q
  split at q
  · rename_i v hv
    refine ⟨v, PySem.W.mg_of X G hv, fun x b' hx C hC => ?_⟩
    unfold subsOf at hx
    cases hl : subs.lookup p.1 with
    | none => rw [hl] at hx; cases hx
    | some l =>
      rw [hl] at hx
      have hm := lookup_mem hl
      have q2 := List.all_eq_true.mp b _ hm
      unfold subB at q2
      rw [hv] at q2
      dsimp only at q2
      have hm2 := lookup_mem (show l.lookup x = some b' from hx)
      have q3 := List.all_eq_true.mp q2 _ hm2
      dsimp only at q3
      split at q3
      · rename_i C' hC'
        have := PySem.W.mg_of X G hC'
        rw [hC] at this
        cases this
        rw [beq_iff_eq] at q3
        exact q3
      · cases q3
  · cases q
theorem fld_ok {tab flds : List Str} (X : K.In h) (G : h.Ns mainGlobals mg) (b : fldB K tab flds = true) : FldOk K mg tab flds := fun x hx C hC => by
  have q := List.all_eq_true.mp b x hx
  split at q
  · rename_i C' hC'
    have := PySem.W.mg_of X G hC'
    rw [hC] at this
    cases this
    simp only [Bool.and_eq_true, List.all_eq_true, beq_iff_eq] at q
    exact ⟨xfB_ok q.1, q.2⟩
  · cases q
end
/-! ### isinstance of exceptions, defs that are handed one -/
def excCB (K : PySem.W.Frag) (D : Addr) : Bool := decide (PySem.W.findIn K (.ref D) "__getattribute__" = some (some (.builtin "BaseException.__getattribute__"))) && (decide (PySem.W.findIn K (.ref D) "__getattr__" = some none) && (decide (PySem.W.subIn K (.ref D) (.type "BaseException") = some true) &&
  (PySem.W.hasDictIn K D && (decide (PySem.W.findIn K (.ref D) "__class__" = some (some (.builtin "object.__class__"))) && (decide (PySem.W.specialIn K (.builtin "object.__class__") "__get__" = some (some (.builtin "getset_descriptor.__get__"))) &&
  (decide (PySem.W.takesIn K (.builtin "object.__class__") = some true) && decide (PySem.W.mroIn K D (.type "object") = some true)))))))
theorem excCB_ok {K : PySem.W.Frag} {D : Addr} (h : excCB K D = true) : L2.ExcC K D := by
  unfold excCB at h
  simp only [Bool.and_eq_true, decide_eq_true_eq] at h
  obtain ⟨h1, h2, h3, h4, h5, h6, h7, h8⟩ := h
  exact ⟨h1, h2, h3, h4, h5, h6, h7, h8⟩
/-- the table of one class -/
def isB (K : PySem.W.Frag) (cv : Value) (l : List (Str × Bool)) : Bool := l.all fun p => match PySem.W.nsIn K mainGlobals p.1 with
  | some (some (.ref C)) => excCB K C && decide (PySem.W.kitOne K (.ref C) cv = some p.2)
  | _ => false
def isnB (K : PySem.W.Frag) (iss : List (Str × List (Str × Bool))) : Bool := iss.all fun p => match PySem.W.nsIn K mainGlobals p.1 with
  | some (some (.ref Cy)) => isB K (.ref Cy) p.2
  | _ => false
def isvB (K : PySem.W.Frag) (l : List (Str × Bool)) : Bool := decide (PySem.W.nsIn K mainGlobals "ValueError" = some none) && isB K (.type "ValueError") l
section
variable {P : Program} {w : World} {K : PySem.W.Frag} {mg : Str → Option Value} {h : Heap}
theorem isB_ok {cv : Value} {l : List (Str × Bool)} (X : K.In h) (G : h.Ns mainGlobals mg) (b : isB K cv l = true) : IsOk K mg (fun x => l.lookup x) cv := fun x b' hx C hC => by
  have q := List.all_eq_true.mp b _ (lookup_mem hx)
  split at q
  · rename_i C' hC'
    have := PySem.W.mg_of X G hC'
    rw [hC] at this
    cases this
    rw [Bool.and_eq_true, decide_eq_true_eq] at q
    exact ⟨excCB_ok q.1, q.2⟩
  · cases q
theorem isn_ok {iss : List (Str × List (Str × Bool))} (X : K.In h) (G : h.Ns mainGlobals mg) (b : isnB K iss = true) : ∀ y, y ∈ iss.map (·.1) → ∃ Cy, mg y = some (.ref Cy) ∧ IsOk K mg (subsOf iss y) (.ref Cy) := fun y hy => by
  obtain ⟨p, hp, rfl⟩ := List.mem_map.mp hy
  have q := List.all_eq_true.mp b p hp
  split at q
  · rename_i Cy hv
    refine ⟨Cy, PySem.W.mg_of X G hv, fun x b' hx C hC => ?_⟩
    unfold subsOf at hx
    cases hl : iss.lookup p.1 with
    | none => rw [hl] at hx; cases hx
    | some l =>
      rw [hl] at hx
      have q2 := List.all_eq_true.mp b _ (lookup_mem hl)
      dsimp only at q2
      rw [hv] at q2
      exact isB_ok X G q2 x b' hx C hC
  · cases q
theorem isv_ok {l : List (Str × Bool)} (X : K.In h) (G : h.Ns mainGlobals mg) (b : isvB K l = true) : mg "ValueError" = none ∧ IsOk K mg (fun x => l.lookup x) (.type "ValueError") := by
  unfold isvB at b
  rw [Bool.and_eq_true, decide_eq_true_eq] at b
  exact ⟨PySem.W.mg_none_of X G b.1, isB_ok X G b.2⟩
/-- what is told of a def that is handed an exception -/
structure HotIs (P : Program) (w : World) (K : PySem.W.Frag) (mg : Str → Option Value) (base : Heap) (y : Str) (h : Exc → Option D) : Prop where
  ex : ∃ (f : Addr) (fd : FuncData) (x1 : Str), FnX P w K mg base 1 f fd x1 h ∧ mg y = some (.ref f) ∧ PySem.W.keepIn K (.ref f) = true ∧ Binds K fd [x1] []
def xi0 (xi : XInf) : XInf := { isNs := xi.isNs, isN := xi.isN, vb := xi.vb, isV := xi.isV }
theorem hot_of {base : Heap} {st : Stmt} {name x1 : Str} {N bn : List Str} {xi : XInf} {u : XSu} (Df : DefIn K mg st name [x1]) (S : FnScope N [x1] (defScope st)) (hi : ∀ y, y ∈ xi.isNs → ∃ Cy, mg y = some (.ref Cy) ∧ IsOk K mg (xi.isN y) (.ref Cy)) (hw : xi.vb = true → mg "ValueError" = none ∧ IsOk K mg xi.isV (.type "ValueError"))
    (hb : BnOk mg bn) (h0 : slotR ⟨N, (defScope st).names, fun _ => true, fun _ => none, fun _ => none, bn, noMd⟩ x1 = some 0) (hc : cXSs ⟨N, (defScope st).names, fun _ => true, fun _ => none, fun _ => none, bn, noMd⟩ (xi0 xi) x1 30 (defBody st) = some u) : HotIs P w K mg base name (xOut u) := by
  obtain ⟨f, fd, F, h1, h3⟩ := Df.ex
  have kk := F.kp
  obtain ⟨oc, od, kV, doc, pm, an, cdv, ct, osl, rfl, lk, hcd⟩ := F.ex
  unfold slotR at h0
  split at h0
  · rename_i hv
    rw [Bool.and_eq_true] at hv
    obtain ⟨d1, d2, _⟩ := plain_d hv.2
    refine ⟨f, _, x1, fnX_of lk hcd S fun A outer s H a oe cls d hz hvs => (cXS_ok (c := ⟨N, (defScope st).names, fun _ => true, fun _ => none, fun _ => none, bn, noMd⟩) (xi := xi0 xi) ?_ 30).2 _ _ hc, h1, kk, h3⟩
    have hvis : Vis (defScope st) x1 := by
      have z := hv.1
      unfold visB at z
      unfold Vis
      split at z
      · rename_i e; exact .inl e
      · rename_i e; exact .inr (.inl e)
      · rename_i e; exact .inr (.inr e)
      · cases z
    have hn : ∀ p, PE (L2H.cxH C8.CX0 P w K mg base N name (defScope st) f cdv A outer s H C8.E0 (a, oe)) (.Name x1 p) (tVar 0) := fun p => pe_var (findIx_get h0) hvis d1 d2
    have hg : ∀ y, glB (defScope st).names y = true → Gl (L2H.cxH C8.CX0 P w K mg base N name (defScope st) f cdv A outer s H C8.E0 (a, oe)) y := fun y hy => by
      unfold glB at hy
      show (defScope st).names.lookup y = _
      split at hy
      · rename_i e; exact e
      · cases hy
    exact ⟨hn, fun f p pos hf => (by cases hf), isS_of hg hb hi hw hn hz hvs List.mem_cons_self, fun y h p p1 pos e => (by cases e), fun z => (by cases z)⟩
  · cases h0
end
end Pv
/-! Pv15: the plain machine, run by simp. -/
namespace Pv
open PySem PySem.Spec L2
/-- a choice; the words stand unapplied till the sign is known -/
def sel {α : Type} (b : Bool) (x y : α) : α := if b then x else y
@[simp] theorem sel_true {α : Type} (x y : α) : sel true x y = x := nr rfl
@[simp] theorem sel_false {α : Type} (x y : α) : sel false x y = y := nr rfl
def selM {α : Type} (b : Bool) (x y : M α) (st : ES) : R α := if b then x st else y st
@[simp] theorem selM_true {α : Type} (x y : M α) (st : ES) : selM true x y st = x st := nr rfl
@[simp] theorem selM_false {α : Type} (x y : M α) (st : ES) : selM false x y st = y st := nr rfl
/-- what a call leaves -/
def callR (r : R D) (st : ES) : R D := match r with
  | .ok d s => .ok d ⟨st.sl, s.mu⟩
  | .er e s => .er e ⟨st.sl, s.mu⟩
  | .bad => .bad
@[simp] theorem callR_ok (d : D) (s st : ES) : callR (.ok d s) st = .ok d ⟨st.sl, s.mu⟩ := nr rfl
@[simp] theorem callR_er (e : Exc) (s st : ES) : callR (.er e s) st = .er e ⟨st.sl, s.mu⟩ := nr rfl
@[simp] theorem mPur_some (d : D) (st : ES) : mPur (some d) st = .ok d st := nr rfl
def rdSl (o : Option Slot) (i : Nat) (st : ES) : R D := match o with
  | some (.va d) => .ok d st
  | some (.ac xs) => .ok (.lst xs) { st with sl := st.sl.set i (.va (.lst xs)) }
  | _ => .bad
@[simp] theorem rdSl_va (d : D) (i : Nat) (st : ES) : rdSl (some (.va d)) i st = .ok d st := nr rfl
@[simp] theorem rdSl_ac (xs : List D) (i : Nat) (sl : List Slot) (mu : List Cell) : rdSl (some (.ac xs)) i ⟨sl, mu⟩ = .ok (.lst xs) ⟨sl.set i (.va (.lst xs)), mu⟩ := nr rfl
def rdO (o : Option Slot) : Option D := match o with
  | some (.va d) => some d
  | some (.ac xs) => some (.lst xs)
  | _ => none
@[simp] theorem rdO_va (d : D) : rdO (some (.va d)) = some d := nr rfl
@[simp] theorem rdO_ac (xs : List D) : rdO (some (.ac xs)) = some (.lst xs) := nr rfl
def wO {α β : Type} (o : Option α) (k : α → R β) : R β := match o with
  | some x => k x
  | none => .bad
@[simp] theorem wO_some {α β : Type} (x : α) (k : α → R β) : wO (some x) k = k x := nr rfl
def toB (d : D) (st : ES) : R Bool := match d with
  | .bl b => .ok b st
  | _ => .bad
@[simp] theorem toB_bl (b : Bool) (st : ES) : toB (.bl b) st = .ok b st := nr rfl
def toI (d : D) (st : ES) : R (Option Int) := match d with
  | .int b => .ok (some b) st
  | _ => .bad
@[simp] theorem toI_int (b : Int) (st : ES) : toI (.int b) st = .ok (some b) st := nr rfl
section
variable (sl : List Slot) (mu : List Cell) (i j : Nat) (d : D) (f g : M D) (fs : M (List D)) (b c : M Bool)
@[simp] theorem q_pure : mPure d ⟨sl, mu⟩ = .ok d ⟨sl, mu⟩ := nr rfl
@[simp] theorem q_var : mVar i ⟨sl, mu⟩ = rdSl sl[i]? i ⟨sl, mu⟩ := by
  unfold mVar rdSl
  cases h : sl[i]? with
  | none => simp [h]
  | some s => cases s <;> simp [h]
@[simp] theorem q_nil : mNil ⟨sl, mu⟩ = .ok [] ⟨sl, mu⟩ := nr rfl
@[simp] theorem q_cons : mCons f fs ⟨sl, mu⟩ = (f ⟨sl, mu⟩).bind fun x st1 => (fs st1).bind fun xs st2 => .ok (x :: xs) st2 := nr rfl
@[simp] theorem q_bool : mBool f ⟨sl, mu⟩ = (f ⟨sl, mu⟩).bind fun x st1 => toB x st1 := by
  unfold mBool
  cases f ⟨sl, mu⟩ with
  | ok a s => cases a <;> rfl
  | er e s => rfl
  | bad => rfl
@[simp] theorem q_and : mAnd b c ⟨sl, mu⟩ = (b ⟨sl, mu⟩).bind fun x st1 => selM x c (fun st => .ok false st) st1 := nr rfl
@[simp] theorem q_or : mOr b c ⟨sl, mu⟩ = (b ⟨sl, mu⟩).bind fun x st1 => selM x (fun st => .ok true st) c st1 := nr rfl
@[simp] theorem q_not : mNot b ⟨sl, mu⟩ = (b ⟨sl, mu⟩).bind fun x st1 => .ok (!x) st1 := nr rfl
@[simp] theorem q_ite {α : Type} (x y : M α) : mIte b x y ⟨sl, mu⟩ = (b ⟨sl, mu⟩).bind fun z st1 => selM z x y st1 := nr rfl
@[simp] theorem q_val : mVal b ⟨sl, mu⟩ = (b ⟨sl, mu⟩).bind fun x st1 => .ok (.bl x) st1 := nr rfl
@[simp] theorem q_lst : mLst fs ⟨sl, mu⟩ = (fs ⟨sl, mu⟩).bind fun xs st1 => .ok (.lst xs) st1 := nr rfl
@[simp] theorem q_tup : mTup fs ⟨sl, mu⟩ = (fs ⟨sl, mu⟩).bind fun xs st1 => sel (decide (xs.length ≤ lim)) (.ok (.tup xs) st1) .bad := by
  unfold mTup sel
  simp only [decide_eq_true_eq]
@[simp] theorem q_disp : mDisp fs ⟨sl, mu⟩ = (fs ⟨sl, mu⟩).bind fun xs st1 => sel (decide (xs.length ≤ lim)) (.ok xs st1) .bad := by
  unfold mDisp sel
  simp only [decide_eq_true_eq]
@[simp] theorem q_op2 (k : List Cell → D → D → Option D) : mOp2 k f g ⟨sl, mu⟩ = (f ⟨sl, mu⟩).bind fun x st1 => (g st1).bind fun y st2 => mPur (k st2.mu x y) st2 := nr rfl
theorem rd_eq (st : ES) (i : Nat) : rd st i = rdO st.sl[i]? := by
  unfold rd rdO
  cases st.sl[i]? with
  | none => rfl
  | some s => cases s <;> rfl
@[simp] theorem q_opV (k : List Cell → D → D → Option D) : mOpV k i g ⟨sl, mu⟩ = wO (rdO sl[i]?) fun _ => (g ⟨sl, mu⟩).bind fun y st2 => wO (rdO st2.sl[i]?) fun x => mPur (k st2.mu x y) st2 := by
  unfold mOpV
  rw [show rd ⟨sl, mu⟩ i = rdO sl[i]? from rd_eq _ _]
  cases rdO sl[i]? with
  | none => rfl
  | some a =>
    show (g ⟨sl, mu⟩).bind _ = (g ⟨sl, mu⟩).bind _
    congr 1
    funext y st2
    rw [rd_eq]
    cases rdO st2.sl[i]? with
    | none => rfl
    | some s => rfl
@[simp] theorem q_noPart : mNoPart ⟨sl, mu⟩ = .ok none ⟨sl, mu⟩ := nr rfl
@[simp] theorem q_part : mPart f ⟨sl, mu⟩ = (f ⟨sl, mu⟩).bind fun x st1 => toI x st1 := by
  unfold mPart
  cases f ⟨sl, mu⟩ with
  | ok a s => cases a <;> rfl
  | er e s => rfl
  | bad => rfl
@[simp] theorem q_cut (l h : MO) : mCut f l h ⟨sl, mu⟩ = (f ⟨sl, mu⟩).bind fun x st1 => (l st1).bind fun l st2 => (h st2).bind fun h st3 => mPur (dCut x l h) st3 := nr rfl
@[simp] theorem q_cutV (l h : MO) : mCutV i l h ⟨sl, mu⟩ = wO (rdO sl[i]?) fun _ => (l ⟨sl, mu⟩).bind fun l st2 => (h st2).bind fun h st3 => wO (rdO st3.sl[i]?) fun x => mPur (dCut x l h) st3 := by
  unfold mCutV
  rw [show rd ⟨sl, mu⟩ i = rdO sl[i]? from rd_eq _ _]
  cases rdO sl[i]? with
  | none => rfl
  | some a =>
    show (l ⟨sl, mu⟩).bind _ = (l ⟨sl, mu⟩).bind _
    congr 1
    funext y st2
    show (h st2).bind _ = (h st2).bind _
    congr 1
    funext z st3
    rw [rd_eq]
    cases rdO st3.sl[i]? with
    | none => rfl
    | some s => rfl
@[simp] theorem q_callB (k : List Cell → List D → Option D) : mCallB k fs ⟨sl, mu⟩ = (fs ⟨sl, mu⟩).bind fun ds st1 => mPur (k st1.mu ds) st1 := nr rfl
@[simp] theorem q_lenV : mLenV i ⟨sl, mu⟩ = wO (rdO sl[i]?) fun x => wO (lenD x) fun n => .ok (.int n) ⟨sl, mu⟩ := by
  unfold mLenV
  rw [show rd ⟨sl, mu⟩ i = rdO sl[i]? from rd_eq _ _]
  cases rdO sl[i]? with
  | none => rfl
  | some a =>
    show (match lenD a with | _ => _) = wO (lenD a) _
    cases lenD a <;> rfl
@[simp] theorem q_isi (t : Ty) : mIsi t f ⟨sl, mu⟩ = (f ⟨sl, mu⟩).bind fun d st1 => wO (kdOf st1.mu d) fun k => .ok (.bl (isKd k t)) st1 := by
  unfold mIsi
  congr 1
  funext d st1
  cases kdOf st1.mu d <;> rfl
@[simp] theorem q_meth1 (k : List Cell → D → D → Option D) : mMeth1 k f g ⟨sl, mu⟩ = (f ⟨sl, mu⟩).bind fun x st1 => sel (isStr x) ((g st1).bind fun y st2 => mPur (k st2.mu x y) st2) .bad := nr rfl
@[simp] theorem q_meth1V (k : List Cell → D → D → Option D) : mMeth1V k f i ⟨sl, mu⟩ = (f ⟨sl, mu⟩).bind fun x st1 => sel (isStr x) (wO (rdO st1.sl[i]?) fun y => mPur (k st1.mu x y) st1) .bad := by
  unfold mMeth1V
  congr 1
  funext x st1
  rw [rd_eq]
  unfold sel
  congr 1
  cases rdO st1.sl[i]? <;> rfl
def acO (o : Option Slot) : Option (List D) := match o with
  | some (.ac xs) => some xs
  | _ => none
@[simp] theorem acO_ac (xs : List D) : acO (some (.ac xs)) = some xs := nr rfl
@[simp] theorem q_append : mAppend i g ⟨sl, mu⟩ = wO (acO sl[i]?) fun _ => (g ⟨sl, mu⟩).bind fun y st1 => wO (acO st1.sl[i]?) fun xs => sel (decide (xs.length < lim)) (.ok .non ⟨st1.sl.set i (.ac (xs ++ [y])), st1.mu⟩) .bad := by
  unfold mAppend sel
  cases h : sl[i]? with
  | none => rfl
  | some s =>
    cases s with
    | ac xs =>
      show (g ⟨sl, mu⟩).bind _ = (g ⟨sl, mu⟩).bind _
      congr 1
      funext y st1
      cases h1 : st1.sl[i]? with
      | none => rfl
      | some s => cases s <;> simp [acO, wO]
    | un => rfl
    | va d => rfl
    | ex c fs => rfl
@[simp] theorem q_call (h : Fn) : mCall h fs ⟨sl, mu⟩ = (fs ⟨sl, mu⟩).bind fun ds st1 => callR (h ds st1.mu) st1 := nr rfl
@[simp] theorem q_next : sNext ⟨sl, mu⟩ = .ok .nx ⟨sl, mu⟩ := nr rfl
def seqR (a : Fl) (st : ES) (g : MS) : R Fl := match a with
  | .nx => g st
  | _ => .ok a st
@[simp] theorem seqR_nx (st : ES) (g : MS) : seqR .nx st g = g st := nr rfl
@[simp] theorem seqR_rt (d : D) (st : ES) (g : MS) : seqR (.rt d) st g = .ok (.rt d) st := nr rfl
@[simp] theorem seqR_bk (st : ES) (g : MS) : seqR .bk st g = .ok .bk st := nr rfl
@[simp] theorem seqR_ct (st : ES) (g : MS) : seqR .ct st g = .ok .ct st := nr rfl
@[simp] theorem q_seq (x y : MS) : sSeq x y ⟨sl, mu⟩ = (x ⟨sl, mu⟩).bind fun a st1 => seqR a st1 y := by
  unfold sSeq
  congr 1
@[simp] theorem q_break : sBreak ⟨sl, mu⟩ = .ok .bk ⟨sl, mu⟩ := nr rfl
@[simp] theorem q_cont : sCont ⟨sl, mu⟩ = .ok .ct ⟨sl, mu⟩ := nr rfl
@[simp] theorem q_drop : sDrop f ⟨sl, mu⟩ = (f ⟨sl, mu⟩).bind fun _ st1 => .ok .nx st1 := nr rfl
@[simp] theorem q_ret : sRet f ⟨sl, mu⟩ = (f ⟨sl, mu⟩).bind fun d st1 => .ok (.rt d) st1 := nr rfl
@[simp] theorem q_retN : sRetN ⟨sl, mu⟩ = .ok (.rt .non) ⟨sl, mu⟩ := nr rfl
@[simp] theorem q_set : sSet i f ⟨sl, mu⟩ = (f ⟨sl, mu⟩).bind fun d st1 => .ok .nx ⟨st1.sl.set i (.va d), st1.mu⟩ := nr rfl
@[simp] theorem q_setL : sSetL i fs ⟨sl, mu⟩ = (fs ⟨sl, mu⟩).bind fun xs st1 => sel (decide (i < st1.sl.length)) (.ok .nx ⟨st1.sl.set i (.ac xs), st1.mu⟩) .bad := by
  unfold sSetL sel
  simp only [decide_eq_true_eq]
def toItems (d : D) (st : ES) : R (List D) := wO (itemsOf d) fun xs => .ok xs st
@[simp] theorem q_items : mItems f ⟨sl, mu⟩ = (f ⟨sl, mu⟩).bind fun d st1 => toItems d st1 := by
  unfold mItems toItems
  congr 1
  funext d st1
  cases itemsOf d <;> rfl
@[simp] theorem items_lst (xs : List D) (st : ES) : toItems (.lst xs) st = .ok xs st := nr rfl
@[simp] theorem items_lk (xs : List D) (st : ES) : toItems (.lk xs) st = .ok xs st := nr rfl
@[simp] theorem items_tup (xs : List D) (st : ES) : toItems (.tup xs) st = .ok xs st := nr rfl
@[simp] theorem items_str (s : List Nat) (st : ES) : toItems (.str s) st = .ok (signsD s) st := nr rfl
def toRange (ds : List D) (st : ES) : R (List D) := match ds with
  | [.int j] => sel (small62 j) (.ok (rangeD 0 j.toNat) st) .bad
  | [.int i, .int j] => sel (small62 i && small62 j) (.ok (rangeD i (j - i).toNat) st) .bad
  | _ => .bad
@[simp] theorem range_1 (j : Int) (st : ES) : toRange [.int j] st = sel (small62 j) (.ok (rangeD 0 j.toNat) st) .bad := nr rfl
@[simp] theorem range_2 (i j : Int) (st : ES) : toRange [.int i, .int j] st = sel (small62 i && small62 j) (.ok (rangeD i (j - i).toNat) st) .bad := nr rfl
@[simp] theorem q_loop (T : Tg) (body : MS) (its : M (List D)) : sFor T its body ⟨sl, mu⟩ = (its ⟨sl, mu⟩).bind fun xs st1 => loop T body xs st1 := nr rfl
@[simp] theorem q_yes : mYes ⟨sl, mu⟩ = .ok true ⟨sl, mu⟩ := nr rfl
end
theorem mRange1_of {fs : M (List D)} {st st1 : ES} {j : Int} (h : fs st = .ok [.int j] st1) (hs : small62 j = true) : mRange1 fs st = .ok (rangeD 0 j.toNat) st1 := by
  unfold mRange1
  rw [h]
  simp [hs]
def toRange1 (d : D) (st : ES) : R (List D) := match d with
  | .int j => sel (small62 j) (.ok (rangeD 0 j.toNat) st) .bad
  | _ => .bad
@[simp] theorem toRange1_int (j : Int) (st : ES) : toRange1 (.int j) st = sel (small62 j) (.ok (rangeD 0 j.toNat) st) .bad := nr rfl
@[simp] theorem q_range1 (f : M D) (sl : List Slot) (mu : List Cell) : mRange1 (mCons f mNil) ⟨sl, mu⟩ = (f ⟨sl, mu⟩).bind fun d st1 => toRange1 d st1 := by
  unfold mRange1 toRange1
  rw [show mCons f mNil ⟨sl, mu⟩ = (f ⟨sl, mu⟩).bind fun x st1 => .ok [x] st1 from rfl]
  cases h : f ⟨sl, mu⟩ with
  | ok a s => cases a <;> simp [sel]
  | er e s => rfl
  | bad => rfl
@[simp] theorem q_range2 (f g : M D) (sl : List Slot) (mu : List Cell) : mRange2 (mCons f (mCons g mNil)) ⟨sl, mu⟩ = (f ⟨sl, mu⟩).bind fun x st1 => (g st1).bind fun y st2 => toRange [x, y] st2 := by
  unfold mRange2
  rw [show mCons f (mCons g mNil) ⟨sl, mu⟩ = (f ⟨sl, mu⟩).bind fun x st1 => (g st1).bind fun y st2 => .ok [x, y] st2 from by
    show (f _).bind _ = _
    congr 1
    funext x st1
    show ((g st1).bind _).bind _ = _
    cases g st1 <;> rfl]
  cases h : f ⟨sl, mu⟩ with
  | ok a s =>
    simp only [R.bind_ok]
    cases h2 : g s with
    | ok b s2 => simp only [R.bind_ok]; cases a <;> cases b <;> simp [toRange, sel]
    | er e s => rfl
    | bad => rfl
  | er e s => rfl
  | bad => rfl
@[simp] theorem sel_small (j : Int) {α : Type} (x y : α) (h1 : -(2 ^ 62) ≤ j) (h2 : j < 2 ^ 62) : sel (small62 j) x y = x := by
  unfold small62
  rw [decide_eq_true h1, decide_eq_true h2]
  rfl
def mAndV (f g : M D) : M D := fun st => (mBool f st).bind fun c st1 => if c then g st1 else .ok (.bl false) st1
def mOrV (f g : M D) : M D := fun st => (mBool f st).bind fun c st1 => if c then .ok (.bl true) st1 else g st1
def mNotV (f : M D) : M D := fun st => (mBool f st).bind fun b st1 => .ok (.bl (!b)) st1
section
variable (f g : M D) (sl : List Slot) (mu : List Cell)
@[simp] theorem q_andV : mAndV f g ⟨sl, mu⟩ = (mBool f ⟨sl, mu⟩).bind fun x st1 => selM x g (fun st => .ok (.bl false) st) st1 := nr rfl
@[simp] theorem q_orV : mOrV f g ⟨sl, mu⟩ = (mBool f ⟨sl, mu⟩).bind fun x st1 => selM x (fun st => .ok (.bl true) st) g st1 := nr rfl
@[simp] theorem q_notV : mNotV f ⟨sl, mu⟩ = (mBool f ⟨sl, mu⟩).bind fun b st1 => .ok (.bl (!b)) st1 := nr rfl
end
def toEnum (d : D) (st : ES) : R (List D) := wO (enumOf d) fun xs => .ok xs st
@[simp] theorem toEnum_str (s : List Nat) (st : ES) : toEnum (.str s) st = .ok (enumD (signsD s)) st := nr rfl
@[simp] theorem toEnum_lst (s : List D) (st : ES) : toEnum (.lst s) st = .ok (enumD s) st := nr rfl
@[simp] theorem toEnum_lk (s : List D) (st : ES) : toEnum (.lk s) st = .ok (enumD s) st := nr rfl
@[simp] theorem q_enum (f : M D) (sl : List Slot) (mu : List Cell) : mEnum (mCons f mNil) ⟨sl, mu⟩ = (f ⟨sl, mu⟩).bind fun d st1 => toEnum d st1 := by
  unfold mEnum toEnum
  rw [show mCons f mNil ⟨sl, mu⟩ = (f ⟨sl, mu⟩).bind fun x st1 => .ok [x] st1 from rfl]
  cases h : f ⟨sl, mu⟩ with
  | ok a s =>
    simp only [R.bind_ok]
    cases enumOf a <;> rfl
  | er e s => rfl
  | bad => rfl
/-- a def's run -/
def retR (a : Fl) (s : ES) : R D := defR a s
@[simp] theorem retR_rt (d : D) (s : ES) : retR (.rt d) s = .ok d ⟨[], s.mu⟩ := nr rfl
@[simp] theorem retR_nx (s : ES) : retR .nx s = .ok .non ⟨[], s.mu⟩ := nr rfl
def outR (r : R Fl) : R D := match r with
  | .ok a s => defR a s
  | .er e s => .er e ⟨[], s.mu⟩
  | .bad => .bad
@[simp] theorem outR_rt (d : D) (s : ES) : outR (.ok (.rt d) s) = .ok d ⟨[], s.mu⟩ := nr rfl
@[simp] theorem outR_nx (s : ES) : outR (.ok .nx s) = .ok .non ⟨[], s.mu⟩ := nr rfl
@[simp] theorem outR_er (e : Exc) (s : ES) : outR (.er e s) = .er e ⟨[], s.mu⟩ := nr rfl
theorem run_eq (m np : Nat) (body : MS) (ds : List D) (mu : List Cell) (h : ds.length = np) : runDef m np body ds mu = outR (body ⟨ds.map .va ++ List.replicate (m - np) .un, mu⟩) := by
  unfold runDef
  rw [if_pos h]
  rfl
@[simp] theorem repl_lit (n : Nat) (s : Slot) : List.replicate (n + 1) s = s :: List.replicate n s := nr rfl
@[simp] theorem run_0 (m : Nat) (body : MS) (mu : List Cell) : runDef m 0 body [] mu = outR (body ⟨List.replicate (m - 0) .un, mu⟩) := run_eq _ _ _ _ _ rfl
@[simp] theorem run_1 (m : Nat) (body : MS) (d0 : D) (mu : List Cell) : runDef m 1 body [d0] mu = outR (body ⟨.va d0 :: List.replicate (m - 1) .un, mu⟩) := run_eq _ _ _ _ _ rfl
@[simp] theorem run_2 (m : Nat) (body : MS) (d0 d1 : D) (mu : List Cell) : runDef m 2 body [d0, d1] mu = outR (body ⟨.va d0 :: .va d1 :: List.replicate (m - 2) .un, mu⟩) := run_eq _ _ _ _ _ rfl
@[simp] theorem run_3 (m : Nat) (body : MS) (d0 d1 d2 : D) (mu : List Cell) : runDef m 3 body [d0, d1, d2] mu = outR (body ⟨.va d0 :: .va d1 :: .va d2 :: List.replicate (m - 3) .un, mu⟩) := run_eq _ _ _ _ _ rfl
@[simp] theorem run_4 (m : Nat) (body : MS) (d0 d1 d2 d3 : D) (mu : List Cell) : runDef m 4 body [d0, d1, d2, d3] mu = outR (body ⟨.va d0 :: .va d1 :: .va d2 :: .va d3 :: List.replicate (m - 4) .un, mu⟩) := run_eq _ _ _ _ _ rfl
@[simp] theorem run_5 (m : Nat) (body : MS) (d0 d1 d2 d3 d4 : D) (mu : List Cell) : runDef m 5 body [d0, d1, d2, d3, d4] mu = outR (body ⟨.va d0 :: .va d1 :: .va d2 :: .va d3 :: .va d4 :: List.replicate (m - 5) .un, mu⟩) := run_eq _ _ _ _ _ rfl
@[simp] theorem run_6 (m : Nat) (body : MS) (d0 d1 d2 d3 d4 d5 : D) (mu : List Cell) : runDef m 6 body [d0, d1, d2, d3, d4, d5] mu = outR (body ⟨.va d0 :: .va d1 :: .va d2 :: .va d3 :: .va d4 :: .va d5 :: List.replicate (m - 6) .un, mu⟩) := run_eq _ _ _ _ _ rfl
@[simp] theorem run_7 (m : Nat) (body : MS) (d0 d1 d2 d3 d4 d5 d6 : D) (mu : List Cell) : runDef m 7 body [d0, d1, d2, d3, d4, d5, d6] mu = outR (body ⟨.va d0 :: .va d1 :: .va d2 :: .va d3 :: .va d4 :: .va d5 :: .va d6 :: List.replicate (m - 7) .un, mu⟩) := run_eq _ _ _ _ _ rfl
/-- a def that answers, and changes nothing -/
abbrev Ret (h : Fn) (ds : List D) (d : D) : Prop := ∀ mu, h ds mu = .ok d ⟨[], mu⟩
/-! ### what the words say of plain data -/
section
variable (mu : List Cell)
@[simp] theorem dBin_add (x y : D) : dBin .Add mu x y = dAdd mu x y := nr rfl
@[simp] theorem dBin_sub (x y : D) : dBin .Sub mu x y = dSub mu x y := nr rfl
@[simp] theorem dBin_mul (x y : D) : dBin .Mult mu x y = dMul mu x y := nr rfl
@[simp] theorem dBin_div (x y : D) : dBin .FloorDiv mu x y = dDiv mu x y := nr rfl
@[simp] theorem dBin_mod (x y : D) : dBin .Mod mu x y = dMod mu x y := nr rfl
@[simp] theorem dBin_pow (x y : D) : dBin .Pow mu x y = dPow mu x y := nr rfl
@[simp] theorem dBin_shr (x y : D) : dBin .RShift mu x y = dShr mu x y := nr rfl
@[simp] theorem dCmp_eq (x y : D) : dCmp .Eq mu x y = dEq mu x y := nr rfl
@[simp] theorem dCmp_ne (x y : D) : dCmp .NotEq mu x y = dNe mu x y := nr rfl
@[simp] theorem dCmp_lt (x y : D) : dCmp .Lt mu x y = dOrd (fun i j => decide (i < j)) mu x y := nr rfl
@[simp] theorem dCmp_le (x y : D) : dCmp .LtE mu x y = dLe mu x y := nr rfl
@[simp] theorem dLe_int (i j : Int) : dLe mu (.int i) (.int j) = some (.bl (decide (i ≤ j))) := nr rfl
@[simp] theorem dLe_sign (i j : Nat) : dLe mu (.str [i]) (.str [j]) = some (.bl (decide (i ≤ j))) := nr rfl
@[simp] theorem dCmp_gt (x y : D) : dCmp .Gt mu x y = dOrd (fun i j => decide (j < i)) mu x y := nr rfl
@[simp] theorem dCmp_ge (x y : D) : dCmp .GtE mu x y = dOrd (fun i j => decide (j ≤ i)) mu x y := nr rfl
@[simp] theorem dCmp_in (x y : D) : dCmp .In mu x y = dIn mu x y := nr rfl
@[simp] theorem dCmp_nin (x y : D) : dCmp .NotIn mu x y = dNotIn mu x y := nr rfl
@[simp] theorem dCmp_is (x y : D) : dCmp .Is mu x y = dIsN mu x y := nr rfl
@[simp] theorem dCmp_isn (x y : D) : dCmp .IsNot mu x y = dIsNotN mu x y := nr rfl
@[simp] theorem dAdd_int (i j : Int) : dAdd mu (.int i) (.int j) = some (.int (i + j)) := nr rfl
@[simp] theorem dAdd_str (s t : List Nat) (h : s.length + t.length ≤ lim) : dAdd mu (.str s) (.str t) = some (.str (s ++ t)) := if_pos h
@[simp] theorem dAdd_lst (s t : List D) (h : s.length + t.length ≤ lim) : dAdd mu (.lst s) (.lst t) = some (.lst (s ++ t)) := if_pos h
@[simp] theorem dAdd_tup (s t : List D) (h : s.length + t.length ≤ lim) : dAdd mu (.tup s) (.tup t) = some (.tup (s ++ t)) := if_pos h
@[simp] theorem dSub_int (i j : Int) : dSub mu (.int i) (.int j) = some (.int (i - j)) := nr rfl
theorem nat_big : 10 ^ 200 < big := by decide +kernel
theorem natAbs_of {i : Int} {n : Nat} (h : -(n : Int) ≤ i) (h2 : i ≤ n) : i.natAbs ≤ n := by omega
theorem natAbs_big {i : Int} (h : -(10 ^ 200) ≤ i) (h2 : i ≤ 10 ^ 200) : i.natAbs < big := Nat.lt_of_le_of_lt (natAbs_of (by
  have e : ((10 ^ 200 : Nat) : Int) = 10 ^ 200 := by decide +kernel
  rw [e]; exact h) (by
  have e : ((10 ^ 200 : Nat) : Int) = 10 ^ 200 := by decide +kernel
  rw [e]; exact h2)) nat_big
/-- a number that may be multiplied -/
def Sm (i : Int) : Prop := -(10 ^ 200) ≤ i ∧ i ≤ 10 ^ 200
theorem Sm.of {i : Int} (h : -(10 ^ 190) ≤ i) (h2 : i ≤ 10 ^ 190) : Sm i := by
  unfold Sm
  omega
@[simp] theorem Sm_lit (n : Nat) (h : n ≤ 10 ^ 190) : Sm (no_index (OfNat.ofNat n : Int)) := by
  have : ((OfNat.ofNat n : Int)) = (n : Int) := rfl
  rw [this]
  exact .of (by omega) (by omega)
@[simp] theorem Sm_neg (n : Nat) (h : n ≤ 10 ^ 190) : Sm (-(no_index (OfNat.ofNat n : Int))) := by
  have : ((OfNat.ofNat n : Int)) = (n : Int) := rfl
  rw [this]
  exact .of (by omega) (by omega)
@[simp] theorem dMul_int (i j : Int) (h : Sm i) (h2 : Sm j) : dMul mu (.int i) (.int j) = some (.int (i * j)) := if_pos ⟨natAbs_big h.1 h.2, natAbs_big h2.1 h2.2⟩
@[simp] theorem dDiv_int (i j : Int) (h : 0 < j) (h2 : Sm j) : dDiv mu (.int i) (.int j) = some (.int (i / j)) := if_pos ⟨h, natAbs_big h2.1 h2.2⟩
@[simp] theorem dMod_int (i j : Int) (h : 0 < j) : dMod mu (.int i) (.int j) = some (.int (i % j)) := if_pos h
@[simp] theorem dShr_int (i j : Int) (h : 0 ≤ j) : dShr mu (.int i) (.int j) = some (.int (i / 2 ^ j.toNat)) := if_pos h
@[simp] theorem dOrd_int (k : Int → Int → Bool) (i j : Int) : dOrd k mu (.int i) (.int j) = some (.bl (k i j)) := nr rfl
@[simp] theorem dIsN_non (x : D) : dIsN mu x .non = some (.bl (isNon x)) := nr rfl
@[simp] theorem dIsNotN_non (x : D) : dIsNotN mu x .non = some (.bl (!isNon x)) := nr rfl
@[simp] theorem isNon_non : isNon .non = true := nr rfl
@[simp] theorem isNon_str (s : List Nat) : isNon (.str s) = false := nr rfl
@[simp] theorem isNon_int (s : Int) : isNon (.int s) = false := nr rfl
@[simp] theorem isNon_bl (s : Bool) : isNon (.bl s) = false := nr rfl
@[simp] theorem isNon_tup (s : List D) : isNon (.tup s) = false := nr rfl
@[simp] theorem isNon_lst (s : List D) : isNon (.lst s) = false := nr rfl
@[simp] theorem isStr_str (s : List Nat) : isStr (.str s) = true := nr rfl
@[simp] theorem lenD_str (s : List Nat) : lenD (.str s) = some s.length := nr rfl
@[simp] theorem lenD_lst (s : List D) : lenD (.lst s) = some s.length := nr rfl
@[simp] theorem lenD_lk (s : List D) : lenD (.lk s) = some s.length := nr rfl
@[simp] theorem lenD_tup (s : List D) : lenD (.tup s) = some s.length := nr rfl
@[simp] theorem kdOf_non : kdOf mu .non = some .non := nr rfl
@[simp] theorem kdOf_bl (b : Bool) : kdOf mu (.bl b) = some .bool := nr rfl
@[simp] theorem kdOf_int (b : Int) : kdOf mu (.int b) = some .int := nr rfl
@[simp] theorem kdOf_str (b : List Nat) : kdOf mu (.str b) = some .str := nr rfl
@[simp] theorem kdOf_tup (b : List D) : kdOf mu (.tup b) = some .tuple := nr rfl
@[simp] theorem kdOf_lst (b : List D) : kdOf mu (.lst b) = some .list := nr rfl
@[simp] theorem kdOf_lk (b : List D) : kdOf mu (.lk b) = some .list := nr rfl
@[simp] theorem kMax_int (i j : Int) : kMax mu [.int i, .int j] = some (.int (max i j)) := by
  show some (D.int (if j > i then j else i)) = _
  congr 2
  split <;> omega
@[simp] theorem kMin_int (i j : Int) : kMin mu [.int i, .int j] = some (.int (min i j)) := by
  show some (D.int (if j < i then j else i)) = _
  congr 2
  split <;> omega
@[simp] theorem kLen_one (d : D) : kLen mu [d] = (lenD d).map fun n : Nat => D.int (n : Int) := by
  unfold kLen
  cases h : lenD d <;> simp [h]
theorem kStr_int (i : Int) (h : i.natAbs < 2 ^ 64) (h2 : okSb (intS i) = true) : kStr mu [.int i] = some (.str (intS i)) := if_pos ⟨h, h2⟩
@[simp] theorem dMul_str (s : List Nat) (n : Int) (h : 0 ≤ n) (h1 : n ≤ 1000000) (h2 : s.length * n.toNat ≤ lim) : dMul mu (.str s) (.int n) = some (.str (List.replicate n.toNat s).flatten) := if_pos ⟨h, h1, h2⟩
@[simp] theorem kTuple_lst (xs : List D) : kTuple mu [.lst xs] = some (.tup xs) := nr rfl
@[simp] theorem kList_lst (xs : List D) : kList mu [.lst xs] = some (.lst xs) := nr rfl
theorem str_eqv (s t : List Nat) : eqv (.str s) (.str t) = decide (s = t) := by
  show PyData.eqv (.str _) (.str _) = _
  unfold PyData.eqv
  by_cases h : s = t
  · subst h
    simp
  · rw [decide_eq_false h]
    simp [h]
theorem int_eqv (s t : Int) : eqv (.int s) (.int t) = decide (s = t) := by
  show PyData.eqv (.int _) (.int _) = _
  unfold PyData.eqv
  by_cases h : s = t
  · subst h
    simp
  · rw [decide_eq_false h]
    simp [h]
@[simp] theorem dEq_str (s t : List Nat) : dEq mu (.str s) (.str t) = some (.bl (decide (s = t))) := by
  show some (D.bl (eqv (.str s) (.str t))) = _
  rw [str_eqv]
@[simp] theorem dNe_str (s t : List Nat) : dNe mu (.str s) (.str t) = some (.bl (!decide (s = t))) := by
  show some (D.bl (!eqv (.str s) (.str t))) = _
  rw [str_eqv]
@[simp] theorem dEq_int (s t : Int) : dEq mu (.int s) (.int t) = some (.bl (decide (s = t))) := by
  show some (D.bl (eqv (.int s) (.int t))) = _
  rw [int_eqv]
@[simp] theorem dNe_int (s t : Int) : dNe mu (.int s) (.int t) = some (.bl (!decide (s = t))) := by
  show some (D.bl (!eqv (.int s) (.int t))) = _
  rw [int_eqv]
@[simp] theorem dIn_sign (t : List Nat) (c : Nat) : dIn mu (.str [c]) (.str t) = some (.bl (t.contains c)) := nr rfl
@[simp] theorem dNotIn_sign (t : List Nat) (c : Nat) : dNotIn mu (.str [c]) (.str t) = some (.bl (!t.contains c)) := nr rfl
theorem atI_nat {α : Type} (xs : List α) (n : Nat) : atI xs (n : Int) = xs[n]? := by
  unfold atI ixN
  by_cases h : n < xs.length
  · rw [if_pos (by omega), if_pos (by omega)]
    rfl
  · rw [if_pos (by omega), if_neg (by omega)]
    simp at h
    simp [h]
theorem dIx_str {u : List Nat} {i : Int} {n c : Nat} (hi : i = n) (h : u[n]? = some c) : dIx mu (.str u) (.int i) = some (.str [c]) := by
  subst hi
  show (atI u _).map _ = _
  rw [atI_nat, h]
  rfl
theorem dIx_lst {u : List D} {i : Int} {n : Nat} {c : D} (hi : i = n) (h : u[n]? = some c) : dIx mu (.lst u) (.int i) = some c := by
  subst hi
  show atI u _ = _
  rw [atI_nat, h]
theorem dIx_lk {u : List D} {i : Int} {n : Nat} {c : D} (hi : i = n) (h : u[n]? = some c) : dIx mu (.lk u) (.int i) = some c := by
  subst hi
  show atI u _ = _
  rw [atI_nat, h]
theorem dIx_tup {u : List D} {i : Int} {n : Nat} {c : D} (hi : i = n) (h : u[n]? = some c) : dIx mu (.tup u) (.int i) = some c := by
  subst hi
  show atI u _ = _
  rw [atI_nat, h]
theorem cutL_nat {α : Type} (xs : List α) (a b : Nat) : cutL xs (some (a : Int)) (some (b : Int)) = (xs.drop a).take (b - a) := by
  unfold cutL
  rw [HT.sIx_nat, HT.sIx_nat]
  by_cases h : a ≤ xs.length
  · rw [Nat.min_eq_left h]
    by_cases h2 : b ≤ xs.length
    · rw [Nat.min_eq_left h2]
    · rw [Nat.min_eq_right (by omega)]
      rw [List.take_of_length_le (by simp), List.take_of_length_le (by simp; omega)]
  · rw [Nat.min_eq_right (by omega : xs.length ≤ a), List.drop_eq_nil_of_le (Nat.le_refl _), List.drop_eq_nil_of_le (by omega)]
    simp
theorem cutL_to {α : Type} (xs : List α) (b : Nat) : cutL xs none (some (b : Int)) = xs.take b := by
  unfold cutL
  rw [HT.sIx_nat, HT.sIx_none]
  simp
theorem cutL_from {α : Type} (xs : List α) (a : Nat) : cutL xs (some (a : Int)) none = xs.drop a := by
  unfold cutL
  rw [HT.sIx_nat, HT.sIx_none]
  by_cases h : a ≤ xs.length
  · rw [Nat.min_eq_left h, List.take_of_length_le (by simp)]
  · rw [Nat.min_eq_right (by omega : xs.length ≤ a), List.drop_eq_nil_of_le (Nat.le_refl _), List.drop_eq_nil_of_le (by omega)]
    simp
@[simp] theorem dCut_str (s : List Nat) (lo hi : Option Int) : dCut (.str s) lo hi = some (.str (cutL s lo hi)) := nr rfl
@[simp] theorem dCut_lst (s : List D) (lo hi : Option Int) : dCut (.lst s) lo hi = some (.lst (cutL s lo hi)) := nr rfl
@[simp] theorem dCut_lk (s : List D) (lo hi : Option Int) : dCut (.lk s) lo hi = some (.lst (cutL s lo hi)) := nr rfl
@[simp] theorem dCut_tup (s : List D) (lo hi : Option Int) : dCut (.tup s) lo hi = some (.tup (cutL s lo hi)) := nr rfl
theorem dIndex_of {s : List Nat} {c : Nat} (h : c ∈ s) : dIndex mu (.str s) (.str [c]) = some (.int (s.idxOf c)) := by
  show (if s.contains c then _ else _) = _
  rw [if_pos (by simpa using h)]
theorem strsOf_map {α : Type} (f : α → List Nat) : ∀ xs : List α, strsOf (xs.map fun x => .str (f x)) = some (xs.map f)
  | [] => rfl
  | x :: xs => by
    show (strsOf (xs.map fun x => .str (f x))).map _ = _
    rw [strsOf_map f xs]
    rfl
theorem joinS_nil : ∀ xs : List (List Nat), joinS [] xs = xs.flatten
  | [] => rfl
  | [x] => by simp [joinS]
  | x :: y :: r => by
    show x ++ [] ++ joinS [] (y :: r) = _
    rw [joinS_nil (y :: r)]
    simp
theorem dJoin_map {α : Type} {f : α → List Nat} {xs : List α} (h : (xs.map fun x => (f x).length).sum ≤ lim) : dJoin mu (.str []) (.lst (xs.map fun x => .str (f x))) = some (.str (xs.flatMap f)) := by
  unfold dJoin
  show (match strsOf (xs.map fun x => .str (f x)) with | _ => _) = _
  rw [strsOf_map]
  have e : ((xs.map f).map (·.length)).sum + (xs.map f).length * ([] : List Nat).length = (xs.map fun x => (f x).length).sum := by
    simp [Function.comp_def]
  show (if _ then _ else _) = _
  rw [if_pos (by rw [e]; exact h), joinS_nil]
  simp [List.flatMap]
theorem dJoin_signs {α : Type} {f : α → Nat} {xs : List α} (h : xs.length ≤ lim) : dJoin mu (.str []) (.lst (xs.map fun x => .str [f x])) = some (.str (xs.map f)) := by
  have e : ∀ xs : List α, (xs.map fun x => ([f x] : List Nat).length).sum = xs.length := fun xs => by
    induction xs with
    | nil => rfl
    | cons x xs ih =>
      rw [List.map_cons, List.sum_cons, ih]
      show 1 + xs.length = xs.length + 1
      omega
  have e2 : ∀ xs : List α, xs.flatMap (fun x => [f x]) = xs.map f := fun xs => by
    induction xs with
    | nil => rfl
    | cons x xs ih => simp [List.flatMap_cons, ih]
  rw [dJoin_map mu (f := fun x => [f x]) (xs := xs) (by rw [e]; exact h), e2]
end
/-! ### loops -/
/-- a run that ends, and what holds then -/
def Ok {α : Type} (r : R α) (Q : α → ES → Prop) : Prop := ∃ a s, r = .ok a s ∧ Q a s
theorem Ok.ret {α : Type} {a : α} {s : ES} {Q : α → ES → Prop} (h : Q a s) : Ok (.ok a s) Q := ⟨a, s, rfl, h⟩
theorem Ok.imp {α : Type} {r : R α} {Q Q' : α → ES → Prop} (h : Ok r Q) (i : ∀ a s, Q a s → Q' a s) : Ok r Q' := let ⟨a, s, e, q⟩ := h; ⟨a, s, e, i a s q⟩
theorem Ok.bind {α β : Type} {r : R α} {f : α → ES → R β} {Q : β → ES → Prop} (h : Ok r fun a s => Ok (f a s) Q) : Ok (r.bind f) Q := by
  obtain ⟨a, s, e, b, s', e', q⟩ := h
  exact ⟨b, s', by rw [e, R.bind_ok, e'], q⟩
theorem ok_loop {T : Tg} {body : MS} {Q : Fl → ES → Prop} (Inv : Nat → ES → Prop) (xs : List D)
    (hs : ∀ i x st, xs[i]? = some x → Inv i st → ∃ sl1, T.put x st.sl = some sl1 ∧ Ok (body ⟨sl1, st.mu⟩) fun a s => match a with
      | .nx => Inv (i + 1) s
      | .ct => Inv (i + 1) s
      | .bk => Q .nx s
      | .rt d => Q (.rt d) s)
    (he : ∀ st, Inv xs.length st → Q .nx st) {st : ES} (h0 : Inv 0 st) : Ok (loop T body xs st) Q := by
  suffices ∀ (ys : List D) (k : Nat) (st : ES), (∀ i, ys[i]? = xs[k + i]?) → k + ys.length = xs.length → Inv k st → Ok (loop T body ys st) Q from this xs 0 st (fun i => by simp) (by simp) h0
  intro ys
  induction ys with
  | nil =>
    intro k st _ hl hI
    have : k = xs.length := by simpa using hl
    subst this
    exact Ok.ret (he st hI)
  | cons y ys ih =>
    intro k st hg hl hI
    have hx : xs[k]? = some y := by have := hg 0; simpa using this.symm
    obtain ⟨sl1, e, a, s, e2, q⟩ := hs k y st hx hI
    have go : Inv (k + 1) s → Ok (loop T body ys s) Q := fun hI2 => ih (k + 1) s (fun i => by have := hg (i + 1); rw [show k + 1 + i = k + (i + 1) by omega]; simpa using this) (by simp at hl; omega) hI2
    unfold loop
    rw [e]
    show Ok ((body _).bind _) Q
    rw [e2, R.bind_ok]
    cases a with
    | nx => exact go q
    | ct => exact go q
    | bk => exact Ok.ret q
    | rt d => exact Ok.ret q
theorem ok_while {c : M Bool} {body : MS} {Q : Fl → ES → Prop} (Inv : ES → Prop) (me : ES → Nat)
    (hs : ∀ st, Inv st → ∃ b st1, c st = .ok b st1 ∧ if b then Ok (body st1) (fun a s => match a with
      | .nx => Inv s ∧ me s < me st
      | .ct => Inv s ∧ me s < me st
      | .bk => Q .nx s
      | .rt d => Q (.rt d) s) else Q .nx st1) {n : Nat} {st : ES} (h0 : Inv st) (hn : me st < n) : Ok (sWhile n c body st) Q := by
  show Ok (whileM c body n st) Q
  induction n generalizing st with
  | zero => omega
  | succ n ih =>
    obtain ⟨b, st1, e, h⟩ := hs st h0
    unfold whileM
    rw [e, R.bind_ok]
    cases b with
    | false => exact Ok.ret h
    | true =>
      obtain ⟨a, s, e2, q⟩ := (show Ok (body st1) _ from h)
      show Ok ((body st1).bind _) Q
      rw [e2, R.bind_ok]
      cases a with
      | nx => exact ih q.1 (by omega)
      | ct => exact ih q.1 (by omega)
      | bk => exact Ok.ret q
      | rt d => exact Ok.ret q
theorem compLoop_map {α : Type} {i : Nat} {c : M Bool} {elt : M D} {sl : List Slot} {mu : List Cell} {f : α → D} {p : α → Bool} {g : α → D} : ∀ (ys : List α) (acc : List D) (sl' : List Slot), sl'.set i .un = sl.set i .un → acc.length + ys.length ≤ lim →
    (∀ y ∈ ys, c ⟨sl.set i (.va (f y)), mu⟩ = .ok (p y) ⟨sl.set i (.va (f y)), mu⟩ ∧ (p y = true → elt ⟨sl.set i (.va (f y)), mu⟩ = .ok (g y) ⟨sl.set i (.va (f y)), mu⟩)) →
    ∃ sl2, sl2.set i .un = sl.set i .un ∧ compLoop (.nm i) c elt [i] (ys.map f) acc ⟨sl', mu⟩ = .ok (acc ++ (ys.filter p).map g) ⟨sl2, mu⟩
  | [], acc, sl', h1, h2, h3 => ⟨sl', h1, by simp [compLoop]⟩
  | y :: ys, acc, sl', h1, h2, h3 => by
    obtain ⟨hc, he⟩ := h3 y (by simp)
    have e1 : (wipeS sl' [i]).set i (.va (f y)) = sl.set i (.va (f y)) := by
      show (sl'.set i .un).set i _ = _
      rw [h1, List.set_set]
    have e2 : (sl.set i (.va (f y))).set i .un = sl.set i .un := by rw [List.set_set]
    show ∃ sl2, _ ∧ compLoop _ c elt [i] (f y :: ys.map f) acc ⟨sl', mu⟩ = _
    unfold compLoop
    show ∃ sl2, _ ∧ (noEr (c ⟨(wipeS sl' [i]).set i (.va (f y)), mu⟩)).bind _ = _
    rw [e1, hc]
    show ∃ sl2, _ ∧ (if p y then _ else _) = _
    cases hp : p y with
    | false =>
      obtain ⟨sl2, q1, q2⟩ := compLoop_map ys acc (sl.set i (.va (f y))) e2 (by simp at h2; omega) (fun z hz => h3 z (by simp [hz]))
      exact ⟨sl2, q1, by simp only [Bool.false_eq_true, if_false]; rw [q2]; simp [hp]⟩
    | true =>
      obtain ⟨sl2, q1, q2⟩ := compLoop_map ys (acc ++ [g y]) (sl.set i (.va (f y))) e2 (by simp at h2 ⊢; omega) (fun z hz => h3 z (by simp [hz]))
      refine ⟨sl2, q1, ?_⟩
      simp only [if_true]
      rw [he hp]
      show (if acc.length < lim then _ else _) = _
      rw [if_pos (by simp at h2; omega), q2]
      simp [hp]
/-- a comprehension over one name -/
theorem mComp_map {α : Type} {its : M (List D)} {i : Nat} {c : M Bool} {elt : M D} {st : ES} {sl : List Slot} {mu : List Cell} (f : α → D) (p : α → Bool) (g : α → D) (ys : List α) (hi : its st = .ok (ys.map f) ⟨sl, mu⟩)
    (hsl : sl[i]? = some .un ∨ ∃ d, sl[i]? = some (.va d)) (hl : ys.length ≤ lim)
    (h : ∀ y ∈ ys, c ⟨sl.set i (.va (f y)), mu⟩ = .ok (p y) ⟨sl.set i (.va (f y)), mu⟩ ∧ (p y = true → elt ⟨sl.set i (.va (f y)), mu⟩ = .ok (g y) ⟨sl.set i (.va (f y)), mu⟩)) :
    mComp its (.nm i) c elt [i] st = .ok ((ys.filter p).map g) ⟨sl, mu⟩ := by
  unfold mComp
  rw [hi, R.bind_ok]
  obtain ⟨sl2, q1, q2⟩ := compLoop_map (sl := sl) ys [] sl rfl (by simpa using hl) h
  rw [q2, R.bind_ok]
  have : restS sl (wipeS sl2 [i]) [i] = sl := by
    show (sl2.set i .un).set i _ = _
    rw [q1, List.set_set]
    have back : ∀ z : Slot, sl[i]? = some z → sl.set i z = sl := fun z e => by
      obtain ⟨hl, e⟩ := List.getElem?_eq_some_iff.mp e
      rw [← e]
      exact List.set_getElem_self hl
    rcases hsl with e | ⟨d, e⟩
    · rw [e]
      exact back _ e
    · rw [e]
      exact back _ e
  simp [this]
@[simp] theorem le_lim {n : Nat} : n ≤ lim ↔ n ≤ 16000000 := ⟨fun h => h, fun h => h⟩
@[simp] theorem lt_lim {n : Nat} : n < lim ↔ n < 16000000 := ⟨fun h => h, fun h => h⟩
/-! loops that go through to the end, and change no shared object -/
theorem loop_list {α : Type} {T : Tg} {body : MS} {mu : List Cell} (Inv : List α → List Slot → Prop) (f : α → D) : ∀ (xs pre : List α) {sl : List Slot},
    (∀ pre' c post sl, pre ++ xs = pre' ++ c :: post → Inv pre' sl → ∃ sl1, T.put (f c) sl = some sl1 ∧ ∃ sl' a, (a = .nx ∨ a = .ct) ∧ body ⟨sl1, mu⟩ = .ok a ⟨sl', mu⟩ ∧ Inv (pre' ++ [c]) sl') → Inv pre sl →
    ∃ sl', loop T body (xs.map f) ⟨sl, mu⟩ = .ok .nx ⟨sl', mu⟩ ∧ Inv (pre ++ xs) sl'
  | [], pre, sl, h, h0 => ⟨sl, rfl, by simpa using h0⟩
  | x :: xs, pre, sl, h, h0 => by
    obtain ⟨sl1, e1, sl', a, ha, e2, h2⟩ := h pre x xs sl rfl h0
    obtain ⟨sl2, e3, h3⟩ := loop_list Inv f xs (pre ++ [x]) (sl := sl') (fun pre' c post sl e i => h pre' c post sl (by rw [← e]; simp) i) h2
    refine ⟨sl2, ?_, by simpa using h3⟩
    rw [List.map_cons]
    unfold loop
    rw [e1]
    show ((body _).bind _) = _
    rw [e2, R.bind_ok]
    rcases ha with rfl | rfl
    · exact e3
    · exact e3
/-- for x in xs -/
theorem for_list {α : Type} {i : Nat} {its : M (List D)} {body : MS} {st : ES} {sl : List Slot} {mu : List Cell} (Inv : List α → List Slot → Prop) (f : α → D) (xs : List α) (hi : its st = .ok (xs.map f) ⟨sl, mu⟩)
    (h : ∀ pre c post sl, xs = pre ++ c :: post → Inv pre sl → ∃ sl', body ⟨sl.set i (.va (f c)), mu⟩ = .ok .nx ⟨sl', mu⟩ ∧ Inv (pre ++ [c]) sl') (h0 : Inv [] sl) : ∃ sl', sFor (.nm i) its body st = .ok .nx ⟨sl', mu⟩ ∧ Inv xs sl' := by
  obtain ⟨sl', e, q⟩ := loop_list (T := .nm i) (body := body) (mu := mu) Inv f xs [] (sl := sl) (fun pre' c post sl e i => by
    obtain ⟨sl', e2, q⟩ := h pre' c post sl e i
    exact ⟨_, rfl, sl', .nx, .inl rfl, e2, q⟩) h0
  refine ⟨sl', ?_, by simpa using q⟩
  show ((its st).bind _) = _
  rw [hi, R.bind_ok]
  exact e
/-- for c in text -/
theorem for_signs {i : Nat} {its : M (List D)} {body : MS} {st : ES} {sl : List Slot} {mu : List Cell} (Inv : List Nat → List Slot → Prop) (t : List Nat) (hi : its st = .ok (signsD t) ⟨sl, mu⟩)
    (h : ∀ pre c post sl, t = pre ++ c :: post → Inv pre sl → ∃ sl', body ⟨sl.set i (.va (.str [c])), mu⟩ = .ok .nx ⟨sl', mu⟩ ∧ Inv (pre ++ [c]) sl') (h0 : Inv [] sl) : ∃ sl', sFor (.nm i) its body st = .ok .nx ⟨sl', mu⟩ ∧ Inv t sl' :=
  for_list Inv (fun c => .str [c]) t hi h h0
/-- for k in range(n) -/
theorem for_range {i : Nat} {its : M (List D)} {body : MS} {st : ES} {sl : List Slot} {mu : List Cell} (Inv : Nat → List Slot → Prop) (lo : Int) (n : Nat) (hi : its st = .ok (rangeD lo n) ⟨sl, mu⟩)
    (h : ∀ k sl, k < n → Inv k sl → ∃ sl', body ⟨sl.set i (.va (.int (lo + (k : Nat)))), mu⟩ = .ok .nx ⟨sl', mu⟩ ∧ Inv (k + 1) sl') (h0 : Inv 0 sl) : ∃ sl', sFor (.nm i) its body st = .ok .nx ⟨sl', mu⟩ ∧ Inv n sl' := by
  obtain ⟨sl', e, q⟩ := for_list (i := i) (body := body) (mu := mu) (fun pre sl => Inv pre.length sl) (fun k : Nat => .int (lo + (k : Nat))) (List.range n) hi (fun pre c post sl e q => by
    have hc : c = pre.length := by
      have h1 : (List.range n)[pre.length]? = some c := by rw [e]; simp
      have h2 := List.getElem?_eq_some_iff.mp h1
      obtain ⟨h3, h4⟩ := h2
      simpa using h4.symm
    have hn : pre.length < n := by
      have := congrArg List.length e
      simp at this
      omega
    subst hc
    obtain ⟨sl', e2, q2⟩ := h pre.length sl hn q
    exact ⟨sl', e2, by simpa using q2⟩) h0
  exact ⟨sl', e, by simpa using q⟩
/-- while -/
theorem while_run {c : M Bool} {body : MS} {mu : List Cell} (Inv : Nat → List Slot → Prop) (n : Nat) (hs : ∀ k sl, k < n → Inv k sl → c ⟨sl, mu⟩ = .ok true ⟨sl, mu⟩ ∧ ∃ sl', body ⟨sl, mu⟩ = .ok .nx ⟨sl', mu⟩ ∧ Inv (k + 1) sl')
    (he : ∀ sl, Inv n sl → c ⟨sl, mu⟩ = .ok false ⟨sl, mu⟩) (hn : n < turns) {sl : List Slot} (h0 : Inv 0 sl) : ∃ sl', sWhile turns c body ⟨sl, mu⟩ = .ok .nx ⟨sl', mu⟩ ∧ Inv n sl' := by
  suffices ∀ (d k N : Nat) (sl : List Slot), k + d = n → d < N → Inv k sl → ∃ sl', whileM c body N ⟨sl, mu⟩ = .ok .nx ⟨sl', mu⟩ ∧ Inv n sl' from this n 0 turns sl (by omega) hn h0
  intro d
  induction d with
  | zero =>
    intro k N sl hk hN hI
    have : k = n := by omega
    subst this
    obtain ⟨N, rfl⟩ : ∃ m, N = m + 1 := ⟨N - 1, by omega⟩
    refine ⟨sl, ?_, hI⟩
    unfold whileM
    rw [he sl hI]
    rfl
  | succ d ih =>
    intro k N sl hk hN hI
    obtain ⟨N, rfl⟩ : ∃ m, N = m + 1 := ⟨N - 1, by omega⟩
    obtain ⟨e1, sl1, e2, h2⟩ := hs k sl (by omega) hI
    obtain ⟨sl2, e3, h3⟩ := ih (k + 1) N sl1 (by omega) (by omega) h2
    refine ⟨sl2, ?_, h3⟩
    unfold whileM
    rw [e1, R.bind_ok, if_pos rfl, e2, R.bind_ok]
    exact e3
/-- [.. for c in text ..] -/
theorem comp_signs {its : M (List D)} {i : Nat} {c : M Bool} {elt : M D} {st : ES} {sl : List Slot} {mu : List Cell} (p : Nat → Bool) (g : Nat → D) (t : List Nat) (hi : its st = .ok (signsD t) ⟨sl, mu⟩)
    (hsl : sl[i]? = some .un ∨ ∃ d, sl[i]? = some (.va d)) (hl : t.length ≤ lim)
    (h : ∀ y ∈ t, c ⟨sl.set i (.va (.str [y])), mu⟩ = .ok (p y) ⟨sl.set i (.va (.str [y])), mu⟩ ∧ (p y = true → elt ⟨sl.set i (.va (.str [y])), mu⟩ = .ok (g y) ⟨sl.set i (.va (.str [y])), mu⟩)) :
    mComp its (.nm i) c elt [i] st = .ok ((t.filter p).map g) ⟨sl, mu⟩ := mComp_map (fun c => .str [c]) p g t hi hsl hl h
/-- [.. for k in range(n)] -/
theorem comp_range {its : M (List D)} {i : Nat} {elt : M D} {st : ES} {sl : List Slot} {mu : List Cell} (g : Nat → D) (n : Nat) (hi : its st = .ok (rangeD 0 n) ⟨sl, mu⟩)
    (hsl : sl[i]? = some .un ∨ ∃ d, sl[i]? = some (.va d)) (hl : n ≤ lim)
    (h : ∀ k, k < n → elt ⟨sl.set i (.va (.int (k : Nat))), mu⟩ = .ok (g k) ⟨sl.set i (.va (.int (k : Nat))), mu⟩) :
    mComp its (.nm i) mYes elt [i] st = .ok ((List.range n).map g) ⟨sl, mu⟩ := by
  have := mComp_map (its := its) (i := i) (c := mYes) (elt := elt) (st := st) (sl := sl) (mu := mu) (fun k : Nat => .int (0 + (k : Nat))) (fun _ => true) g (List.range n) hi hsl (by simpa using hl) (fun k hk => ⟨rfl, fun _ => by
    have := h k (by simpa using hk)
    simpa using this⟩)
  rw [this]
  congr 2
  simp
/-! ### exceptions -/
def xCon (d : D) : Exc → Option D := fun _ => some d
def xFld (tab : List Str) (f : Str) : Exc → Option D := fun ex => if tab.contains ex.c then ex.fs.lookup f else none
def xNil : Exc → Option (List D) := fun _ => some []
def xCons (f : Exc → Option D) (fs : Exc → Option (List D)) : Exc → Option (List D) := fun ex => (f ex).bind fun x => (fs ex).map (x :: ·)
def xTup (fs : Exc → Option (List D)) : Exc → Option D := fun ex => (fs ex).bind fun ds => if ds.length ≤ lim then some (.tup ds) else none
def xLst (fs : Exc → Option (List D)) : Exc → Option D := fun ex => (fs ex).bind fun ds => if ds.length ≤ lim then some (.lst ds) else none
def tryK (i : Nat) (sub : Str → Option Bool) (f : Exc → Option D) (r : R Fl) : R Fl := match r with
  | .er ex st1 => (match sub ex.c with
    | some true => if i < st1.sl.length then (match f ex with
      | some d => .ok (.rt d) ⟨st1.sl.set i .un, st1.mu⟩
      | none => .bad) else .bad
    | some false => .er ex st1
    | none => .bad)
  | r => r
@[simp] theorem q_tryR (i : Nat) (sub : Str → Option Bool) (f : Exc → Option D) (body : MS) (sl : List Slot) (mu : List Cell) : sTryR i sub f body ⟨sl, mu⟩ = tryK i sub f (body ⟨sl, mu⟩) := by
  unfold sTryR tryK
  cases body ⟨sl, mu⟩ <;> rfl
@[simp] theorem tryK_ok (i : Nat) (sub : Str → Option Bool) (f : Exc → Option D) (a : Fl) (s : ES) : tryK i sub f (.ok a s) = .ok a s := nr rfl
theorem tryK_er {i : Nat} {sub : Str → Option Bool} {f : Exc → Option D} {ex : Exc} {sl : List Slot} {mu : List Cell} {d : D} (h : sub ex.c = some true) (h2 : f ex = some d) (h3 : i < sl.length) : tryK i sub f (.er ex ⟨sl, mu⟩) = .ok (.rt d) ⟨sl.set i .un, mu⟩ := by
  unfold tryK
  simp [h, h2, h3]
def tryXK (i : Nat) (sub : Str → Option Bool) (u : XSu) (r : R Fl) : R Fl := match r with
  | .er ex st1 => (match sub ex.c with
    | some true => if i < st1.sl.length then (match u ex with
      | some (some d) => .ok (.rt d) ⟨st1.sl.set i .un, st1.mu⟩
      | some none => .ok .nx ⟨st1.sl.set i .un, st1.mu⟩
      | none => .bad) else .bad
    | some false => .er ex st1
    | none => .bad)
  | r => r
@[simp] theorem q_tryX (i : Nat) (sub : Str → Option Bool) (u : XSu) (body : MS) (sl : List Slot) (mu : List Cell) : sTryX i sub u body ⟨sl, mu⟩ = tryXK i sub u (body ⟨sl, mu⟩) := by
  unfold sTryX tryXK
  cases body ⟨sl, mu⟩ <;> rfl
@[simp] theorem tryXK_ok (i : Nat) (sub : Str → Option Bool) (u : XSu) (a : Fl) (s : ES) : tryXK i sub u (.ok a s) = .ok a s := nr rfl
theorem tryXK_rt {i : Nat} {sub : Str → Option Bool} {u : XSu} {ex : Exc} {sl : List Slot} {mu : List Cell} {d : D} (h : sub ex.c = some true) (h2 : u ex = some (some d)) (h3 : i < sl.length) : tryXK i sub u (.er ex ⟨sl, mu⟩) = .ok (.rt d) ⟨sl.set i .un, mu⟩ := by
  unfold tryXK
  simp [h, h2, h3]
theorem tryXK_nx {i : Nat} {sub : Str → Option Bool} {u : XSu} {ex : Exc} {sl : List Slot} {mu : List Cell} (h : sub ex.c = some true) (h2 : u ex = some none) (h3 : i < sl.length) : tryXK i sub u (.er ex ⟨sl, mu⟩) = .ok .nx ⟨sl.set i .un, mu⟩ := by
  unfold tryXK
  simp [h, h2, h3]
def raiseK (c : Str) (fs : List (Str × Nat)) (np : Nat) (ds : List D) (st : ES) : R Fl := if ds.length = np ∧ np ≤ 900 ∧ fsIn fs np = true then .er ⟨c, putD ds fs []⟩ st else .bad
@[simp] theorem q_raise (c : Str) (fs : List (Str × Nat)) (np : Nat) (args : M (List D)) (sl : List Slot) (mu : List Cell) : sRaise c fs np args ⟨sl, mu⟩ = (args ⟨sl, mu⟩).bind fun ds st1 => raiseK c fs np ds st1 := nr rfl
@[simp] theorem raiseK_1 (c f : Str) (d : D) (st : ES) : raiseK c [(f, 1)] 1 [d] st = .er ⟨c, [(f, d)]⟩ st := nr rfl
def extK (i : Nat) (y : D) (st : ES) : R D := match y with
  | .lst ys => wO (acO st.sl[i]?) fun xs => sel (decide (xs.length + ys.length ≤ lim)) (.ok .non ⟨st.sl.set i (.ac (xs ++ ys)), st.mu⟩) .bad
  | _ => .bad
@[simp] theorem extK_lst (i : Nat) (ys : List D) (sl : List Slot) (mu : List Cell) : extK i (.lst ys) ⟨sl, mu⟩ = wO (acO sl[i]?) fun xs => sel (decide (xs.length + ys.length ≤ lim)) (.ok .non ⟨sl.set i (.ac (xs ++ ys)), mu⟩) .bad := nr rfl
@[simp] theorem q_extend (i : Nat) (g : M D) (sl : List Slot) (mu : List Cell) : mExtend i g ⟨sl, mu⟩ = wO (acO sl[i]?) fun _ => (g ⟨sl, mu⟩).bind fun y st1 => extK i y st1 := by
  unfold mExtend extK sel
  cases h : sl[i]? with
  | none => rfl
  | some s =>
    cases s with
    | ac xs =>
      show (g ⟨sl, mu⟩).bind _ = (g ⟨sl, mu⟩).bind _
      congr 1
      funext y st1
      cases y with
      | lst ys =>
        cases h1 : st1.sl[i]? with
        | none => rfl
        | some s => cases s <;> simp [acO, wO]
      | _ => rfl
    | un => rfl
    | va d => rfl
    | ex c fs => rfl
end Pv
/-! Pv16: how the laws draw. -/
namespace Pv
open PySem PySem.Spec L2
/-! the signs -/
def SIGNS : List Nat := [32, 33, 34, 35, 36, 38, 39, 40, 41, 42, 43, 44, 45, 46, 47, 48, 49, 50, 51, 52, 53, 54, 55, 56, 57, 58, 59, 60, 61, 62, 63, 64, 65, 66, 67, 68, 69, 70, 71, 72, 73, 74, 75, 76, 77, 78, 79, 80, 81, 82, 83, 84, 85, 86, 87, 88, 89, 90, 91, 92, 93, 94, 95, 96, 97, 98, 99, 100, 101, 102, 103, 104, 105, 106, 107, 108, 109, 110, 111, 112, 113, 114, 115, 116, 117, 118, 119, 120, 121, 122, 123, 124, 125, 126]
def FIGS : List Nat := [48, 49, 50, 51, 52, 53, 54, 55, 56, 57]
def SIGNSA : List Nat := [32, 33, 34, 35, 36, 38, 39, 40, 41, 42, 43, 44, 45, 46, 47, 48, 49, 50, 51, 52, 53, 54, 55, 56, 57, 58, 59, 60, 61, 62, 63, 64, 65, 66, 67, 68, 69, 70, 71, 72, 73, 74, 75, 76, 77, 78, 79, 80, 81, 82, 83, 84, 85, 86, 87, 88, 89, 90]
def SIGNSB : List Nat := [91, 92, 93, 94, 95, 96, 97, 98, 99, 100, 101, 102, 103, 104, 105, 106, 107, 108, 109, 110, 111, 112, 113, 114, 115, 116, 117, 118, 119, 120, 121, 122, 123, 124, 125, 126]
def SIGNSC : List Nat := [32, 33, 34, 35, 36, 38, 39, 40, 41, 42, 43, 44, 45, 46, 47, 48, 49, 50, 51, 52, 53, 54, 55, 56, 57, 58, 59, 60, 61, 62, 63, 64]
def SIGNSD : List Nat := [65, 66, 67, 68, 69, 70, 71, 72, 73, 74, 75, 76, 77, 78, 79, 80, 81, 82, 83, 84, 85, 86, 87, 88, 89, 90, 91, 92, 93, 94, 95, 96, 97, 98, 99, 100, 101, 102, 103, 104, 105, 106, 107, 108, 109, 110, 111, 112, 113, 114, 115, 116, 117, 118, 119, 120, 121, 122, 123, 124, 125, 126]
def LETS : List Nat := [97, 98, 99, 100, 101, 102, 103, 104, 105, 106, 107, 108, 109, 110, 111, 112, 113, 114, 115, 116, 117, 118, 119, 120, 121, 122]
def WORDS : List Nat := [97, 98, 99, 100, 101, 102, 103, 104, 105, 106, 107, 108, 109, 110, 111, 112, 113, 114, 115, 116, 117, 118, 119, 120, 121, 122, 48, 49, 50, 51, 52, 53, 54, 55, 56, 57, 45]
def FIGSEMI : List Nat := [48, 49, 50, 51, 52, 53, 54, 55, 56, 57, 59]
def ASEND : List Nat := [60, 47, 97, 115, 105, 115, 62]
theorem SIGNS_ab : SIGNSA ++ SIGNSB = SIGNS := by decide
theorem SIGNS_cd : SIGNSC ++ SIGNSD = SIGNS := by decide
theorem SIGNS_len : SIGNS.length = 94 := by decide
theorem SIGNS_ok : ∀ c ∈ SIGNS, c < 127 := by decide
theorem FIGS_at : ∀ d, d < 10 → FIGS[d]? = some (48 + d) := by decide
theorem fig_div (mu : List Cell) {n : Nat} (h : n < 100) : dIx mu (.str FIGS) (.int ((n : Int) / 10)) = some (.str [48 + n / 10]) := dIx_str mu (n := n / 10) (by omega) (FIGS_at _ (by omega))
theorem fig_mod (mu : List Cell) {n : Nat} : dIx mu (.str FIGS) (.int ((n : Int) % 10)) = some (.str [48 + n % 10]) := dIx_str mu (n := n % 10) (by omega) (FIGS_at _ (by omega))
theorem idx_lt {c : Nat} (h : c ∈ SIGNS) : SIGNS.idxOf c < 94 := by
  have := List.idxOf_lt_length_of_mem h
  rwa [SIGNS_len] at this
theorem sign_at {c : Nat} (h : c ∈ SIGNS) : SIGNS[SIGNS.idxOf c]? = some c := by
  have h1 := List.idxOf_lt_length_of_mem h
  rw [List.getElem?_eq_getElem h1, List.getElem_idxOf h1]
/-- the number that a pure def tells -/
def valI (h : Fn) (ds : List D) : Int := match h ds [] with
  | .ok (.int r) _ => r
  | _ => 0
theorem ret_valI {h : Fn} {ds : List D} {P : Int → Prop} (e : ∃ r, Ret h ds (.int r) ∧ P r) : Ret h ds (.int (valI h ds)) ∧ P (valI h ds) := by
  obtain ⟨r, hr, hp⟩ := e
  have : valI h ds = r := by
    unfold valI
    rw [hr]
  rw [this]
  exact ⟨hr, hp⟩
def dlit (xs : List Int) : M (List D) := match xs with
  | [] => mNil
  | x :: r => mCons (mPure (.int x)) (dlit r)
/-- cell of the script, as most laws draw it -/
def wCell : MS :=
  (sSeq (mIte (mBool (mOp2 (dCmp .Lt) (mVar 1) (mLenV 0)))
  (sRet (mOp2 (dBin .Mod) (mOpV dIx 0 (mVar 1)) (mOp2 (dBin .Mult) (mOp2 (dBin .Mult) (mOp2 (dBin .Pow) (mPure (.int 10)) (mPure (.int 60))) (mOp2 (dBin .Pow) (mPure (.int 10)) (mPure (.int 60)))) (mOp2 (dBin .Pow) (mPure (.int 10)) (mPure (.int 60))))))
  sNext)
  (sSeq (sSet 2 (mOp2 (dBin .Add) (mOp2 (dBin .Mult) (mPure (.int 7919)) (mVar 1)) (mPure (.int 11))))
  (sSeq (mIte (mBool (mOp2 (dCmp .Gt) (mLenV 0) (mPure (.int 0))))
  (sSet 2 (mOp2 (dBin .Add) (mOp2 (dBin .Mult) (mOp2 (dBin .Mod) (mOpV dIx 0 (mOp2 (dBin .Mod) (mOp2 (dBin .Mult) (mVar 1) (mPure (.int 7))) (mLenV 0))) (mOp2 (dBin .Pow) (mPure (.int 10)) (mPure (.int 60)))) (mPure (.int 48271))) (mOp2 (dBin .Mult) (mOp2 (dBin .Mult) (mVar 1) (mVar 1)) (mPure (.int 69621)))))
  sNext)
  (sRet (mOp2 (dBin .Mod) (mOp2 (dBin .Mult) (mOp2 (dBin .Mod) (mVar 2) (mPure (.int 2147483647))) (mPure (.int 16807))) (mPure (.int 2147483629)))))))
def wMix : MS :=
  (sSeq (mIte (mAnd (mBool (mOp2 (dCmp .Eq) (mOp2 (dBin .Mod) (mVar 0) (mPure (.int 2))) (mPure (.int 0)))) (mAnd (mBool (mOp2 (dCmp .Gt) (mVar 0) (mOp2 (dBin .Pow) (mPure (.int 10)) (mPure (.int 18))))) (mBool (mOp2 (dCmp .Gt) (mOp2 (dBin .RShift) (mVar 0) (mOp2 (dBin .Add) (mOp2 (dBin .Mult) (mPure (.int 7)) (mVar 1)) (mPure (.int 8)))) (mPure (.int 0))))))
  (sRet (mOp2 (dBin .Mod) (mOp2 (dBin .RShift) (mVar 0) (mOp2 (dBin .Add) (mOp2 (dBin .Mult) (mPure (.int 7)) (mVar 1)) (mPure (.int 1)))) (mVar 2)))
  sNext)
  (sSeq (sSet 3 (mOp2 dIx (mLst (mDisp (dlit [1000000007, 1181783503, 1372345291, 1518500279, 1636201513, 1734723539, 1871234567, 2012345681]))) (mOp2 (dBin .Mod) (mVar 1) (mPure (.int 8)))))
  (sSeq (sSet 4 (mOp2 dIx (mLst (mDisp (dlit [100000000003, 223606797763, 314159265359, 414213562379, 577215664943, 693147180563, 732050807573]))) (mOp2 (dBin .Mod) (mVar 1) (mPure (.int 7)))))
  (sSeq (sSet 5 (mOp2 (dBin .Mod) (mOp2 (dBin .Mult) (mOp2 (dBin .Add) (mOp2 (dBin .Mod) (mOp2 (dBin .Add) (mVar 0) (mOp2 (dBin .Mult) (mOp2 (dBin .Mult) (mVar 1) (mVar 1)) (mVar 1))) (mPure (.int 1000000000039))) (mPure (.int 1))) (mVar 3)) (mPure (.int 2147483629))))
  (sRet (mOp2 (dBin .Mod) (mOp2 (dBin .Mod) (mOp2 (dBin .Mult) (mOp2 (dBin .Add) (mVar 5) (mPure (.int 1))) (mVar 4)) (mPure (.int 999999999989))) (mVar 2)))))))
@[simp] theorem dPow_60 (mu : List Cell) : dPow mu (.int 10) (.int 60) = some (.int (10 ^ 60)) := by
  show (if (0 : Int) ≤ 60 ∧ (60 : Int) ≤ 1000000 ∧ Int.natAbs 10 < 2 ^ 64 then some (D.int (10 ^ Int.toNat 60)) else none) = _
  rw [if_pos (by decide)]
  rfl
@[simp] theorem dPow_18 (mu : List Cell) : dPow mu (.int 10) (.int 18) = some (.int (10 ^ 18)) := by
  show (if (0 : Int) ≤ 18 ∧ (18 : Int) ≤ 1000000 ∧ Int.natAbs 10 < 2 ^ 64 then some (D.int (10 ^ Int.toNat 18)) else none) = _
  rw [if_pos (by decide)]
  rfl
@[simp] theorem q_dlit (xs : List Int) (st : ES) : dlit xs st = .ok (xs.map .int) st := by
  induction xs with
  | nil => rfl
  | cons x xs ih =>
    show ((R.ok (D.int x) st).bind fun x st1 => (dlit xs st1).bind fun xs st2 => .ok (x :: xs) st2) = _
    rw [R.bind_ok, ih]
    rfl
theorem lit_at {xs : List Int} {i : Int} (h0 : 0 ≤ i) (h1 : i < xs.length) : ∃ y, y ∈ xs ∧ ∀ mu, dIx mu (.lst (xs.map .int)) (.int i) = some (.int y) := by
  obtain ⟨n, rfl⟩ := Int.eq_ofNat_of_zero_le h0
  have hn : n < xs.length := by omega
  exact ⟨xs[n], List.getElem_mem hn, fun mu => dIx_lst mu rfl (by simp [hn])⟩
theorem lk_at {ns : List Int} {i : Int} (h0 : 0 ≤ i) (h1 : i < ns.length) (mu : List Cell) : dIx mu (.lk (ns.map .int)) (.int i) = some (.int (ns.getD i.toNat 0)) := by
  obtain ⟨n, rfl⟩ := Int.eq_ofNat_of_zero_le h0
  have hn : n < ns.length := by omega
  exact dIx_lk mu rfl (by simp [hn])
theorem mix_ok {c k m : Int} (hc : 0 ≤ c) (hc2 : c < 10 ^ 200) (hk : 0 ≤ k) (hk2 : k ≤ 100000) (hm : 0 < m) : ∃ r, Ret (runDef 6 3 wMix) [.int c, .int k, .int m] (.int r) ∧ 0 ≤ r ∧ r < m := by
  have a1 : 0 ≤ k % 8 := Int.emod_nonneg _ (by decide)
  have a2 : k % 8 < 8 := Int.emod_lt_of_pos _ (by decide)
  have a3 : 0 ≤ k % 7 := Int.emod_nonneg _ (by decide)
  have a4 : k % 7 < 7 := Int.emod_lt_of_pos _ (by decide)
  have b1 : k * k ≤ 100000 * 100000 := Int.mul_le_mul hk2 hk2 hk (by decide)
  have b0 : 0 ≤ k * k := Int.mul_nonneg hk hk
  have d0 : 0 ≤ 7 * k + 8 := by omega
  have d1 : 0 ≤ 7 * k + 1 := by omega
  by_cases h : c % 2 = 0 ∧ 1000000000000000000 < c ∧ 0 < c / 2 ^ (7 * k + 8).toNat
  · refine ⟨c / 2 ^ (7 * k + 1).toNat % m, fun mu => ?_, Int.emod_nonneg _ (by omega), Int.emod_lt_of_pos _ hm⟩
    simp [wMix, h, hm, d0, d1, show Sm (k) from .of (by omega) (by omega)]
  · have e1 : ∀ mu, mIte (mAnd (mBool (mOp2 (dCmp .Eq) (mOp2 (dBin .Mod) (mVar 0) (mPure (.int 2))) (mPure (.int 0)))) (mAnd (mBool (mOp2 (dCmp .Gt) (mVar 0) (mOp2 (dBin .Pow) (mPure (.int 10)) (mPure (.int 18))))) (mBool (mOp2 (dCmp .Gt) (mOp2 (dBin .RShift) (mVar 0) (mOp2 (dBin .Add) (mOp2 (dBin .Mult) (mPure (.int 7)) (mVar 1)) (mPure (.int 8)))) (mPure (.int 0))))))
        (sRet (mOp2 (dBin .Mod) (mOp2 (dBin .RShift) (mVar 0) (mOp2 (dBin .Add) (mOp2 (dBin .Mult) (mPure (.int 7)) (mVar 1)) (mPure (.int 1)))) (mVar 2))) sNext ⟨[.va (.int c), .va (.int k), .va (.int m), .un, .un, .un], mu⟩ = .ok .nx ⟨[.va (.int c), .va (.int k), .va (.int m), .un, .un, .un], mu⟩ := fun mu => by
      have n1 : Sm k := .of (by omega) (by omega)
      by_cases h1 : c % 2 = 0
      · by_cases h2 : 1000000000000000000 < c
        · have h3 : ¬ 0 < c / 2 ^ (7 * k + 8).toNat := fun z => h ⟨h1, h2, z⟩
          simp [h1, h2, h3, d0, n1]
        · simp [h1, h2]
      · simp [h1]
    obtain ⟨y1, m1, l1⟩ : ∃ y, y ∈ [1000000007, 1181783503, 1372345291, 1518500279, 1636201513, 1734723539, 1871234567, 2012345681] ∧ ∀ mu, dIx mu (.lst ([1000000007, 1181783503, 1372345291, 1518500279, 1636201513, 1734723539, 1871234567, 2012345681].map .int)) (.int (k % 8)) = some (.int y) := lit_at a1 a2
    obtain ⟨y2, m2, l2⟩ : ∃ y, y ∈ [100000000003, 223606797763, 314159265359, 414213562379, 577215664943, 693147180563, 732050807573] ∧ ∀ mu, dIx mu (.lst ([100000000003, 223606797763, 314159265359, 414213562379, 577215664943, 693147180563, 732050807573].map .int)) (.int (k % 7)) = some (.int y) := lit_at a3 a4
    have y1b : 0 ≤ y1 ∧ y1 ≤ 2012345681 := by
      have : ∀ y ∈ [(1000000007 : Int), 1181783503, 1372345291, 1518500279, 1636201513, 1734723539, 1871234567, 2012345681], 0 ≤ y ∧ y ≤ 2012345681 := by decide
      exact this y1 m1
    have y2b : 0 ≤ y2 ∧ y2 ≤ 732050807573 := by
      have : ∀ y ∈ [(100000000003 : Int), 223606797763, 314159265359, 414213562379, 577215664943, 693147180563, 732050807573], 0 ≤ y ∧ y ≤ 732050807573 := by decide
      exact this y2 m2
    have z0 : 0 ≤ (c + k * k * k) % 1000000000039 := Int.emod_nonneg _ (by decide)
    have z1 : (c + k * k * k) % 1000000000039 < 1000000000039 := Int.emod_lt_of_pos _ (by decide)
    generalize hx : ((c + k * k * k) % 1000000000039 + 1) * y1 % 2147483629 = x at *
    have x0 : 0 ≤ x := by rw [← hx]; exact Int.emod_nonneg _ (by decide)
    have x1 : x < 2147483629 := by rw [← hx]; exact Int.emod_lt_of_pos _ (by decide)
    refine ⟨(x + 1) * y2 % 999999999989 % m, fun mu => ?_, Int.emod_nonneg _ (by omega), Int.emod_lt_of_pos _ hm⟩
    simp only [List.map_cons, List.map_nil] at l1 l2
    unfold wMix
    simp [-q_ite, e1, l1, l2, hx, hm, lim, show Sm (k) from .of (by omega) (by omega), show Sm (k * k) from .of (by omega) (by omega),
      show Sm (y1) from .of (by omega) (by omega), show Sm (y2) from .of (by omega) (by omega), show Sm (x + 1) from .of (by omega) (by omega),
      show Sm ((c + k * k * k) % 1000000000039 + 1) from .of (by omega) (by omega)]
theorem cell_ok {ns : List Int} {k : Int} (hl : ns.length ≤ 63) (hk : 0 ≤ k) (hk2 : k ≤ 100000) : ∃ c, Ret (runDef 3 2 wCell) [.lk (ns.map .int), .int k] (.int c) ∧ 0 ≤ c ∧ c < 10 ^ 180 := by
  by_cases h : k < ns.length
  · refine ⟨ns.getD k.toNat 0 % (10 ^ 60 * 10 ^ 60 * 10 ^ 60), fun mu => ?_, Int.emod_nonneg _ (by decide +kernel), ?_⟩
    · simp [wCell, h, lk_at hk h]
    · exact Int.emod_lt_of_pos _ (by decide +kernel)
  · by_cases h0 : 0 < ns.length
    · have a1 : 0 ≤ k * 7 % (ns.length : Int) := Int.emod_nonneg _ (by omega)
      have a2 : k * 7 % (ns.length : Int) < ns.length := Int.emod_lt_of_pos _ (by omega)
      have b1 : k * k ≤ 100000 * 100000 := Int.mul_le_mul hk2 hk2 hk (by decide)
      have b0 : 0 ≤ k * k := Int.mul_nonneg hk hk
      generalize hy : ns.getD (k * 7 % (ns.length : Int)).toNat 0 % 10 ^ 60 = y at *
      have y0 : 0 ≤ y := by rw [← hy]; exact Int.emod_nonneg _ (by decide +kernel)
      have y1 : y < 10 ^ 60 := by rw [← hy]; exact Int.emod_lt_of_pos _ (by decide +kernel)
      have l1 := fun mu => lk_at (ns := ns) a1 a2 mu
      generalize hx : (y * 48271 + k * k * 69621) % 2147483647 = x at *
      have x0 : 0 ≤ x := by rw [← hx]; exact Int.emod_nonneg _ (by decide)
      have x1 : x < 2147483647 := by rw [← hx]; exact Int.emod_lt_of_pos _ (by decide)
      refine ⟨x * 16807 % 2147483629, fun mu => ?_, Int.emod_nonneg _ (by decide), Int.lt_trans (Int.emod_lt_of_pos _ (by decide)) (by decide +kernel)⟩
      simp at hy
      simp [wCell, h, h0, l1, hy, hx, show Sm (k) from .of (by omega) (by omega), show Sm (k * k) from .of (by omega) (by omega), show Sm (y) from .of (by omega) (by omega),
        show Sm (x) from .of (by omega) (by omega)]
    · have : ns = [] := by
        cases ns with
        | nil => rfl
        | cons a b => simp at h0
      subst this
      generalize hx : (7919 * k + 11) % 2147483647 = x at *
      have x0 : 0 ≤ x := by rw [← hx]; exact Int.emod_nonneg _ (by decide)
      have x1 : x < 2147483647 := by rw [← hx]; exact Int.emod_lt_of_pos _ (by decide)
      refine ⟨x * 16807 % 2147483629, fun mu => ?_, Int.emod_nonneg _ (by decide), Int.lt_trans (Int.emod_lt_of_pos _ (by decide)) (by decide +kernel)⟩
      simp [wCell, show ¬ k < 0 by omega, hx, show Sm (k) from .of (by omega) (by omega), show Sm (x) from .of (by omega) (by omega)]
/-- what stands at a drawn place -/
def pk {α : Type} [Inhabited α] (p : List α) (i : Int) : α := p[i.toNat]?.getD default
theorem pk_at {α : Type} [Inhabited α] {p : List α} {i : Int} (h0 : 0 ≤ i) (h1 : i < p.length) : p[i.toNat]? = some (pk p i) := by
  have hn : i.toNat < p.length := by omega
  unfold pk
  rw [List.getElem?_eq_getElem hn]
  rfl
theorem pk_mem {α : Type} [Inhabited α] {p : List α} {i : Int} (h0 : 0 ≤ i) (h1 : i < p.length) : pk p i ∈ p := List.mem_of_getElem? (pk_at h0 h1)
theorem str_at {p : List Nat} {i : Int} (h0 : 0 ≤ i) (h1 : i < p.length) (mu : List Cell) : dIx mu (.str p) (.int i) = some (.str [pk p i]) :=
  dIx_str mu (n := i.toNat) (by omega) (pk_at h0 h1)
theorem lst_at {p : List D} {i : Int} (h0 : 0 ≤ i) (h1 : i < p.length) (mu : List Cell) : dIx mu (.lst p) (.int i) = some (pk p i) :=
  dIx_lst mu (n := i.toNat) (by omega) (pk_at h0 h1)
theorem lstr_at {p : List (List Nat)} {i : Int} (h0 : 0 ≤ i) (h1 : i < p.length) (mu : List Cell) : dIx mu (.lst (p.map .str)) (.int i) = some (.str (pk p i)) :=
  dIx_lst mu (n := i.toNat) (by omega) (by rw [List.getElem?_map, pk_at h0 h1]; rfl)
theorem intS_fig : ∀ d, d < 10 → intS (d : Nat) = [48 + d] := by decide
theorem str_fig (mu : List Cell) {n : Nat} (h : n < 10) : kStr mu [.int (n : Nat)] = some (.str [48 + n]) := by
  have e := intS_fig n h
  rw [kStr_int mu n (by omega) (by rw [e]; simp [okSb]; omega), e]
theorem str_div (mu : List Cell) {n : Nat} (h : n < 100) : kStr mu [.int ((n : Int) / 10)] = some (.str [48 + n / 10]) := by
  rw [show (n : Int) / 10 = ((n / 10 : Nat) : Int) by omega]
  exact str_fig mu (by omega)
theorem str_mod (mu : List Cell) {n : Nat} : kStr mu [.int ((n : Int) % 10)] = some (.str [48 + n % 10]) := by
  rw [show (n : Int) % 10 = ((n % 10 : Nat) : Int) by omega]
  exact str_fig mu (by omega)
/-- the other way to draw -/
def wCell0 : MS :=
  (sSeq (mIte (mBool (mOp2 (dCmp .Lt) (mVar 1) (mLenV 0)))
  (sRet (mOpV dIx 0 (mVar 1)))
  sNext)
  (sRet (mPure (.int 0))))
def wMixed : MS :=
  (sSeq (sSet 2 (mOp2 dIx (mLst (mDisp (dlit [1000000007, 1181783503, 1372345291, 1518500279, 1636201513, 1734723539, 1871234567, 2012345681]))) (mOp2 (dBin .Mod) (mVar 1) (mPure (.int 8)))))
  (sSeq (sSet 3 (mOp2 dIx (mLst (mDisp (dlit [100000000003, 223606797763, 314159265359, 414213562379, 577215664943, 693147180563, 732050807573]))) (mOp2 (dBin .Mod) (mVar 1) (mPure (.int 7)))))
  (sSeq (sSet 4 (mOp2 (dBin .Mod) (mOp2 (dBin .Mult) (mOp2 (dBin .Add) (mOp2 (dBin .Mod) (mVar 0) (mPure (.int 1000000000039))) (mPure (.int 1))) (mVar 2)) (mPure (.int 2147483629))))
  (sRet (mOp2 (dBin .Mod) (mOp2 (dBin .Mult) (mOp2 (dBin .Add) (mVar 4) (mPure (.int 1))) (mVar 3)) (mPure (.int 999999999989)))))))
theorem cell0_ok {ns : List Int} {k : Int} (hk : 0 ≤ k) : ∃ c, Ret (runDef 2 2 wCell0) [.lk (ns.map .int), .int k] (.int c) := by
  by_cases h : k < ns.length
  · exact ⟨ns.getD k.toNat 0, fun mu => by simp [wCell0, h, lk_at hk h]⟩
  · exact ⟨0, fun mu => by simp [wCell0, h]⟩
theorem mixed_ok (c : Int) {k : Int} (hk : 0 ≤ k) : ∃ r, Ret (runDef 5 2 wMixed) [.int c, .int k] (.int r) ∧ 0 ≤ r ∧ r < 999999999989 := by
  have a1 : 0 ≤ k % 8 := Int.emod_nonneg _ (by decide)
  have a2 : k % 8 < 8 := Int.emod_lt_of_pos _ (by decide)
  have a3 : 0 ≤ k % 7 := Int.emod_nonneg _ (by decide)
  have a4 : k % 7 < 7 := Int.emod_lt_of_pos _ (by decide)
  obtain ⟨y1, m1, l1⟩ : ∃ y, y ∈ [1000000007, 1181783503, 1372345291, 1518500279, 1636201513, 1734723539, 1871234567, 2012345681] ∧ ∀ mu, dIx mu (.lst ([1000000007, 1181783503, 1372345291, 1518500279, 1636201513, 1734723539, 1871234567, 2012345681].map .int)) (.int (k % 8)) = some (.int y) := lit_at a1 a2
  obtain ⟨y2, m2, l2⟩ : ∃ y, y ∈ [100000000003, 223606797763, 314159265359, 414213562379, 577215664943, 693147180563, 732050807573] ∧ ∀ mu, dIx mu (.lst ([100000000003, 223606797763, 314159265359, 414213562379, 577215664943, 693147180563, 732050807573].map .int)) (.int (k % 7)) = some (.int y) := lit_at a3 a4
  have y1b : 0 ≤ y1 ∧ y1 ≤ 2012345681 := by
    have : ∀ y ∈ [(1000000007 : Int), 1181783503, 1372345291, 1518500279, 1636201513, 1734723539, 1871234567, 2012345681], 0 ≤ y ∧ y ≤ 2012345681 := by decide
    exact this y1 m1
  have y2b : 0 ≤ y2 ∧ y2 ≤ 732050807573 := by
    have : ∀ y ∈ [(100000000003 : Int), 223606797763, 314159265359, 414213562379, 577215664943, 693147180563, 732050807573], 0 ≤ y ∧ y ≤ 732050807573 := by decide
    exact this y2 m2
  have z0 : 0 ≤ c % 1000000000039 := Int.emod_nonneg _ (by decide)
  have z1 : c % 1000000000039 < 1000000000039 := Int.emod_lt_of_pos _ (by decide)
  generalize hx : (c % 1000000000039 + 1) * y1 % 2147483629 = x at *
  have x0 : 0 ≤ x := by rw [← hx]; exact Int.emod_nonneg _ (by decide)
  have x1 : x < 2147483629 := by rw [← hx]; exact Int.emod_lt_of_pos _ (by decide)
  refine ⟨(x + 1) * y2 % 999999999989, fun mu => ?_, Int.emod_nonneg _ (by omega), Int.emod_lt_of_pos _ (by decide)⟩
  simp only [List.map_cons, List.map_nil] at l1 l2
  unfold wMixed
  simp [l1, l2, hx, show Sm y1 from .of (by omega) (by omega), show Sm y2 from .of (by omega) (by omega), show Sm (x + 1) from .of (by omega) (by omega), show Sm (c % 1000000000039 + 1) from .of (by omega) (by omega)]
/-! defs that only choose: the whole tree at once -/
theorem selM_dec {α : Type} (P : Prop) [Decidable P] (x y : M α) (st : ES) : selM (decide P) x y st = if P then x st else y st := by
  unfold selM
  by_cases h : P <;> simp [h]
theorem selM_not {α : Type} (b : Bool) (x y : M α) (st : ES) : selM (!b) x y st = selM b y x st := by
  unfold selM
  cases b <;> rfl
theorem selM_ite {α : Type} (b : Bool) (x y : M α) (st : ES) : selM b x y st = if b = true then x st else y st := rfl
theorem bind_ite {α β : Type} (P : Prop) [Decidable P] (a b : R α) (f : α → ES → R β) : (if P then a else b).bind f = if P then a.bind f else b.bind f := by
  by_cases h : P <;> simp [h]
theorem outR_ite (P : Prop) [Decidable P] (a b : R Fl) : outR (if P then a else b) = if P then outR a else outR b := by
  by_cases h : P <;> simp [h]
theorem callR_ite (P : Prop) [Decidable P] (a b : R D) (st : ES) : callR (if P then a else b) st = if P then callR a st else callR b st := by
  by_cases h : P <;> simp [h]
@[simp] theorem q_asg (T : Tg) (f : M D) (sl : List Slot) (mu : List Cell) : sAsg T f ⟨sl, mu⟩ = (f ⟨sl, mu⟩).bind fun d st1 => wO (T.put d st1.sl) fun s => .ok .nx ⟨s, st1.mu⟩ := by
  unfold sAsg
  congr 1
  funext d st1
  cases T.put d st1.sl <;> rfl
@[simp] theorem put_nm (i : Nat) (d : D) (sl : List Slot) : Tg.put (.nm i) d sl = some (sl.set i (.va d)) := nr rfl
@[simp] theorem put_tp (is : List Nat) (ds : List D) (sl : List Slot) : Tg.put (.tp is) (.tup ds) sl = putAll is ds sl := nr rfl
@[simp] theorem putAll_nil (sl : List Slot) : putAll [] [] sl = some sl := nr rfl
@[simp] theorem putAll_cons (i : Nat) (is : List Nat) (d : D) (ds : List D) (sl : List Slot) : putAll (i :: is) (d :: ds) sl = putAll is ds (sl.set i (.va d)) := nr rfl
section
variable (mu : List Cell) (a b c d : D) (r : List D)
@[simp] theorem dIx_t0 : dIx mu (.tup (a :: r)) (.int 0) = some a := dIx_tup mu (n := 0) rfl rfl
@[simp] theorem dIx_t1 : dIx mu (.tup (a :: b :: r)) (.int 1) = some b := dIx_tup mu (n := 1) rfl rfl
@[simp] theorem dIx_t2 : dIx mu (.tup (a :: b :: c :: r)) (.int 2) = some c := dIx_tup mu (n := 2) rfl rfl
@[simp] theorem dIx_t3 : dIx mu (.tup (a :: b :: c :: d :: r)) (.int 3) = some d := dIx_tup mu (n := 3) rfl rfl
@[simp] theorem dIx_l0 : dIx mu (.lst (a :: r)) (.int 0) = some a := dIx_lst mu (n := 0) rfl rfl
@[simp] theorem dIx_l1 : dIx mu (.lst (a :: b :: r)) (.int 1) = some b := dIx_lst mu (n := 1) rfl rfl
@[simp] theorem dIx_l2 : dIx mu (.lst (a :: b :: c :: r)) (.int 2) = some c := dIx_lst mu (n := 2) rfl rfl
end
theorem dIx_last (mu : List Cell) {xs : List D} {d : D} (h : xs.getLast? = some d) : dIx mu (.tup xs) (.int (-1)) = some d := by
  show atI xs (-1) = _
  have hn : xs ≠ [] := fun z => by subst z; cases h
  have hl : 0 < xs.length := List.length_pos_iff.mpr hn
  unfold atI ixN
  rw [if_neg (by decide), if_pos (by omega)]
  rw [List.getLast?_eq_getElem?] at h
  show xs[((-1 : Int) + xs.length).toNat]? = _
  rw [show ((-1 : Int) + xs.length).toNat = xs.length - 1 by omega]
  exact h
theorem cutL_init {α : Type} (xs : List α) : cutL xs none (some (-1)) = xs.dropLast := by
  unfold cutL
  rw [HT.sIx_none]
  show (xs.drop 0).take (HT.sIx xs.length xs.length (some (-1)) - 0) = _
  have : HT.sIx xs.length xs.length (some (-1)) = xs.length - 1 := by
    unfold HT.sIx
    show (if (-1 : Int) < 0 then ((-1 : Int) + (xs.length : Int)).toNat else min (-1 : Int).toNat xs.length) = _
    rw [if_pos (by decide)]
    omega
  rw [this]
  simp [List.dropLast_eq_take]
/-! equality of plain trees -/
def eqvL (xs ys : List D) : Bool := PyData.eqvAll (pyAll xs) (pyAll ys)
section
variable (x y : D) (xs ys : List D) (s t : List Nat) (a b : List (List Nat)) (mu : List Cell)
@[simp] theorem eqv_tup : eqv (.tup xs) (.tup ys) = eqvL xs ys := by
  show PyData.eqv (.tuple _) (.tuple _) = _
  unfold PyData.eqv
  rfl
@[simp] theorem eqv_lst : eqv (.lst xs) (.lst ys) = eqvL xs ys := by
  show PyData.eqv (.list _) (.list _) = _
  unfold PyData.eqv
  rfl
@[simp] theorem eqvL_nn : eqvL [] [] = true := by
  show PyData.eqvAll [] [] = _
  unfold PyData.eqvAll
  rfl
@[simp] theorem eqvL_cc : eqvL (x :: xs) (y :: ys) = (eqv x y && eqvL xs ys) := by
  show PyData.eqvAll (pyOf x :: pyAll xs) (pyOf y :: pyAll ys) = _
  unfold PyData.eqvAll
  rfl
@[simp] theorem eqvL_nc : eqvL [] (y :: ys) = false := by
  show PyData.eqvAll [] (pyOf y :: pyAll ys) = _
  unfold PyData.eqvAll
  rfl
@[simp] theorem eqvL_cn : eqvL (x :: xs) [] = false := by
  show PyData.eqvAll (pyOf x :: pyAll xs) [] = _
  unfold PyData.eqvAll
  rfl
@[simp] theorem eqv_str' : eqv (.str s) (.str t) = decide (s = t) := str_eqv s t
@[simp] theorem eqv_int' (i j : Int) : eqv (.int i) (.int j) = decide (i = j) := int_eqv i j
@[simp] theorem eqv_nn : eqv .non .non = true := by
  show PyData.eqv .none .none = _
  unfold PyData.eqv
  rfl
@[simp] theorem eqv_bb (p q : Bool) : eqv (.bl p) (.bl q) = (p == q) := by
  show PyData.eqv (.bool p) (.bool q) = _
  unfold PyData.eqv
  rfl
@[simp] theorem eqv_ns : eqv .non (.str s) = false := by show PyData.eqv .none (.str _) = _; unfold PyData.eqv; rfl
@[simp] theorem eqv_sn : eqv (.str s) .non = false := by show PyData.eqv (.str _) .none = _; unfold PyData.eqv; rfl
@[simp] theorem eqv_nt : eqv .non (.tup xs) = false := by show PyData.eqv .none (.tuple _) = _; unfold PyData.eqv; rfl
@[simp] theorem eqv_tn : eqv (.tup xs) .non = false := by show PyData.eqv (.tuple _) .none = _; unfold PyData.eqv; rfl
@[simp] theorem eqv_ni (i : Int) : eqv .non (.int i) = false := by show PyData.eqv .none (.int _) = _; unfold PyData.eqv; rfl
@[simp] theorem eqv_in (i : Int) : eqv (.int i) .non = false := by show PyData.eqv (.int _) .none = _; unfold PyData.eqv; rfl
@[simp] theorem eqv_st : eqv (.str s) (.tup xs) = false := by show PyData.eqv (.str _) (.tuple _) = _; unfold PyData.eqv; rfl
@[simp] theorem eqv_ts : eqv (.tup xs) (.str s) = false := by show PyData.eqv (.tuple _) (.str _) = _; unfold PyData.eqv; rfl
@[simp] theorem eqvL_strs : ∀ a b : List (List Nat), eqvL (a.map .str) (b.map .str) = decide (a = b)
  | [], [] => by simp
  | [], y :: b => by simp
  | x :: a, [] => by simp
  | x :: a, y :: b => by
    rw [List.map_cons, List.map_cons, eqvL_cc, eqv_str', eqvL_strs a b]
    by_cases h : x = y <;> by_cases h2 : a = b <;> simp [h, h2]
@[simp] theorem eqvL_strs_nil : eqvL (a.map .str) [] = decide (a = []) := eqvL_strs a []
@[simp] theorem eqvL_nil_strs : eqvL [] (a.map .str) = decide ([] = a) := eqvL_strs [] a
@[simp] theorem isData_strs : isDataAll (a.map .str) = true := by
  induction a with
  | nil => rfl
  | cons x a ih => simp [isDataAll, isData, ih]
@[simp] theorem dep_strs : depAll (a.map .str) = 0 := by
  induction a with
  | nil => rfl
  | cons x a ih => simp [depAll, dep, ih]
theorem dEq_of (h : canEq x = true) (h2 : canEq y = true) : dEq mu x y = some (.bl (eqv x y)) := by unfold dEq; rw [h, h2]; rfl
theorem dNe_of (h : canEq x = true) (h2 : canEq y = true) : dNe mu x y = some (.bl (!eqv x y)) := by unfold dNe; rw [h, h2]; rfl
theorem dIn_tup_of (h : flatD x = true) (h2 : xs.all flatD = true) : dIn mu x (.tup xs) = some (.bl (xs.any fun y => eqv y x)) := by
  show (if (flatD x && xs.all flatD) = true then some (D.bl (dInL x xs)) else none) = _
  rw [h, h2]
  rfl
theorem dIn_lst_of (h : flatD x = true) (h2 : xs.all flatD = true) : dIn mu x (.lst xs) = some (.bl (xs.any fun y => eqv y x)) := by
  show (if (flatD x && xs.all flatD) = true then some (D.bl (dInL x xs)) else none) = _
  rw [h, h2]
  rfl
end
end Pv
/-! Pv18: more of plain trees, loops. -/
namespace Pv
open PySem PySem.Spec L2
@[simp] theorem kInt_true (mu : List Cell) : kInt mu [.bl true] = some (.int 1) := nr rfl
@[simp] theorem kInt_false (mu : List Cell) : kInt mu [.bl false] = some (.int 0) := nr rfl
@[simp] theorem kInt_int (mu : List Cell) (i : Int) : kInt mu [.int i] = some (.int i) := nr rfl
@[simp] theorem dIsN_bl (mu : List Cell) (a b : Bool) : dIsN mu (.bl a) (.bl b) = some (.bl (a == b)) := nr rfl
@[simp] theorem dIsNotN_bl (mu : List Cell) (a b : Bool) : dIsNotN mu (.bl a) (.bl b) = some (.bl (!(a == b))) := nr rfl
@[simp] theorem dMul_lst (mu : List Cell) (xs : List D) (n : Int) (h : 0 ≤ n) (h1 : n ≤ 1000000) (h2 : xs.length * n.toNat ≤ lim) : dMul mu (.lst xs) (.int n) = some (.lst (List.replicate n.toNat xs).flatten) := if_pos ⟨h, h1, h2⟩
@[simp] theorem dMul_tup (mu : List Cell) (xs : List D) (n : Int) (h : 2 ≤ n) (h1 : n ≤ 1000) (h2 : xs.length ≤ 1000) (h3 : xs.length ≠ 0) : dMul mu (.tup xs) (.int n) = some (.tup (List.replicate n.toNat xs).flatten) := if_pos ⟨h, h1, h2, h3⟩
@[simp] theorem dIx_l3 (mu : List Cell) (a b c d : D) (r : List D) : dIx mu (.lst (a :: b :: c :: d :: r)) (.int 3) = some d := dIx_lst mu (n := 3) rfl rfl
mutual
theorem eqv_self : ∀ d : D, eqv d d = true
  | .non => eqv_nn
  | .bl b => by simp
  | .int i => by simp
  | .str s => by simp
  | .tup xs => by rw [eqv_tup]; exact eqvL_self xs
  | .lst xs => by rw [eqv_lst]; exact eqvL_self xs
  | .lk xs => by
    show PyData.eqv (.list _) (.list _) = _
    unfold PyData.eqv
    exact eqvL_self xs
  | .ref n => by
    show PyData.eqv .none .none = _
    unfold PyData.eqv
    rfl
theorem eqvL_self : ∀ xs : List D, eqvL xs xs = true
  | [] => eqvL_nn
  | x :: xs => by rw [eqvL_cc, eqv_self x, eqvL_self xs]; rfl
end
theorem dEq_self {x : D} (mu : List Cell) (h : canEq x = true) : dEq mu x x = some (.bl true) := by rw [dEq_of _ _ _ h h, eqv_self]
theorem dNe_self {x : D} (mu : List Cell) (h : canEq x = true) : dNe mu x x = some (.bl false) := by rw [dNe_of _ _ _ h h, eqv_self]; rfl
@[simp] theorem isDataAll_app : ∀ xs ys : List D, isDataAll (xs ++ ys) = (isDataAll xs && isDataAll ys)
  | [], ys => rfl
  | x :: xs, ys => by simp [isDataAll, isDataAll_app xs ys, Bool.and_assoc]
@[simp] theorem depAll_app : ∀ xs ys : List D, depAll (xs ++ ys) = max (depAll xs) (depAll ys)
  | [], ys => by simp [depAll]
  | x :: xs, ys => by simp [depAll, depAll_app xs ys, Nat.max_assoc]
theorem depAll_le {n : Nat} : ∀ {xs : List D}, (∀ x ∈ xs, dep x ≤ n) → depAll xs ≤ n
  | [], _ => by simp [depAll]
  | x :: xs, h => by
    have h1 := h x (by simp)
    have h2 := depAll_le fun y hy => h y (List.mem_cons_of_mem x hy)
    simp only [depAll]
    omega
theorem isDataAll_of : ∀ {xs : List D}, (∀ x ∈ xs, isData x = true) → isDataAll xs = true
  | [], _ => rfl
  | x :: xs, h => by
    rw [isDataAll, h x (by simp), isDataAll_of fun y hy => h y (List.mem_cons_of_mem x hy)]
    rfl
/-- the end of a loop's turn -/
theorem turn_of {body : MS} {st : ES} {mu : List Cell} {P : List Slot → Prop} {sl : List Slot} {r : R Fl} (h : body st = r) (h2 : r = .ok .nx ⟨sl, mu⟩) (p : P sl) : ∃ sl', body st = .ok .nx ⟨sl', mu⟩ ∧ P sl' := ⟨sl, h.trans h2, p⟩
theorem range1_of {f : M D} {st st1 : ES} {n : Nat} {i : Int} (h : f st = .ok (.int i) st1) (e : i = n) (hn : n ≤ 1000000000) : mRange1 (mCons f mNil) st = .ok (rangeD 0 n) st1 := by
  subst e
  refine mRange1_of (j := (n : Int)) (st1 := st1) ?_ ?_
  · show (f st).bind _ = _
    rw [h]
    rfl
  · unfold small62
    rw [decide_eq_true (by omega), decide_eq_true (by omega)]
    rfl
/-- [.. for c in text ..], all of them -/
theorem comp_all {its : M (List D)} {i : Nat} {elt : M D} {st : ES} {sl : List Slot} {mu : List Cell} (g : Nat → D) (t : List Nat) (hi : its st = .ok (signsD t) ⟨sl, mu⟩) (hsl : sl[i]? = some .un ∨ ∃ d, sl[i]? = some (.va d)) (hl : t.length ≤ lim)
    (h : ∀ y, elt ⟨sl.set i (.va (.str [y])), mu⟩ = .ok (g y) ⟨sl.set i (.va (.str [y])), mu⟩) : mComp its (.nm i) mYes elt [i] st = .ok (t.map g) ⟨sl, mu⟩ := by
  have := comp_signs (its := its) (i := i) (c := mYes) (elt := elt) (st := st) (sl := sl) (mu := mu) (fun _ => true) g t hi hsl hl fun y _ => ⟨by simp, fun _ => h y⟩
  rw [List.filter_eq_self.mpr fun _ _ => rfl] at this
  exact this
/-! comprehensions over any target -/
theorem compLoop_gen {α : Type} {T : Tg} {vs : List Nat} {c : M Bool} {elt : M D} {W : List Slot} {mu : List Cell} {f : α → D} {p : α → Bool} {g : α → D} {slf : α → List Slot} : ∀ (ys : List α) (acc : List D) (sl' : List Slot), wipeS sl' vs = W → acc.length + ys.length ≤ lim →
    (∀ y ∈ ys, T.put (f y) W = some (slf y) ∧ wipeS (slf y) vs = W ∧ c ⟨slf y, mu⟩ = .ok (p y) ⟨slf y, mu⟩ ∧ (p y = true → elt ⟨slf y, mu⟩ = .ok (g y) ⟨slf y, mu⟩)) →
    ∃ sl2, wipeS sl2 vs = W ∧ compLoop T c elt vs (ys.map f) acc ⟨sl', mu⟩ = .ok (acc ++ (ys.filter p).map g) ⟨sl2, mu⟩
  | [], acc, sl', h1, h2, h3 => ⟨sl', h1, by simp [compLoop]⟩
  | y :: ys, acc, sl', h1, h2, h3 => by
    obtain ⟨hp, hw, hc, he⟩ := h3 y (by simp)
    rw [List.map_cons]
    unfold compLoop
    rw [h1, hp]
    show ∃ sl2, _ ∧ (noEr (c ⟨slf y, mu⟩)).bind _ = _
    rw [hc]
    show ∃ sl2, _ ∧ (if p y then _ else _) = _
    cases hpy : p y with
    | false =>
      obtain ⟨sl2, q1, q2⟩ := compLoop_gen ys acc (slf y) hw (by simp at h2 ⊢; omega) (fun z hz => h3 z (by simp [hz]))
      exact ⟨sl2, q1, by simp only [Bool.false_eq_true, if_false]; rw [q2]; simp [hpy]⟩
    | true =>
      obtain ⟨sl2, q1, q2⟩ := compLoop_gen ys (acc ++ [g y]) (slf y) hw (by simp at h2 ⊢; omega) (fun z hz => h3 z (by simp [hz]))
      refine ⟨sl2, q1, ?_⟩
      simp only [if_true]
      rw [he hpy]
      show (if acc.length < lim then _ else _) = _
      rw [if_pos (by simp at h2 ⊢; omega), q2]
      simp [hpy]
theorem mComp_gen {α : Type} {its : M (List D)} {T : Tg} {vs : List Nat} {c : M Bool} {elt : M D} {st : ES} {sl : List Slot} {mu : List Cell} (f : α → D) (p : α → Bool) (g : α → D) (slf : α → List Slot) (ys : List α) (hi : its st = .ok (ys.map f) ⟨sl, mu⟩) (hl : ys.length ≤ lim)
    (hr : restS sl (wipeS sl vs) vs = sl) (h : ∀ y ∈ ys, T.put (f y) (wipeS sl vs) = some (slf y) ∧ wipeS (slf y) vs = wipeS sl vs ∧ c ⟨slf y, mu⟩ = .ok (p y) ⟨slf y, mu⟩ ∧ (p y = true → elt ⟨slf y, mu⟩ = .ok (g y) ⟨slf y, mu⟩)) :
    mComp its T c elt vs st = .ok ((ys.filter p).map g) ⟨sl, mu⟩ := by
  unfold mComp
  rw [hi, R.bind_ok]
  obtain ⟨sl2, q1, q2⟩ := compLoop_gen (W := wipeS sl vs) ys [] sl rfl (by simpa using hl) h
  rw [q2, R.bind_ok, q1, hr]
  rfl
/-- a while that ends by a refusal -/
theorem while_er {c : M Bool} {body : MS} {mu : List Cell} {e : Exc} (Inv : Nat → List Slot → Prop) (n : Nat) (hs : ∀ k sl, k < n → Inv k sl → c ⟨sl, mu⟩ = .ok true ⟨sl, mu⟩ ∧ ∃ sl', body ⟨sl, mu⟩ = .ok .nx ⟨sl', mu⟩ ∧ Inv (k + 1) sl')
    (he : ∀ sl, Inv n sl → c ⟨sl, mu⟩ = .ok true ⟨sl, mu⟩ ∧ ∃ sl', body ⟨sl, mu⟩ = .er e ⟨sl', mu⟩) (hn : n < turns) {sl : List Slot} (h0 : Inv 0 sl) : ∃ sl', sWhile turns c body ⟨sl, mu⟩ = .er e ⟨sl', mu⟩ := by
  suffices ∀ (d k N : Nat) (sl : List Slot), k + d = n → d < N → Inv k sl → ∃ sl', whileM c body N ⟨sl, mu⟩ = .er e ⟨sl', mu⟩ from this n 0 turns sl (by omega) hn h0
  intro d
  induction d with
  | zero =>
    intro k N sl hk hN hI
    have : k = n := by omega
    subst this
    obtain ⟨N, rfl⟩ : ∃ m, N = m + 1 := ⟨N - 1, by omega⟩
    obtain ⟨e1, sl', e2⟩ := he sl hI
    refine ⟨sl', ?_⟩
    unfold whileM
    rw [e1, R.bind_ok, if_pos rfl, e2]
    rfl
  | succ d ih =>
    intro k N sl hk hN hI
    obtain ⟨N, rfl⟩ : ∃ m, N = m + 1 := ⟨N - 1, by omega⟩
    obtain ⟨e1, sl1, e2, h2⟩ := hs k sl (by omega) hI
    obtain ⟨sl2, e3⟩ := ih (k + 1) N sl1 (by omega) (by omega) h2
    refine ⟨sl2, ?_⟩
    unfold whileM
    rw [e1, R.bind_ok, if_pos rfl, e2, R.bind_ok]
    exact e3
/-- a loop over what a number makes -/
theorem loop_enum {T : Tg} {body : MS} {mu : List Cell} (Inv : Nat → List Slot → Prop) (f : Nat → D) (n : Nat) {sl : List Slot} (h : ∀ k sl, k < n → Inv k sl → ∃ sl1, T.put (f k) sl = some sl1 ∧ ∃ sl' a, (a = .nx ∨ a = .ct) ∧ body ⟨sl1, mu⟩ = .ok a ⟨sl', mu⟩ ∧ Inv (k + 1) sl') (h0 : Inv 0 sl) :
    ∃ sl', loop T body ((List.range n).map f) ⟨sl, mu⟩ = .ok .nx ⟨sl', mu⟩ ∧ Inv n sl' := by
  obtain ⟨sl', e, q⟩ := loop_list (T := T) (body := body) (mu := mu) (fun pre sl => Inv pre.length sl) f (List.range n) [] (sl := sl) (fun pre c post sl e q => by
    rw [List.nil_append] at e
    have hc : c = pre.length := by
      have h1 : (List.range n)[pre.length]? = some c := by rw [e]; simp
      obtain ⟨h3, h4⟩ := List.getElem?_eq_some_iff.mp h1
      simpa using h4.symm
    have hn : pre.length < n := by
      have := congrArg List.length e
      simp at this
      omega
    subst hc
    obtain ⟨sl1, e1, sl', a, ha, e2, q2⟩ := h pre.length sl hn q
    exact ⟨sl1, e1, sl', a, ha, e2, by simpa using q2⟩) h0
  exact ⟨sl', e, by simpa using q⟩
theorem enum_ints (xs : List Int) : enumD (xs.map .int) = (List.range xs.length).map fun k => .tup [.int (k : Nat), .int (xs.getD k 0)] := by
  unfold enumD
  apply List.ext_getElem?
  intro k
  rw [List.getElem?_mapIdx, List.getElem?_map, List.getElem?_map]
  by_cases h : k < xs.length
  · simp [h]
  · simp [h]
theorem int_two : ∀ a ∈ FIGS, ∀ b ∈ FIGS, PySem.intText? ⟨#[a, b]⟩ = some ((10 * (a - 48) + (b - 48) : Nat) : Int) := by decide +kernel
theorem kInt_two (mu : List Cell) {a b : Nat} (ha : a ∈ FIGS) (hb : b ∈ FIGS) : kInt mu [.str [a, b]] = some (.int ((10 * (a - 48) + (b - 48) : Nat) : Int)) := by
  show (if ([a, b] : List Nat).length ≤ 640 then (PySem.intText? ⟨#[a, b]⟩).map D.int else none) = _
  rw [int_two a ha b hb]
  rfl
/-- a while that ends by a return -/
theorem while_rt {c : M Bool} {body : MS} {mu : List Cell} {d : D} (Inv : Nat → List Slot → Prop) (n : Nat) (hs : ∀ k sl, k < n → Inv k sl → c ⟨sl, mu⟩ = .ok true ⟨sl, mu⟩ ∧ ∃ sl', body ⟨sl, mu⟩ = .ok .nx ⟨sl', mu⟩ ∧ Inv (k + 1) sl')
    (he : ∀ sl, Inv n sl → c ⟨sl, mu⟩ = .ok true ⟨sl, mu⟩ ∧ ∃ sl', body ⟨sl, mu⟩ = .ok (.rt d) ⟨sl', mu⟩) (hn : n < turns) {sl : List Slot} (h0 : Inv 0 sl) : ∃ sl', sWhile turns c body ⟨sl, mu⟩ = .ok (.rt d) ⟨sl', mu⟩ := by
  suffices ∀ (d' k N : Nat) (sl : List Slot), k + d' = n → d' < N → Inv k sl → ∃ sl', whileM c body N ⟨sl, mu⟩ = .ok (.rt d) ⟨sl', mu⟩ from this n 0 turns sl (by omega) hn h0
  intro d'
  induction d' with
  | zero =>
    intro k N sl hk hN hI
    have : k = n := by omega
    subst this
    obtain ⟨N, rfl⟩ : ∃ m, N = m + 1 := ⟨N - 1, by omega⟩
    obtain ⟨e1, sl', e2⟩ := he sl hI
    refine ⟨sl', ?_⟩
    unfold whileM
    rw [e1, R.bind_ok, if_pos rfl, e2]
    rfl
  | succ d' ih =>
    intro k N sl hk hN hI
    obtain ⟨N, rfl⟩ : ∃ m, N = m + 1 := ⟨N - 1, by omega⟩
    obtain ⟨e1, sl1, e2, h2⟩ := hs k sl (by omega) hI
    obtain ⟨sl2, e3⟩ := ih (k + 1) N sl1 (by omega) (by omega) h2
    refine ⟨sl2, ?_⟩
    unfold whileM
    rw [e1, R.bind_ok, if_pos rfl, e2, R.bind_ok]
    exact e3
/-! insert, range with a step, reversed, zip -/
def insR (i : Nat) (k : D) (g : M D) (st1 : ES) : R D := match k with
  | .int k => (g st1).bind fun y st2 => wO (acO st2.sl[i]?) fun xs => sel (decide (xs.length < lim) && decide (0 ≤ k) && decide (k < 2 ^ 63)) (.ok .non ⟨st2.sl.set i (.ac (xs.take k.toNat ++ [y] ++ xs.drop k.toNat)), st2.mu⟩) .bad
  | _ => .bad
@[simp] theorem insR_int (i : Nat) (k : Int) (g : M D) (st1 : ES) : insR i (.int k) g st1 = (g st1).bind fun y st2 => wO (acO st2.sl[i]?) fun xs => sel (decide (xs.length < lim) && decide (0 ≤ k) && decide (k < 2 ^ 63)) (.ok .non ⟨st2.sl.set i (.ac (xs.take k.toNat ++ [y] ++ xs.drop k.toNat)), st2.mu⟩) .bad := nr rfl
@[simp] theorem q_insert (i : Nat) (f g : M D) (sl : List Slot) (mu : List Cell) : mInsert i f g ⟨sl, mu⟩ = wO (acO sl[i]?) fun _ => (f ⟨sl, mu⟩).bind fun k st1 => insR i k g st1 := by
  unfold mInsert
  cases h : sl[i]? with
  | none => rfl
  | some s =>
    cases s with
    | ac xs =>
      show (f ⟨sl, mu⟩).bind _ = (f ⟨sl, mu⟩).bind _
      congr 1
      funext k st1
      cases k with
      | int k =>
        show (g st1).bind _ = (g st1).bind _
        congr 1
        funext y st2
        cases h1 : st2.sl[i]? with
        | none => rfl
        | some s => cases s <;> simp [acO, wO, sel]
      | _ => rfl
    | un => rfl
    | va d => rfl
    | ex c fs => rfl
def toRev (d : D) (st : ES) : R (List D) := wO (revOf d) fun xs => .ok xs st
@[simp] theorem toRev_lst (s : List D) (st : ES) : toRev (.lst s) st = .ok s.reverse st := nr rfl
@[simp] theorem toRev_lk (s : List D) (st : ES) : toRev (.lk s) st = .ok s.reverse st := nr rfl
@[simp] theorem toRev_tup (s : List D) (st : ES) : toRev (.tup s) st = .ok s.reverse st := nr rfl
@[simp] theorem q_rev (f : M D) (sl : List Slot) (mu : List Cell) : mRev f ⟨sl, mu⟩ = (f ⟨sl, mu⟩).bind fun d st1 => toRev d st1 := by
  unfold mRev toRev
  congr 1
  funext d st1
  cases revOf d <;> rfl
theorem mCons2 (f g : M D) (sl : List Slot) (mu : List Cell) : mCons f (mCons g mNil) ⟨sl, mu⟩ = (f ⟨sl, mu⟩).bind fun x st1 => (g st1).bind fun y st2 => .ok [x, y] st2 := by
  show (f _).bind _ = _
  congr 1
  funext x st1
  show ((g st1).bind _).bind _ = _
  cases g st1 <;> rfl
def toZip (d e : D) (st : ES) : R (List D) := wO (zipOf d e) fun xs => .ok xs st
@[simp] theorem toZip_lst (s t : List D) (st : ES) : toZip (.lst s) (.lst t) st = .ok (zipD s t) st := nr rfl
@[simp] theorem toZip_tup (s t : List D) (st : ES) : toZip (.tup s) (.tup t) st = .ok (zipD s t) st := nr rfl
@[simp] theorem q_zip (f g : M D) (sl : List Slot) (mu : List Cell) : mZip (mCons f (mCons g mNil)) ⟨sl, mu⟩ = (f ⟨sl, mu⟩).bind fun x st1 => (g st1).bind fun y st2 => toZip x y st2 := by
  unfold mZip
  rw [mCons2]
  cases h : f ⟨sl, mu⟩ with
  | ok a s =>
    simp only [R.bind_ok]
    cases h2 : g s with
    | ok b s2 => simp only [R.bind_ok]; unfold toZip; cases zipOf a b <;> rfl
    | er e s => rfl
    | bad => rfl
  | er e s => rfl
  | bad => rfl
theorem range3_of {f g h : M D} {st : ES} {i j c : Int} (h1 : f st = .ok (.int i) st) (h2 : g st = .ok (.int j) st) (h3 : h st = .ok (.int c) st) (hr : rgOk i j c = true) : mRange3 (mCons f (mCons g (mCons h mNil))) st = .ok (rangeC i c (PySem.Builtin.Range.rangeSize i j c).toNat) st := by
  have e : mCons f (mCons g (mCons h mNil)) st = .ok [.int i, .int j, .int c] st := by
    show (f st).bind _ = _
    rw [h1]
    show ((g st).bind _).bind _ = _
    rw [h2]
    show (((h st).bind _).bind _).bind _ = _
    rw [h3]
    rfl
  unfold mRange3
  rw [e]
  show (if rgOk i j c then _ else _) = _
  rw [if_pos hr]
/-- a for that ends by a return -/
theorem loop_first {α : Type} {T : Tg} {body : MS} {mu : List Cell} {d : D} (Inv : List Slot → Prop) (f : α → D) : ∀ (xs : List α) (k : Nat) {sl : List Slot}, (∀ i x, i < k → xs[i]? = some x → ∀ sl, Inv sl → ∃ sl1, T.put (f x) sl = some sl1 ∧ ∃ sl', body ⟨sl1, mu⟩ = .ok .nx ⟨sl', mu⟩ ∧ Inv sl') →
    (∃ x, xs[k]? = some x ∧ ∀ sl, Inv sl → ∃ sl1, T.put (f x) sl = some sl1 ∧ ∃ sl', body ⟨sl1, mu⟩ = .ok (.rt d) ⟨sl', mu⟩) → Inv sl → ∃ sl', loop T body (xs.map f) ⟨sl, mu⟩ = .ok (.rt d) ⟨sl', mu⟩
  | [], k, sl, h, ⟨x, e, _⟩, i => by cases e
  | x :: xs, 0, sl, h, ⟨y, e, g⟩, i => by
    cases e
    obtain ⟨sl1, e1, sl', e2⟩ := g sl i
    refine ⟨sl', ?_⟩
    rw [List.map_cons]
    unfold loop
    rw [e1]
    show (body ⟨sl1, mu⟩).bind _ = _
    rw [e2]
    rfl
  | x :: xs, k + 1, sl, h, ⟨y, e, g⟩, i => by
    obtain ⟨sl1, e1, sl', e2, i2⟩ := h 0 x (by omega) rfl sl i
    obtain ⟨sl2, e3⟩ := loop_first Inv f xs k (fun j z hj hz => h (j + 1) z (by omega) hz) ⟨y, e, g⟩ i2
    refine ⟨sl2, ?_⟩
    rw [List.map_cons]
    unfold loop
    rw [e1]
    show (body ⟨sl1, mu⟩).bind _ = _
    rw [e2]
    exact e3
end Pv
/-! Pv21: words of cells and of calls that are told none, run by simp. -/
namespace Pv
open PySem PySem.Spec L2
@[simp] theorem data_non : isData .non = true := nr rfl
@[simp] theorem data_bl (b : Bool) : isData (.bl b) = true := nr rfl
@[simp] theorem data_int (i : Int) : isData (.int i) = true := nr rfl
@[simp] theorem data_str (s : List Nat) : isData (.str s) = true := nr rfl
@[simp] theorem data_tup (xs : List D) : isData (.tup xs) = isDataAll xs := by simp only [isData]
@[simp] theorem data_lst (xs : List D) : isData (.lst xs) = isDataAll xs := by simp only [isData]
@[simp] theorem data_lk (xs : List D) : isData (.lk xs) = isDataAll xs := by simp only [isData]
@[simp] theorem data_nil : isDataAll [] = true := nr rfl
@[simp] theorem data_cons (x : D) (xs : List D) : isDataAll (x :: xs) = (isData x && isDataAll xs) := by simp only [isDataAll]
@[simp] theorem noL_non : noL .non = true := nr rfl
@[simp] theorem noL_bl (b : Bool) : noL (.bl b) = true := nr rfl
@[simp] theorem noL_int (i : Int) : noL (.int i) = true := nr rfl
@[simp] theorem noL_str (s : List Nat) : noL (.str s) = true := nr rfl
@[simp] theorem noL_tup (xs : List D) : noL (.tup xs) = noLs xs := by simp only [noL]
@[simp] theorem noL_lst (xs : List D) : noL (.lst xs) = false := by simp only [noL]
@[simp] theorem noL_nil : noLs [] = true := nr rfl
@[simp] theorem noL_cons (x : D) (xs : List D) : noLs (x :: xs) = (noL x && noLs xs) := by simp only [noLs]
theorem data_all {xs : List D} (h : ∀ x ∈ xs, isData x = true) : isDataAll xs = true := by
  induction xs with
  | nil => rfl
  | cons x xs ih =>
    simp only [data_cons, Bool.and_eq_true]
    exact ⟨h x List.mem_cons_self, ih fun y hy => h y (List.mem_cons_of_mem _ hy)⟩
theorem noL_all {xs : List D} (h : ∀ x ∈ xs, noL x = true) : noLs xs = true := by
  induction xs with
  | nil => rfl
  | cons x xs ih =>
    simp only [noL_cons, Bool.and_eq_true]
    exact ⟨h x List.mem_cons_self, ih fun y hy => h y (List.mem_cons_of_mem _ hy)⟩
@[simp] theorem data_strs (o : List (List Nat)) : isDataAll (o.map .str) = true := data_all fun x hx => by
  obtain ⟨s, _, rfl⟩ := List.mem_map.mp hx
  rfl
@[simp] theorem noL_strs (o : List (List Nat)) : noLs (o.map .str) = true := noL_all fun x hx => by
  obtain ⟨s, _, rfl⟩ := List.mem_map.mp hx
  rfl
theorem noLs_append (xs ys : List D) : noLs (xs ++ ys) = (noLs xs && noLs ys) := by
  induction xs with
  | nil => rfl
  | cons x xs ih => simp only [List.cons_append, noL_cons, ih, Bool.and_assoc]
theorem data_append (xs ys : List D) : isDataAll (xs ++ ys) = (isDataAll xs && isDataAll ys) := by
  induction xs with
  | nil => rfl
  | cons x xs ih => simp only [List.cons_append, data_cons, ih, Bool.and_assoc]
theorem look_all {n : Nat} {mu : List Cell} {ds : List D} (h : isDataAll ds = true) : ds.map (look n mu) = ds := by
  induction ds with
  | nil => rfl
  | cons d ds ih =>
    simp only [data_cons, Bool.and_eq_true] at h
    rw [List.map_cons, look_data h.1, ih h.2]
/-- a cell that is a list of data is seen through -/
theorem look_ref {n k : Nat} {mu : List Cell} {xs : List D} (e : mu[k]? = some (.lst xs)) (h : isDataAll xs = true) : look (n + 1) mu (.ref k) = .lst xs := by
  show (match mu[k]? with | some (.lst xs) => D.lst (xs.map (look n mu)) | _ => .ref k) = _
  rw [e]
  show D.lst (xs.map (look n mu)) = _
  rw [look_all h]
theorem look_tup (n : Nat) (mu : List Cell) (xs : List D) : look (n + 1) mu (.tup xs) = .tup (xs.map (look (n + 1) mu)) := by
  show mapR _ (.tup xs) = _
  have key : ∀ (f : Nat → D) (xs : List D), mapRs f xs = xs.map (mapR f) := fun f xs => by
    induction xs with
    | nil => rfl
    | cons x xs ih => simp only [mapRs, List.map_cons, ih]
  simp only [mapR, key]
  rfl
theorem look_lst (n : Nat) (mu : List Cell) (xs : List D) : look (n + 1) mu (.lst xs) = .lst (xs.map (look (n + 1) mu)) := by
  show mapR _ (.lst xs) = _
  have key : ∀ (f : Nat → D) (xs : List D), mapRs f xs = xs.map (mapR f) := fun f xs => by
    induction xs with
    | nil => rfl
    | cons x xs ih => simp only [mapRs, List.map_cons, ih]
  simp only [mapR, key]
  rfl
theorem look_pair {k : Nat} {mu : List Cell} {x : D} {xs : List D} (hx : isData x = true) (e : mu[k]? = some (.lst xs)) (h : isDataAll xs = true) : look 20 mu (.tup [x, .ref k]) = .tup [x, .lst xs] := by
  rw [show (20 : Nat) = 19 + 1 from rfl, look_tup, List.map_cons, List.map_cons, List.map_nil, look_data hx, look_ref e h]
/-- a def's answer, its cells forgotten -/
def PR (h : Fn) (ds : List D) (d : D) : Prop := ∃ s, h ds [] = .ok d s
theorem Ret.pr {h : Fn} {ds : List D} {d : D} (r : Ret h ds d) : PR h ds d := ⟨_, r []⟩
theorem lend_of {h : Fn} {ds : List D} {d : D} {st : ES} (r : PR h ds d) (hd : isDataAll ds = true) (hf : flatD d = true) : lendOut h ds st = .ok d st := by
  obtain ⟨s, e⟩ := r
  unfold lendOut
  simp only [hd, if_true, e, hf]
theorem freeze_of {h : Fn} {ds : List D} {d : D} {st : ES} (r : PR h ds d) (hd : isDataAll ds = true) (hf : isData d = true) : freezeOut h ds st = .ok d st := by
  obtain ⟨s, e⟩ := r
  unfold freezeOut
  simp only [hd, if_true, e, look_data hf, hf]
theorem thaw_of {h : Fn} {ds : List D} {d d' : D} {st : ES} {cs : List Cell} (r : PR h ds d) (hd : noLs ds = true) (hf : thaw st.mu.length d = some (d', cs)) : thawOut h ds st = .ok d' ⟨st.sl, st.mu ++ cs⟩ := by
  obtain ⟨s, e⟩ := r
  unfold thawOut
  simp only [hd, if_true, e, hf]
theorem thaw_pair {n : Nat} {x : D} {xs : List D} (hx : noL x = true) (h : noLs xs = true) : thaw n (.tup [x, .lst xs]) = some (.tup [x, .ref n], [.lst xs]) := by
  unfold thaw
  simp only [hx, h, Bool.and_self, if_true]
section
variable (sl : List Slot) (mu : List Cell) (f g : M D) (fs : M (List D))
@[simp] theorem q_callL (h : Fn) : mCallL h fs ⟨sl, mu⟩ = (fs ⟨sl, mu⟩).bind fun ds st1 => lendOut h (ds.map (look 20 st1.mu)) st1 := nr rfl
@[simp] theorem q_callF (h : Fn) : mCallF h fs ⟨sl, mu⟩ = (fs ⟨sl, mu⟩).bind fun ds st1 => freezeOut h ds st1 := nr rfl
@[simp] theorem q_callT (h : Fn) : mCallT h fs ⟨sl, mu⟩ = (fs ⟨sl, mu⟩).bind fun ds st1 => thawOut h ds st1 := nr rfl
def clearR (d : D) (st : ES) : R D := match d with
  | .ref n => (match st.mu[n]? with
    | some (.lst _) => .ok .non ⟨st.sl, st.mu.set n (.lst [])⟩
    | _ => .bad)
  | _ => .bad
@[simp] theorem q_clear : mClear f ⟨sl, mu⟩ = (f ⟨sl, mu⟩).bind fun d st1 => clearR d st1 := nr rfl
theorem clear_of {n : Nat} {xs : List D} (e : mu[n]? = some (.lst xs)) : clearR (.ref n) ⟨sl, mu⟩ = .ok .non ⟨sl, mu.set n (.lst [])⟩ := by
  unfold clearR
  simp only [e]
@[simp] theorem q_pairs_nil : mPairs [] ⟨sl, mu⟩ = .ok [] ⟨sl, mu⟩ := nr rfl
@[simp] theorem q_pairs_cons (r : List (M D × M D)) : mPairs ((f, g) :: r) ⟨sl, mu⟩ = (f ⟨sl, mu⟩).bind fun x st1 => (g st1).bind fun y st2 => (mPairs r st2).bind fun ps st3 => .ok ((x, y) :: ps) st3 := nr rfl
def dictR (o : Option (List (Key × D))) (st : ES) : R D := wO o fun kvs => .ok (.ref st.mu.length) ⟨st.sl, st.mu ++ [.dct (mergeD [] kvs)]⟩
@[simp] theorem q_dict (trs : List (M D × M D)) : mDict trs ⟨sl, mu⟩ = (mPairs trs ⟨sl, mu⟩).bind fun ps st1 => dictR (pairsK ps) st1 := by
  unfold mDict dictR
  congr 1
  funext ps st1
  cases pairsK ps <;> rfl
@[simp] theorem dictR_some (kvs : List (Key × D)) : dictR (some kvs) ⟨sl, mu⟩ = .ok (.ref mu.length) ⟨sl, mu ++ [.dct (mergeD [] kvs)]⟩ := nr rfl
@[simp] theorem pairsK_nil : pairsK [] = some [] := nr rfl
@[simp] theorem pairsK_str (s : List Nat) (v : D) (r : List (D × D)) : pairsK ((.str s, v) :: r) = (pairsK r).map ((.inr ⟨s.toArray⟩, v) :: ·) := by
  show (match keyD (.str s), pairsK r with | some k, some r => some ((k, v) :: r) | _, _ => none) = _
  cases pairsK r <;> rfl
def dctO : Option Cell → Option (List (Key × D))
  | some (.dct kvs) => some kvs
  | _ => none
@[simp] theorem dctO_some (kvs : List (Key × D)) : dctO (some (.dct kvs)) = some kvs := nr rfl
def dgetR (x y : D) (st : ES) : R D := match x with
  | .ref n => wO (keyD y) fun k => wO (dctO st.mu[n]?) fun kvs => wO (valD kvs k) fun d => .ok d st
  | _ => .bad
@[simp] theorem q_dget : mDGet f g ⟨sl, mu⟩ = (f ⟨sl, mu⟩).bind fun x st1 => (g st1).bind fun y st2 => dgetR x y st2 := by
  unfold mDGet dgetR
  congr 1
  funext x st1
  congr 1
  funext y st2
  cases x with
  | ref n =>
    cases keyD y with
    | none => rfl
    | some k =>
      show (match st2.mu[n]? with | _ => _) = wO (dctO st2.mu[n]?) _
      cases st2.mu[n]? with
      | none => rfl
      | some c =>
        cases c with
        | dct kvs =>
          show (match valD kvs k with | _ => _) = wO (valD kvs k) _
          cases valD kvs k <;> rfl
        | _ => rfl
  | _ => rfl
@[simp] theorem dgetR_ref (n : Nat) (y : D) : dgetR (.ref n) y ⟨sl, mu⟩ = wO (keyD y) fun k => wO (dctO mu[n]?) fun kvs => wO (valD kvs k) fun d => .ok d ⟨sl, mu⟩ := nr rfl
@[simp] theorem keyD_str (s : List Nat) : keyD (.str s) = some (.inr ⟨s.toArray⟩) := nr rfl
theorem key_str (s t : List Nat) : ((.inr ⟨s.toArray⟩ : Key) = .inr ⟨t.toArray⟩) ↔ s = t := by
  constructor
  · intro h
    have h2 := Sum.inr.inj h
    have h3 : s.toArray = t.toArray := congrArg Str.cps h2
    simpa using h3
  · intro h; rw [h]
end
/-! ### text.replace, dict.update -/
section
variable (sl : List Slot) (mu : List Cell) (f g : M D)
def replR (c : Nat) (z : List Nat) : D → Option D
  | .str s => if s.length ≤ 100000 ∧ z.length ≤ 100 ∧ okSb (repl1 c z s) = true then some (.str (repl1 c z s)) else none
  | _ => none
@[simp] theorem q_repl (c : Nat) (z : List Nat) : mRepl c z f ⟨sl, mu⟩ = (f ⟨sl, mu⟩).bind fun d st1 => mPur (replR c z d) st1 := by
  unfold mRepl
  congr 1
  funext d st1
  cases d with
  | str s =>
    show (if _ then _ else _) = mPur (if _ then _ else _) st1
    split <;> rfl
  | _ => rfl
theorem repl_of {c : Nat} {z s : List Nat} (h : s.length ≤ 100000) (hz : z.length ≤ 100) (ho : okSb (repl1 c z s) = true) : replR c z (.str s) = some (.str (repl1 c z s)) := if_pos ⟨h, hz, ho⟩
def updR (x y : D) (st : ES) : R D := match x, y with
  | .ref n, .ref m => wO (dctO st.mu[n]?) fun kvs => wO (dctO st.mu[m]?) fun more => if n ≠ m ∧ kvs.length + more.length ≤ 1000 then .ok .non ⟨st.sl, st.mu.set n (.dct (mergeD kvs more))⟩ else .bad
  | _, _ => .bad
@[simp] theorem q_upd : mUpd f g ⟨sl, mu⟩ = (f ⟨sl, mu⟩).bind fun x st1 => if isDc st1 x = true then (g st1).bind fun y st2 => updR x y st2 else .bad := by
  unfold mUpd
  congr 1
  funext x st1
  split
  · congr 1
    funext y st2
    cases x with
    | ref n =>
      cases y with
      | ref m =>
        show (match st2.mu[n]?, st2.mu[m]? with | _, _ => _) = wO (dctO st2.mu[n]?) _
        cases st2.mu[n]? with
        | none => rfl
        | some c =>
          cases c with
          | dct kvs =>
            show (match st2.mu[m]? with | _ => _) = wO (dctO st2.mu[m]?) _
            cases st2.mu[m]? with
            | none => rfl
            | some c2 => cases c2 <;> rfl
          | _ => rfl
      | _ => rfl
    | _ => rfl
  · rfl
end
/-- a loop over a list whose turns may leave other cells -/
theorem loop_any {α : Type} {T : Tg} {body : MS} (Inv : List α → ES → Prop) (f : α → D) : ∀ (xs pre : List α) {st : ES},
    (∀ pre' c post st, pre ++ xs = pre' ++ c :: post → Inv pre' st → ∃ sl1, T.put (f c) st.sl = some sl1 ∧ ∃ st' a, (a = .nx ∨ a = .ct) ∧ body ⟨sl1, st.mu⟩ = .ok a st' ∧ Inv (pre' ++ [c]) st') → Inv pre st →
    ∃ st', loop T body (xs.map f) st = .ok .nx st' ∧ Inv (pre ++ xs) st'
  | [], pre, st, h, h0 => ⟨st, rfl, by simpa using h0⟩
  | x :: xs, pre, st, h, h0 => by
    obtain ⟨sl1, e1, st', a, ha, e2, h2⟩ := h pre x xs st rfl h0
    obtain ⟨st2, e3, h3⟩ := loop_any Inv f xs (pre ++ [x]) (st := st') (fun pre' c post st e i => h pre' c post st (by rw [← e]; simp) i) h2
    refine ⟨st2, ?_, by simpa using h3⟩
    rw [List.map_cons]
    unfold loop
    rw [e1]
    show ((body _).bind _) = _
    rw [e2, R.bind_ok]
    rcases ha with rfl | rfl
    · exact e3
    · exact e3
theorem for_any {α : Type} {i : Nat} {its : M (List D)} {body : MS} {st st1 : ES} (Inv : List α → ES → Prop) (f : α → D) (xs : List α) (hi : its st = .ok (xs.map f) st1)
    (h : ∀ pre c post st, xs = pre ++ c :: post → Inv pre st → ∃ st', body ⟨st.sl.set i (.va (f c)), st.mu⟩ = .ok .nx st' ∧ Inv (pre ++ [c]) st') (h0 : Inv [] st1) : ∃ st', sFor (.nm i) its body st = .ok .nx st' ∧ Inv xs st' := by
  obtain ⟨st', e, q⟩ := loop_any (T := .nm i) (body := body) Inv f xs [] (st := st1) (fun pre' c post st e i => by
    obtain ⟨st', e2, q⟩ := h pre' c post st e i
    exact ⟨_, rfl, st', .nx, .inl rfl, e2, q⟩) h0
  refine ⟨st', ?_, by simpa using q⟩
  show ((its st).bind _) = _
  rw [hi, R.bind_ok]
  exact e
end Pv
/-! Pv25: the words of cells run by simp; comprehensions that change cells. -/
namespace Pv
open PySem PySem.Spec L2
section
variable (sl : List Slot) (mu : List Cell) (f g h : M D) (fs : M (List D)) (T : Tg) (body : MS)
@[simp] theorem q_cell : mCell fs ⟨sl, mu⟩ = (fs ⟨sl, mu⟩).bind fun xs st1 => .ok (.ref st1.mu.length) ⟨st1.sl, st1.mu ++ [.lst xs]⟩ := nr rfl
@[simp] theorem lstO_lst (xs : List D) : lstO (some (.lst xs)) = some xs := nr rfl
@[simp] theorem dr_str (s : List Nat) : dr mu (.str s) = .str s := nr rfl
@[simp] theorem dr_tup (s : List D) : dr mu (.tup s) = .tup s := nr rfl
@[simp] theorem dr_lst (s : List D) : dr mu (.lst s) = .lst s := nr rfl
@[simp] theorem dr_lk (s : List D) : dr mu (.lk s) = .lk s := nr rfl
@[simp] theorem dr_int (s : Int) : dr mu (.int s) = .int s := nr rfl
@[simp] theorem dr_bl (s : Bool) : dr mu (.bl s) = .bl s := nr rfl
@[simp] theorem dr_non : dr mu .non = .non := nr rfl
theorem dr_ref {mu : List Cell} {n : Nat} {xs : List D} (e : mu[n]? = some (.lst xs)) : dr mu (.ref n) = .lst xs := by
  unfold dr
  simp only [e]
@[simp] theorem dIxC_eq (x y : D) : dIxC mu x y = dIx mu (dr mu x) y := nr rfl
@[simp] theorem dJoinC_eq (x y : D) : dJoinC mu x y = dJoin mu x (dr mu y) := nr rfl
@[simp] theorem kLenC_eq (d : D) : kLenC mu [d] = (lenD (dr mu d)).map fun n => D.int n := nr rfl
@[simp] theorem q_cutC (l h : MO) : mCutC f l h ⟨sl, mu⟩ = (f ⟨sl, mu⟩).bind fun x st1 => (l st1).bind fun l st2 => (h st2).bind fun h st3 => mPur (dCut (dr st3.mu x) l h) st3 := nr rfl
@[simp] theorem q_cutVC (i : Nat) (l h : MO) : mCutVC i l h ⟨sl, mu⟩ = wO (rdO sl[i]?) fun _ => (l ⟨sl, mu⟩).bind fun l st2 => (h st2).bind fun h st3 => wO (rdO st3.sl[i]?) fun x => mPur (dCut (dr st3.mu x) l h) st3 := by
  unfold mCutVC
  rw [show rd ⟨sl, mu⟩ i = rdO sl[i]? from rd_eq _ _]
  cases rdO sl[i]? with
  | none => rfl
  | some a =>
    show (l ⟨sl, mu⟩).bind _ = (l ⟨sl, mu⟩).bind _
    congr 1
    funext y st2
    show (h st2).bind _ = (h st2).bind _
    congr 1
    funext z st3
    rw [rd_eq]
    cases rdO st3.sl[i]? with
    | none => rfl
    | some s => rfl
@[simp] theorem q_lenVC (i : Nat) : mLenVC i ⟨sl, mu⟩ = wO (rdO sl[i]?) fun x => wO (lenD (dr mu x)) fun n => .ok (.int n) ⟨sl, mu⟩ := by
  unfold mLenVC
  rw [show rd ⟨sl, mu⟩ i = rdO sl[i]? from rd_eq _ _]
  cases rdO sl[i]? with
  | none => rfl
  | some a =>
    show (match lenD (dr mu a) with | _ => _) = wO (lenD (dr mu a)) _
    cases lenD (dr mu a) <;> rfl
def selS (o : Option Slot) (f g : M D) : M D := match o with
  | some (.ac _) => f
  | _ => g
@[simp] theorem selS_ac (xs : List D) : selS (some (.ac xs)) f g = f := nr rfl
@[simp] theorem selS_va (d : D) : selS (some (.va d)) f g = g := nr rfl
@[simp] theorem q_sel (i : Nat) : mSel i f g ⟨sl, mu⟩ = selS sl[i]? f g ⟨sl, mu⟩ := by
  unfold mSel selS
  cases sl[i]? with
  | none => rfl
  | some s => cases s <;> rfl
def appR (n : Nat) (y : D) (st : ES) : R D := wO (lstO st.mu[n]?) fun xs => sel (decide (xs.length < lim)) (.ok .non ⟨st.sl, st.mu.set n (.lst (xs ++ [y]))⟩) .bad
def refO : D → Option Nat
  | .ref n => some n
  | _ => none
@[simp] theorem refO_ref (n : Nat) : refO (.ref n) = some n := nr rfl
@[simp] theorem q_appC : mAppC f g ⟨sl, mu⟩ = (f ⟨sl, mu⟩).bind fun x st1 => wO (refO x) fun n => wO (lstO st1.mu[n]?) fun _ => (g st1).bind fun y st2 => appR n y st2 := by
  unfold mAppC
  congr 1
  funext x st1
  cases x with
  | ref n =>
    show (match lstO st1.mu[n]? with | _ => _) = wO (lstO st1.mu[n]?) _
    cases lstO st1.mu[n]? with
    | none => rfl
    | some xs =>
      show (g st1).bind _ = (g st1).bind _
      congr 1
      funext y st2
      show (match lstO st2.mu[n]? with | _ => _) = wO (lstO st2.mu[n]?) _
      cases lstO st2.mu[n]? with
      | none => rfl
      | some xs =>
        unfold sel
        simp only [decide_eq_true_eq]
        rfl
  | _ => rfl
def popR (n : Nat) (st : ES) : R D := wO (lstO st.mu[n]?) fun xs => wO xs.getLast? fun y => .ok y ⟨st.sl, st.mu.set n (.lst xs.dropLast)⟩
@[simp] theorem q_popC : mPopC f ⟨sl, mu⟩ = (f ⟨sl, mu⟩).bind fun x st1 => wO (refO x) fun n => popR n st1 := by
  unfold mPopC
  congr 1
  funext x st1
  cases x with
  | ref n =>
    show (match lstO st1.mu[n]? with | _ => _) = wO (lstO st1.mu[n]?) _
    cases lstO st1.mu[n]? with
    | none => rfl
    | some xs =>
      show (match xs.getLast? with | _ => _) = wO xs.getLast? _
      cases xs.getLast? <;> rfl
  | _ => rfl
def listO : D → Option (List D)
  | .lst xs => some xs
  | _ => none
@[simp] theorem listO_lst (xs : List D) : listO (.lst xs) = some xs := nr rfl
def extR (n : Nat) (y : D) (st : ES) : R D := wO (listO (dr st.mu y)) fun ys => wO (lstO st.mu[n]?) fun xs => sel (decide (xs.length + ys.length ≤ lim)) (.ok .non ⟨st.sl, st.mu.set n (.lst (xs ++ ys))⟩) .bad
@[simp] theorem q_extC : mExtC f g ⟨sl, mu⟩ = (f ⟨sl, mu⟩).bind fun x st1 => wO (refO x) fun n => wO (lstO st1.mu[n]?) fun _ => (g st1).bind fun y st2 => extR n y st2 := by
  unfold mExtC
  congr 1
  funext x st1
  cases x with
  | ref n =>
    show (match lstO st1.mu[n]? with | _ => _) = wO (lstO st1.mu[n]?) _
    cases lstO st1.mu[n]? with
    | none => rfl
    | some xs =>
      show (g st1).bind _ = (g st1).bind _
      congr 1
      funext y st2
      unfold extR
      cases dr st2.mu y with
      | lst ys =>
        show (match lstO st2.mu[n]? with | _ => _) = wO (lstO st2.mu[n]?) _
        cases lstO st2.mu[n]? with
        | none => rfl
        | some xs =>
          unfold sel
          simp only [decide_eq_true_eq]
          rfl
      | _ => rfl
  | _ => rfl
def intO : D → Option Int
  | .int i => some i
  | _ => none
@[simp] theorem intO_int (i : Int) : intO (.int i) = some i := nr rfl
def ixSetR (v x k : D) (st : ES) : R Fl := wO (refO x) fun n => wO (intO k) fun i => wO (lstO st.mu[n]?) fun xs => wO (ixN xs.length i) fun j => .ok .nx ⟨st.sl, st.mu.set n (.lst (xs.set j v))⟩
@[simp] theorem q_ixSet : sIxSet f g h ⟨sl, mu⟩ = (f ⟨sl, mu⟩).bind fun v st1 => (g st1).bind fun x st2 => (h st2).bind fun k st3 => ixSetR v x k st3 := by
  unfold sIxSet
  congr 1
  funext v st1
  congr 1
  funext x st2
  congr 1
  funext k st3
  unfold ixSetR
  cases x with
  | ref n =>
    cases k with
    | int i =>
      show (match lstO st3.mu[n]? with | _ => _) = wO (lstO st3.mu[n]?) _
      cases lstO st3.mu[n]? with
      | none => rfl
      | some xs =>
        show (match ixN xs.length i with | _ => _) = wO (ixN xs.length i) _
        cases ixN xs.length i <;> rfl
    | _ => rfl
  | _ => cases k <;> rfl
def addCR (x y : D) (st : ES) : R D := match dr st.mu x, dr st.mu y with
  | .lst xs, .lst ys => sel (decide (xs.length + ys.length ≤ lim)) (.ok (.ref st.mu.length) ⟨st.sl, st.mu ++ [.lst (xs ++ ys)]⟩) .bad
  | _, _ => mPur (dAdd st.mu x y) st
@[simp] theorem q_addC : mAddC f g ⟨sl, mu⟩ = (f ⟨sl, mu⟩).bind fun x st1 => (g st1).bind fun y st2 => addCR x y st2 := by
  unfold mAddC
  congr 1
  funext x st1
  congr 1
  funext y st2
  unfold addCR
  cases dr st2.mu x <;> cases dr st2.mu y <;> first
    | rfl
    | (unfold sel; simp only [decide_eq_true_eq])
theorem addCR_lst {x y : D} {xs ys : List D} (hx : dr mu x = .lst xs) (hy : dr mu y = .lst ys) : addCR x y ⟨sl, mu⟩ = sel (decide (xs.length + ys.length ≤ lim)) (.ok (.ref mu.length) ⟨sl, mu ++ [.lst (xs ++ ys)]⟩) .bad := by
  unfold addCR
  simp only [hx, hy]
theorem addCR_else {x y : D} (hx : isL (dr mu x) = false) : addCR x y ⟨sl, mu⟩ = mPur (dAdd mu x y) ⟨sl, mu⟩ := by
  unfold addCR
  split
  · rename_i xs ys e1 e2
    have e1' : dr mu x = .lst xs := e1
    rw [e1'] at hx
    cases hx
  · rfl
@[simp] theorem addCR_str (s t : List Nat) : addCR (.str s) (.str t) ⟨sl, mu⟩ = mPur (dAdd mu (.str s) (.str t)) ⟨sl, mu⟩ := nr rfl
@[simp] theorem addCR_int (s t : Int) : addCR (.int s) (.int t) ⟨sl, mu⟩ = mPur (dAdd mu (.int s) (.int t)) ⟨sl, mu⟩ := nr rfl
@[simp] theorem addCR_lstlst (xs ys : List D) : addCR (.lst xs) (.lst ys) ⟨sl, mu⟩ = sel (decide (xs.length + ys.length ≤ lim)) (.ok (.ref mu.length) ⟨sl, mu ++ [.lst (xs ++ ys)]⟩) .bad := nr rfl
/-! comparisons -/
@[simp] theorem cL_lt : dCmpL .Lt = dCmp .Lt := nr rfl
@[simp] theorem cL_le : dCmpL .LtE = dCmp .LtE := nr rfl
@[simp] theorem cL_gt : dCmpL .Gt = dCmp .Gt := nr rfl
@[simp] theorem cL_ge : dCmpL .GtE = dCmp .GtE := nr rfl
@[simp] theorem cL_in : dCmpL .In = dCmp .In := nr rfl
@[simp] theorem cL_nin : dCmpL .NotIn = dCmp .NotIn := nr rfl
@[simp] theorem cL_is : dCmpL .Is = dCmp .Is := nr rfl
@[simp] theorem cL_isn : dCmpL .IsNot = dCmp .IsNot := nr rfl
@[simp] theorem look_str (n : Nat) (s : List Nat) : look n mu (.str s) = .str s := look_data rfl
@[simp] theorem look_int (n : Nat) (i : Int) : look n mu (.int i) = .int i := look_data rfl
@[simp] theorem look_bl (n : Nat) (b : Bool) : look n mu (.bl b) = .bl b := look_data rfl
@[simp] theorem look_non (n : Nat) : look n mu .non = .non := look_data rfl
theorem cL_eq (x y : D) : dCmpL .Eq mu x y = dCmp .Eq mu (look 20 mu x) (look 20 mu y) := nr rfl
theorem cL_ne (x y : D) : dCmpL .NotEq mu x y = dCmp .NotEq mu (look 20 mu x) (look 20 mu y) := nr rfl
@[simp] theorem cL_eq_data {x y : D} (hx : isData x = true) (hy : isData y = true) : dCmpL .Eq mu x y = dCmp .Eq mu x y := by rw [cL_eq, look_data hx, look_data hy]
@[simp] theorem cL_ne_data {x y : D} (hx : isData x = true) (hy : isData y = true) : dCmpL .NotEq mu x y = dCmp .NotEq mu x y := by rw [cL_ne, look_data hx, look_data hy]
/-! loops and comprehensions -/
theorem loopC_free : ∀ (xs : List D) (st : ES), loopC [] T body xs st = loop T body xs st
  | [], st => loopC_nil WP.nil
  | d :: ds, st => by
    rw [loopC_cons WP.nil]
    unfold loop
    cases T.put d st.sl with
    | none => rfl
    | some sl =>
      show (body _).bind _ = (body _).bind _
      congr 1
      funext a st1
      cases a with
      | nx => exact loopC_free ds st1
      | ct => exact loopC_free ds st1
      | _ => rfl
theorem compLoopC_free (c : M Bool) (vs : List Nat) : ∀ (xs acc : List D) (st : ES), compLoopC [] T c f vs xs acc st = compLoop T c f vs xs acc st
  | [], acc, st => compLoopC_nil WP.nil
  | d :: ds, acc, st => by
    rw [compLoopC_cons WP.nil, compLoop_cons]
    cases T.put d (wipeS st.sl vs) with
    | none => rfl
    | some sl =>
      show (noEr (c _)).bind _ = (noEr (c _)).bind _
      congr 1
      funext b st1
      cases b with
      | true =>
        rw [if_pos rfl, if_pos rfl]
        congr 1
        funext y st2
        split
        · exact compLoopC_free c vs ds _ st2
        · rfl
      | false =>
        rw [if_neg (by decide), if_neg (by decide)]
        exact compLoopC_free c vs ds acc st1
@[simp] theorem forC_old : sForC T (mOld fs) body = sFor T fs body := by
  funext st
  show ((mOld fs st).bind _) = (fs st).bind _
  unfold mOld
  cases fs st with
  | ok xs st1 => exact loopC_free T body xs st1
  | er e s => rfl
  | bad => rfl
@[simp] theorem compC_old (c : M Bool) (vs : List Nat) : mCompC (mOld fs) T c f vs = mComp fs T c f vs := by
  funext st
  show ((mOld fs st).bind _) = (fs st).bind _
  unfold mOld
  cases fs st with
  | ok xs st1 =>
    show (compLoopC [] T c f vs xs [] st1).bind _ = _
    rw [compLoopC_free]
    rfl
  | er e s => rfl
  | bad => rfl
/-- walked where nothing is watched -/
theorem forC_of {its : MI} {st st1 : ES} {xs : List D} (hi : its st = .ok (xs, []) st1) : sForC T its body st = sFor T (fun _ => .ok xs st1) body st := by
  show ((its st).bind _) = _
  rw [hi, R.bind_ok, loopC_free]
  rfl
theorem compC_of {its : MI} {st st1 : ES} {xs : List D} {c : M Bool} {vs : List Nat} (hi : its st = .ok (xs, []) st1) : mCompC its T c f vs st = mComp (fun _ => .ok xs st1) T c f vs st := by
  show ((its st).bind _) = _
  rw [hi, R.bind_ok, compLoopC_free]
  rfl
def itR (d : D) (st : ES) : R (List D × List (Nat × List D)) := match srcOf st.mu d with
  | some p => .ok p st
  | none => wO (itemsOf d) fun xs => .ok (xs, []) st
@[simp] theorem q_itC : mItC f ⟨sl, mu⟩ = (f ⟨sl, mu⟩).bind fun d st1 => itR d st1 := by
  unfold mItC itR
  congr 1
  funext d st1
  cases srcOf st1.mu d with
  | some p => rfl
  | none =>
    show (match itemsOf d with | _ => _) = wO (itemsOf d) _
    cases itemsOf d <;> rfl
@[simp] theorem itR_lst (xs : List D) (st : ES) : itR (.lst xs) st = .ok (xs, []) st := nr rfl
@[simp] theorem itR_lk (xs : List D) (st : ES) : itR (.lk xs) st = .ok (xs, []) st := nr rfl
@[simp] theorem itR_tup (xs : List D) (st : ES) : itR (.tup xs) st = .ok (xs, []) st := nr rfl
@[simp] theorem itR_str (s : List Nat) (st : ES) : itR (.str s) st = .ok (signsD s, []) st := nr rfl
theorem itR_ref {n : Nat} {xs : List D} (e : mu[n]? = some (.lst xs)) : itR (.ref n) ⟨sl, mu⟩ = .ok (xs, [(n, xs)]) ⟨sl, mu⟩ := by
  unfold itR srcOf
  simp only [e]
  rfl
end
/-- a comprehension whose elements change cells -/
theorem compLoop_any {α : Type} {i : Nat} {elt : M D} {sl : List Slot} {f : α → D} (Q : List Cell → Prop) (P : α → D → Prop) (hsl : sl[i]? = some .un ∨ ∃ d, sl[i]? = some (.va d)) : ∀ (xs : List α) (acc : List D) (sl' : List Slot) (mu : List Cell), wipeS sl' [i] = wipeS sl [i] → acc.length + xs.length ≤ lim → Q mu →
    (∀ x ∈ xs, ∀ mu, Q mu → ∃ y mu', elt ⟨sl.set i (.va (f x)), mu⟩ = .ok y ⟨sl.set i (.va (f x)), mu'⟩ ∧ P x y ∧ Q mu') →
    ∃ (ys : List D) (sl'' : List Slot) (mu' : List Cell), compLoop (.nm i) mYes elt [i] (xs.map f) acc ⟨sl', mu⟩ = .ok (acc ++ ys) ⟨sl'', mu'⟩ ∧ wipeS sl'' [i] = wipeS sl [i] ∧ ys.length = xs.length ∧ (∀ (k : Nat) (x : α) (y : D), xs[k]? = some x → ys[k]? = some y → P x y) ∧ Q mu'
  | [], acc, sl', mu, hw, hl, hq, h => ⟨[], sl', mu, by simp [compLoop], hw, rfl, fun k x y hx => by simp at hx, hq⟩
  | x :: xs, acc, sl', mu, hw, hl, hq, h => by
    obtain ⟨y, mu1, e1, p1, q1⟩ := h x (by simp) mu hq
    simp only [List.length_cons] at hl
    have hset : (wipeS sl' [i]).set i (.va (f x)) = sl.set i (.va (f x)) := by
      rw [hw]
      show (sl.set i .un).set i _ = _
      rw [List.set_set]
    have hw2 : wipeS (sl.set i (.va (f x))) [i] = wipeS sl [i] := by
      show (sl.set i (.va (f x))).set i .un = sl.set i .un
      rw [List.set_set]
    obtain ⟨ys, sl'', mu', e2, w2, l2, p2, q2⟩ := compLoop_any Q P hsl xs (acc ++ [y]) (sl.set i (.va (f x))) mu1 hw2 (by rw [List.length_append]; show acc.length + 1 + xs.length ≤ lim; omega) q1 fun z hz => h z (by simp [hz])
    refine ⟨y :: ys, sl'', mu', ?_, w2, by simp [l2], fun k z w hz hw => ?_, q2⟩
    · rw [List.map_cons, compLoop_cons]
      have hp : Tg.put (.nm i) (f x) (wipeS sl' [i]) = some (sl.set i (.va (f x))) := by
        show some ((wipeS sl' [i]).set i (.va (f x))) = _
        rw [hset]
      rw [hp]
      show ((noEr (mYes _)).bind _) = _
      rw [show mYes ⟨sl.set i (.va (f x)), mu⟩ = .ok true ⟨sl.set i (.va (f x)), mu⟩ from rfl, noEr_ok, R.bind_ok, if_pos rfl, e1, noEr_ok, R.bind_ok, if_pos (show acc.length < lim by omega), e2, List.append_assoc, List.singleton_append]
    · cases k with
      | zero =>
        simp at hz hw
        subst hz hw
        exact p1
      | succ k => exact p2 k z w (by simpa using hz) (by simpa using hw)
theorem comp_any {α : Type} {its : M (List D)} {i : Nat} {elt : M D} {st : ES} {sl : List Slot} {mu : List Cell} {f : α → D} (Q : List Cell → Prop) (P : α → D → Prop) (xs : List α) (hi : its st = .ok (xs.map f) ⟨sl, mu⟩) (hsl : sl[i]? = some .un ∨ ∃ d, sl[i]? = some (.va d)) (hl : xs.length ≤ lim) (hq : Q mu)
    (h : ∀ x ∈ xs, ∀ mu, Q mu → ∃ y mu', elt ⟨sl.set i (.va (f x)), mu⟩ = .ok y ⟨sl.set i (.va (f x)), mu'⟩ ∧ P x y ∧ Q mu') :
    ∃ (ys : List D) (mu' : List Cell), mComp its (.nm i) mYes elt [i] st = .ok ys ⟨sl, mu'⟩ ∧ ys.length = xs.length ∧ (∀ (k : Nat) (x : α) (y : D), xs[k]? = some x → ys[k]? = some y → P x y) ∧ Q mu' := by
  obtain ⟨ys, sl'', mu', e, w, l, p, q⟩ := compLoop_any Q P hsl xs [] sl mu rfl (by simpa using hl) hq h
  refine ⟨ys, mu', ?_, l, p, q⟩
  unfold mComp
  rw [hi, R.bind_ok, e, R.bind_ok, List.nil_append, w]
  congr 2
  show (wipeS sl [i]).set i (match sl[i]? with | some (.va d) => .va d | _ => .un) = sl
  show (sl.set i .un).set i _ = sl
  rw [List.set_set]
  rcases hsl with h | ⟨d, h⟩
  · rw [h]
    exact List.ext_getElem? fun j => by
      by_cases hj : i = j
      · subst hj
        have hl : i < sl.length := (List.getElem?_eq_some_iff.mp h).1
        rw [List.getElem?_set_self hl, h]
      · rw [List.getElem?_set_ne hj]
  · rw [h]
    exact List.ext_getElem? fun j => by
      by_cases hj : i = j
      · subst hj
        have hl : i < sl.length := (List.getElem?_eq_some_iff.mp h).1
        rw [List.getElem?_set_self hl, h]
      · rw [List.getElem?_set_ne hj]
end Pv
/-! Pv26: trees of cells, each with its own cells; what changes; loops and comprehensions over cells. -/
namespace Pv
open PySem PySem.Spec L2
mutual
/-- a tree as it is read at d, by cells of its own: lists are cells -/
def Tre (mu : List Cell) : D → D → List Nat → Prop
  | .non, d, l => d = .non ∧ l = []
  | .bl b, d, l => d = .bl b ∧ l = []
  | .int i, d, l => d = .int i ∧ l = []
  | .str s, d, l => d = .str s ∧ l = []
  | .tup ts, d, l => ∃ xs, d = .tup xs ∧ Tres mu ts xs l
  | .lst ts, d, l => ∃ n xs k, d = .ref n ∧ l = n :: k ∧ mu[n]? = some (.lst xs) ∧ Tres mu ts xs k
  | .lk _, _, _ => False
  | .ref _, _, _ => False
def Tres (mu : List Cell) : List D → List D → List Nat → Prop
  | [], xs, l => xs = [] ∧ l = []
  | t :: ts, xs, l => ∃ x ys l1 l2, xs = x :: ys ∧ l = l1 ++ l2 ∧ Tre mu t x l1 ∧ Tres mu ts ys l2
end
section
variable {mu mu' : List Cell} {t d x : D} {ts us xs ys : List D} {l k : List Nat}
theorem tre_str {s : List Nat} : Tre mu (.str s) d l ↔ d = .str s ∧ l = [] := by simp only [Tre]
theorem tre_int {s : Int} : Tre mu (.int s) d l ↔ d = .int s ∧ l = [] := by simp only [Tre]
theorem tre_bl {s : Bool} : Tre mu (.bl s) d l ↔ d = .bl s ∧ l = [] := by simp only [Tre]
theorem tre_non : Tre mu .non d l ↔ d = .non ∧ l = [] := by simp only [Tre]
theorem tre_tup : Tre mu (.tup ts) d l ↔ ∃ xs, d = .tup xs ∧ Tres mu ts xs l := by simp only [Tre]
theorem tre_lst : Tre mu (.lst ts) d l ↔ ∃ n xs k, d = .ref n ∧ l = n :: k ∧ mu[n]? = some (.lst xs) ∧ Tres mu ts xs k := by simp only [Tre]
theorem tres_nil : Tres mu [] xs l ↔ xs = [] ∧ l = [] := by simp only [Tres]
theorem tres_cons : Tres mu (t :: ts) xs l ↔ ∃ x ys l1 l2, xs = x :: ys ∧ l = l1 ++ l2 ∧ Tre mu t x l1 ∧ Tres mu ts ys l2 := by simp only [Tres]
theorem Tres.nil' : Tres mu [] [] [] := tres_nil.mpr ⟨rfl, rfl⟩
theorem Tres.cons' (h : Tre mu t x l) (g : Tres mu ts ys k) : Tres mu (t :: ts) (x :: ys) (l ++ k) := tres_cons.mpr ⟨x, ys, l, k, rfl, rfl, h, g⟩
theorem Tre.str' {s : List Nat} : Tre mu (.str s) (.str s) [] := tre_str.mpr ⟨rfl, rfl⟩
theorem Tres.append : ∀ {ts us xs ys : List D} {l k : List Nat}, Tres mu ts xs l → Tres mu us ys k → Tres mu (ts ++ us) (xs ++ ys) (l ++ k)
  | [], us, xs, ys, l, k, h, g => by
    obtain ⟨rfl, rfl⟩ := tres_nil.mp h
    exact g
  | t :: ts, us, xs, ys, l, k, h, g => by
    obtain ⟨x, zs, l1, l2, rfl, rfl, h1, h2⟩ := tres_cons.mp h
    rw [List.append_assoc]
    exact .cons' h1 (Tres.append h2 g)
theorem Tres.split : ∀ {ts us xs : List D} {l : List Nat}, Tres mu (ts ++ us) xs l → ∃ xs1 xs2 l1 l2, xs = xs1 ++ xs2 ∧ l = l1 ++ l2 ∧ Tres mu ts xs1 l1 ∧ Tres mu us xs2 l2
  | [], us, xs, l, h => ⟨[], xs, [], l, rfl, rfl, .nil', h⟩
  | t :: ts, us, xs, l, h => by
    obtain ⟨x, zs, l1, l2, rfl, rfl, h1, h2⟩ := tres_cons.mp h
    obtain ⟨a, b, p, q, rfl, rfl, g1, g2⟩ := Tres.split h2
    exact ⟨x :: a, b, l1 ++ p, q, rfl, by rw [List.append_assoc], .cons' h1 g1, g2⟩
theorem Tres.one (h : Tre mu t x l) : Tres mu [t] [x] l := by
  have := Tres.cons' h Tres.nil'
  rwa [List.append_nil] at this
theorem Tres.snoc (h : Tres mu ts xs l) (g : Tre mu t x k) : Tres mu (ts ++ [t]) (xs ++ [x]) (l ++ k) := h.append (.one g)
theorem Tres.snoc_inv (h : Tres mu (ts ++ [t]) xs l) : ∃ ys y l1 l2, xs = ys ++ [y] ∧ l = l1 ++ l2 ∧ Tres mu ts ys l1 ∧ Tre mu t y l2 := by
  obtain ⟨a, b, p, q, rfl, rfl, g1, g2⟩ := h.split
  obtain ⟨y, zs, l1, l2, rfl, rfl, h1, h2⟩ := tres_cons.mp g2
  obtain ⟨rfl, rfl⟩ := tres_nil.mp h2
  exact ⟨a, y, p, l1, rfl, by rw [List.append_nil], g1, h1⟩
theorem Tres.len : ∀ {ts xs : List D} {l : List Nat}, Tres mu ts xs l → xs.length = ts.length
  | [], xs, l, h => by
    obtain ⟨rfl, rfl⟩ := tres_nil.mp h
    rfl
  | t :: ts, xs, l, h => by
    obtain ⟨x, zs, l1, l2, rfl, rfl, h1, h2⟩ := tres_cons.mp h
    rw [List.length_cons, List.length_cons, Tres.len h2]
mutual
theorem Tre.frame : ∀ (t d : D) (l : List Nat), Tre mu t d l → (∀ m ∈ l, mu'[m]? = mu[m]?) → Tre mu' t d l
  | .non, d, l, h, _ => by simpa only [Tre] using h
  | .bl b, d, l, h, _ => by simpa only [Tre] using h
  | .int i, d, l, h, _ => by simpa only [Tre] using h
  | .str s, d, l, h, _ => by simpa only [Tre] using h
  | .tup ts, d, l, h, e => by
    obtain ⟨xs, rfl, g⟩ := tre_tup.mp h
    exact tre_tup.mpr ⟨xs, rfl, Tres.frame ts xs l g e⟩
  | .lst ts, d, l, h, e => by
    obtain ⟨n, xs, k, rfl, rfl, g1, g2⟩ := tre_lst.mp h
    exact tre_lst.mpr ⟨n, xs, k, rfl, rfl, by rw [e n (by simp)]; exact g1, Tres.frame ts xs k g2 fun m hm => e m (by simp [hm])⟩
  | .lk _, d, l, h, _ => by simp only [Tre] at h
  | .ref _, d, l, h, _ => by simp only [Tre] at h
theorem Tres.frame : ∀ (ts xs : List D) (l : List Nat), Tres mu ts xs l → (∀ m ∈ l, mu'[m]? = mu[m]?) → Tres mu' ts xs l
  | [], xs, l, h, _ => by simpa only [Tres] using h
  | t :: ts, xs, l, h, e => by
    obtain ⟨x, ys, l1, l2, rfl, rfl, h1, h2⟩ := tres_cons.mp h
    exact .cons' (Tre.frame t x l1 h1 fun m hm => e m (by simp [hm])) (Tres.frame ts ys l2 h2 fun m hm => e m (by simp [hm]))
end
mutual
theorem Tre.lt : ∀ (t d : D) (l : List Nat), Tre mu t d l → ∀ m ∈ l, m < mu.length
  | .non, d, l, h => by obtain ⟨_, rfl⟩ := tre_non.mp h; simp
  | .bl b, d, l, h => by obtain ⟨_, rfl⟩ := tre_bl.mp h; simp
  | .int i, d, l, h => by obtain ⟨_, rfl⟩ := tre_int.mp h; simp
  | .str s, d, l, h => by obtain ⟨_, rfl⟩ := tre_str.mp h; simp
  | .tup ts, d, l, h => by
    obtain ⟨xs, rfl, g⟩ := tre_tup.mp h
    exact Tres.lt ts xs l g
  | .lst ts, d, l, h => by
    obtain ⟨n, xs, k, rfl, rfl, g1, g2⟩ := tre_lst.mp h
    intro m hm
    rcases List.mem_cons.mp hm with rfl | hm
    · exact (List.getElem?_eq_some_iff.mp g1).1
    · exact Tres.lt ts xs k g2 m hm
  | .lk _, d, l, h => by simp only [Tre] at h
  | .ref _, d, l, h => by simp only [Tre] at h
theorem Tres.lt : ∀ (ts xs : List D) (l : List Nat), Tres mu ts xs l → ∀ m ∈ l, m < mu.length
  | [], xs, l, h => by obtain ⟨_, rfl⟩ := tres_nil.mp h; simp
  | t :: ts, xs, l, h => by
    obtain ⟨x, ys, l1, l2, rfl, rfl, h1, h2⟩ := tres_cons.mp h
    intro m hm
    rcases List.mem_append.mp hm with hm | hm
    · exact Tre.lt t x l1 h1 m hm
    · exact Tres.lt ts ys l2 h2 m hm
end
mutual
/-- how deep cells stand in one another -/
def cdp : D → Nat
  | .tup ts => cdps ts
  | .lst ts => cdps ts + 1
  | _ => 0
def cdps : List D → Nat
  | [] => 0
  | t :: ts => max (cdp t) (cdps ts)
end
mutual
theorem Tre.look : ∀ (t : D) (n : Nat) (d : D) (l : List Nat), cdp t ≤ n → Tre mu t d l → look n mu d = t
  | .non, n, d, l, _, h => by obtain ⟨rfl, _⟩ := tre_non.mp h; exact look_data rfl
  | .bl b, n, d, l, _, h => by obtain ⟨rfl, _⟩ := tre_bl.mp h; exact look_data rfl
  | .int i, n, d, l, _, h => by obtain ⟨rfl, _⟩ := tre_int.mp h; exact look_data rfl
  | .str s, n, d, l, _, h => by obtain ⟨rfl, _⟩ := tre_str.mp h; exact look_data rfl
  | .tup ts, n, d, l, hn, h => by
    obtain ⟨xs, rfl, g⟩ := tre_tup.mp h
    have e := Tres.look ts n xs l (by simpa only [cdp] using hn) g
    cases n with
    | zero =>
      show D.tup xs = .tup ts
      have : xs.map (Pv.look 0 mu) = xs := by
        show xs.map (fun d => d) = xs
        simp
      rw [← e, this]
    | succ n => rw [look_tup, e]
  | .lst ts, n, d, l, hn, h => by
    obtain ⟨m, xs, k, rfl, rfl, g1, g2⟩ := tre_lst.mp h
    simp only [cdp] at hn
    cases n with
    | zero => omega
    | succ n =>
      have e := Tres.look ts n xs k (by omega) g2
      show (match mu[m]? with
        | some (.lst xs) => D.lst (xs.map (Pv.look n mu))
        | _ => .ref m) = _
      rw [g1]
      show D.lst (xs.map (Pv.look n mu)) = _
      rw [e]
  | .lk _, n, d, l, _, h => by simp only [Tre] at h
  | .ref _, n, d, l, _, h => by simp only [Tre] at h
theorem Tres.look : ∀ (ts : List D) (n : Nat) (xs : List D) (l : List Nat), cdps ts ≤ n → Tres mu ts xs l → xs.map (look n mu) = ts
  | [], n, xs, l, _, h => by obtain ⟨rfl, _⟩ := tres_nil.mp h; rfl
  | t :: ts, n, xs, l, hn, h => by
    obtain ⟨x, ys, l1, l2, rfl, rfl, h1, h2⟩ := tres_cons.mp h
    simp only [cdps] at hn
    rw [List.map_cons, Tre.look t n x l1 (by omega) h1, Tres.look ts n ys l2 (by omega) h2]
end
mutual
/-- a tree as it is read at d, whosever the cells are -/
def Vw (mu : List Cell) : D → D → Prop
  | .tup ts, d => ∃ xs, d = .tup xs ∧ Vws mu ts xs
  | .lst ts, d => ∃ xs, (d = .lst xs ∨ ∃ n, d = .ref n ∧ mu[n]? = some (.lst xs)) ∧ Vws mu ts xs
  | t, d => d = t
def Vws (mu : List Cell) : List D → List D → Prop
  | [], xs => xs = []
  | t :: ts, xs => ∃ x ys, xs = x :: ys ∧ Vw mu t x ∧ Vws mu ts ys
end
theorem vw_str {s : List Nat} : Vw mu (.str s) d ↔ d = .str s := by simp only [Vw]
theorem vw_tup : Vw mu (.tup ts) d ↔ ∃ xs, d = .tup xs ∧ Vws mu ts xs := by simp only [Vw]
theorem vw_lst : Vw mu (.lst ts) d ↔ ∃ xs, (d = .lst xs ∨ ∃ n, d = .ref n ∧ mu[n]? = some (.lst xs)) ∧ Vws mu ts xs := by simp only [Vw]
theorem vws_nil : Vws mu [] xs ↔ xs = [] := by simp only [Vws]
theorem vws_cons : Vws mu (t :: ts) xs ↔ ∃ x ys, xs = x :: ys ∧ Vw mu t x ∧ Vws mu ts ys := by simp only [Vws]
theorem Vws.len : ∀ {ts xs : List D}, Vws mu ts xs → xs.length = ts.length
  | [], xs, h => by rw [vws_nil.mp h]
  | t :: ts, xs, h => by
    obtain ⟨x, ys, rfl, h1, h2⟩ := vws_cons.mp h
    rw [List.length_cons, List.length_cons, Vws.len h2]
theorem Vws.get : ∀ {ts xs : List D} {i : Nat} {t : D}, Vws mu ts xs → ts[i]? = some t → ∃ x, xs[i]? = some x ∧ Vw mu t x
  | [], xs, i, t, h, e => by simp at e
  | t :: ts, xs, i, u, h, e => by
    obtain ⟨x, ys, rfl, h1, h2⟩ := vws_cons.mp h
    cases i with
    | zero =>
      simp at e
      subst e
      exact ⟨x, by simp, h1⟩
    | succ i =>
      obtain ⟨y, q1, q2⟩ := h2.get (i := i) (by simpa using e)
      exact ⟨y, by simpa using q1, q2⟩
mutual
theorem Tre.vw : ∀ (t d : D) (l : List Nat), Tre mu t d l → Vw mu t d
  | .non, d, l, h => by obtain ⟨rfl, _⟩ := tre_non.mp h; simp only [Vw]
  | .bl b, d, l, h => by obtain ⟨rfl, _⟩ := tre_bl.mp h; simp only [Vw]
  | .int i, d, l, h => by obtain ⟨rfl, _⟩ := tre_int.mp h; simp only [Vw]
  | .str s, d, l, h => by obtain ⟨rfl, _⟩ := tre_str.mp h; simp only [Vw]
  | .tup ts, d, l, h => by
    obtain ⟨xs, rfl, g⟩ := tre_tup.mp h
    exact vw_tup.mpr ⟨xs, rfl, Tres.vw ts xs l g⟩
  | .lst ts, d, l, h => by
    obtain ⟨m, xs, k, rfl, rfl, g1, g2⟩ := tre_lst.mp h
    exact vw_lst.mpr ⟨xs, .inr ⟨m, rfl, g1⟩, Tres.vw ts xs k g2⟩
  | .lk _, d, l, h => by simp only [Tre] at h
  | .ref _, d, l, h => by simp only [Tre] at h
theorem Tres.vw : ∀ (ts xs : List D) (l : List Nat), Tres mu ts xs l → Vws mu ts xs
  | [], xs, l, h => by obtain ⟨rfl, _⟩ := tres_nil.mp h; exact vws_nil.mpr rfl
  | t :: ts, xs, l, h => by
    obtain ⟨x, ys, l1, l2, rfl, rfl, h1, h2⟩ := tres_cons.mp h
    exact vws_cons.mpr ⟨x, ys, rfl, Tre.vw t x l1 h1, Tres.vw ts ys l2 h2⟩
end
mutual
/-- plain trees: of texts, numbers, truths, None, tuples and lists -/
def isTree : D → Bool
  | .tup xs => isTrees xs
  | .lst xs => isTrees xs
  | .lk _ => false
  | .ref _ => false
  | _ => true
def isTrees : List D → Bool
  | [] => true
  | x :: xs => isTree x && isTrees xs
end
mutual
theorem tree_vw : ∀ t : D, isTree t = true → Vw mu t t
  | .non, _ => by simp only [Vw]
  | .bl b, _ => by simp only [Vw]
  | .int i, _ => by simp only [Vw]
  | .str s, _ => by simp only [Vw]
  | .tup ts, h => vw_tup.mpr ⟨ts, rfl, trees_vw ts (by simpa only [isTree] using h)⟩
  | .lst ts, h => vw_lst.mpr ⟨ts, .inl rfl, trees_vw ts (by simpa only [isTree] using h)⟩
  | .lk _, h => by simp [isTree] at h
  | .ref _, h => by simp [isTree] at h
theorem trees_vw : ∀ ts : List D, isTrees ts = true → Vws mu ts ts
  | [], _ => vws_nil.mpr rfl
  | t :: ts, h => by
    simp only [isTrees, Bool.and_eq_true] at h
    exact vws_cons.mpr ⟨t, ts, rfl, tree_vw t h.1, trees_vw ts h.2⟩
end
/-- from one state of the cells to a later one: what stood outside l stands; l' are of l, or new -/
structure Chg (mu mu' : List Cell) (l l' : List Nat) : Prop where
  len : mu.length ≤ mu'.length
  out : ∀ m, m < mu.length → m ∉ l → mu'[m]? = mu[m]?
  own : ∀ m ∈ l', m ∈ l ∨ mu.length ≤ m
  nd : l.Nodup → l'.Nodup
theorem Chg.refl (mu : List Cell) (l : List Nat) : Chg mu mu l l := ⟨Nat.le_refl _, fun _ _ _ => rfl, fun _ h => .inl h, fun h => h⟩
theorem Chg.trans {mu1 mu2 : List Cell} {l1 l2 : List Nat} (a : Chg mu mu1 l l1) (b : Chg mu1 mu2 l1 l2) : Chg mu mu2 l l2 where
  len := Nat.le_trans a.len b.len
  out := fun m hm hn => by
    rw [b.out m (Nat.lt_of_lt_of_le hm a.len) fun z => (a.own m z).elim hn fun z => absurd hm (by omega)]
    exact a.out m hm hn
  own := fun m hm => (b.own m hm).elim (a.own m) fun z => .inr (Nat.le_trans a.len z)
  nd := fun h => b.nd (a.nd h)
theorem get_app {n : Nat} {c : Cell} {k : List Cell} (h : mu[n]? = some c) : (mu ++ k)[n]? = some c := by
  rw [List.getElem?_append_left (List.getElem?_eq_some_iff.mp h).1, h]
theorem app_frame {k : List Cell} (h : ∀ m ∈ l, m < mu.length) : ∀ m ∈ l, (mu ++ k)[m]? = mu[m]? := fun m hm => List.getElem?_append_left (h m hm)
theorem Tre.app {k : List Cell} (h : Tre mu t d l) : Tre (mu ++ k) t d l := Tre.frame t d l h (app_frame (Tre.lt t d l h))
theorem Tres.app {k : List Cell} (h : Tres mu ts xs l) : Tres (mu ++ k) ts xs l := Tres.frame ts xs l h (app_frame (Tres.lt ts xs l h))
theorem Tre.new (h : Tres mu ts xs l) : Tre (mu ++ [.lst xs]) (.lst ts) (.ref mu.length) (mu.length :: l) :=
  tre_lst.mpr ⟨_, xs, l, rfl, rfl, by simp, h.app⟩
theorem Chg.new (h : ∀ m ∈ l, m < mu.length) {c : Cell} : Chg mu (mu ++ [c]) l (mu.length :: l) where
  len := by simp
  out := fun m hm _ => List.getElem?_append_left hm
  own := fun m hm => (List.mem_cons.mp hm).elim (fun z => .inr (by omega)) .inl
  nd := fun hn => List.nodup_cons.mpr ⟨fun z => absurd (h _ z) (by omega), hn⟩
/-- what another one owns stands -/
theorem Chg.keep (c : Chg mu mu' l k) {q : List Nat} (hq : ∀ m ∈ q, m < mu.length) (hd : ∀ m ∈ q, m ∉ l) : ∀ m ∈ q, mu'[m]? = mu[m]? := fun m hm => c.out m (hq m hm) (hd m hm)
/-- one part of what is owned is changed -/
theorem Chg.part {p q : List Nat} (c : Chg mu mu' l k) (hp : ∀ m ∈ p, m < mu.length) (hq : ∀ m ∈ q, m < mu.length) : Chg mu mu' (p ++ (l ++ q)) (p ++ (k ++ q)) where
  len := c.len
  out := fun m hm hn => c.out m hm fun z => hn (by simp [z])
  own := fun m hm => by
    simp only [List.mem_append] at hm ⊢
    rcases hm with hm | hm | hm
    · exact .inl (.inl hm)
    · exact (c.own m hm).elim (fun z => .inl (.inr (.inl z))) .inr
    · exact .inl (.inr (.inr hm))
  nd := fun hn => by
    simp only [List.nodup_append] at hn ⊢
    obtain ⟨h1, ⟨h2, h3, h4⟩, h5⟩ := hn
    refine ⟨h1, ⟨c.nd h2, h3, fun a ha b hb e => ?_⟩, fun a ha b hb e => ?_⟩
    · subst e
      rcases c.own a ha with z | z
      · exact h4 a z a hb rfl
      · have := hq a hb; omega
    · subst e
      rcases List.mem_append.mp hb with hb | hb
      · rcases c.own a hb with z | z
        · exact h5 a ha a (by simp [z]) rfl
        · have := hp a ha; omega
      · exact h5 a ha a (by simp [hb]) rfl
end
/-! ### the words -/
section
variable {mu : List Cell} {sl : List Slot}
theorem dIx_lastL {xs : List D} {d : D} (h : xs.getLast? = some d) : dIx mu (.lst xs) (.int (-1)) = some d := by
  show atI xs (-1) = _
  have hn : xs ≠ [] := fun z => by subst z; cases h
  have hl : 0 < xs.length := List.length_pos_iff.mpr hn
  unfold atI ixN
  rw [if_neg (by decide), if_pos (by omega)]
  rw [List.getLast?_eq_getElem?] at h
  show xs[((-1 : Int) + xs.length).toNat]? = _
  rw [show ((-1 : Int) + xs.length).toNat = xs.length - 1 by omega]
  exact h
@[simp] theorem dIx_snoc (xs : List D) (d : D) : dIx mu (.lst (xs ++ [d])) (.int (-1)) = some d := dIx_lastL (by simp)
theorem dIxC_at {n i : Nat} {xs : List D} {x : D} (e : mu[n]? = some (.lst xs)) (h : xs[i]? = some x) : dIx mu (dr mu (.ref n)) (.int (i : Nat)) = some x := by
  rw [dr_ref e]
  exact dIx_lst mu rfl h
theorem dIxC_last {n : Nat} {xs : List D} {x : D} (e : mu[n]? = some (.lst (xs ++ [x]))) : dIx mu (dr mu (.ref n)) (.int (-1)) = some x := by
  rw [dr_ref e]
  exact dIx_snoc xs x
theorem appR_of {n : Nat} {xs : List D} {y : D} (e : mu[n]? = some (.lst xs)) (h : xs.length < 16000000) : appR n y ⟨sl, mu⟩ = .ok .non ⟨sl, mu.set n (.lst (xs ++ [y]))⟩ := by
  unfold appR
  simp only [e]
  rw [show lstO (some (Cell.lst xs)) = some xs from rfl, wO_some, decide_eq_true (show xs.length < lim from h)]
  rfl
theorem popR_of {n : Nat} {xs : List D} {y : D} (e : mu[n]? = some (.lst (xs ++ [y]))) : popR n ⟨sl, mu⟩ = .ok y ⟨sl, mu.set n (.lst xs)⟩ := by
  unfold popR
  simp only [e]
  rw [show lstO (some (Cell.lst (xs ++ [y]))) = some (xs ++ [y]) from rfl, wO_some]
  simp
theorem extR_of {n : Nat} {xs ys : List D} {y : D} (e : mu[n]? = some (.lst xs)) (hy : dr mu y = .lst ys) (h : xs.length + ys.length ≤ 16000000) : extR n y ⟨sl, mu⟩ = .ok .non ⟨sl, mu.set n (.lst (xs ++ ys))⟩ := by
  unfold extR
  simp only [e, hy]
  rw [show lstO (some (Cell.lst xs)) = some xs from rfl, show listO (.lst ys) = some ys from rfl, wO_some, wO_some, decide_eq_true (show xs.length + ys.length ≤ lim from h)]
  rfl
end
@[simp] theorem q_isi2 (t t' : Ty) (f : M D) (sl : List Slot) (mu : List Cell) : mIsi2 t t' f ⟨sl, mu⟩ = (f ⟨sl, mu⟩).bind fun d st1 => wO (kdOf st1.mu d) fun k => .ok (.bl (isKd k t || isKd k t')) st1 := by
  unfold mIsi2
  congr 1
  funext d st1
  cases kdOf st1.mu d <;> rfl
@[simp] theorem q_neg (f : M D) (sl : List Slot) (mu : List Cell) : mNeg f ⟨sl, mu⟩ = (f ⟨sl, mu⟩).bind fun x st1 => mPur (dNeg x) st1 := nr rfl
@[simp] theorem dNeg_int (i : Int) : dNeg (.int i) = some (.int (-i)) := nr rfl
theorem kTuple_ref {mu : List Cell} {n : Nat} {xs : List D} (e : mu[n]? = some (.lst xs)) : kTuple mu [.ref n] = some (.tup xs) := by
  unfold kTuple
  simp only [e]
theorem kList_ref {mu : List Cell} {n : Nat} {xs : List D} (e : mu[n]? = some (.lst xs)) : kList mu [.ref n] = some (.lst xs) := by
  unfold kList
  simp only [e]
/-! ### loops -/
theorem WP.one {n : Nat} {xs : List D} {mu : List Cell} (h : mu[n]? = some (.lst xs)) : WP [(n, xs)] mu := fun p hp => by
  have : p = (n, xs) := by simpa using hp
  subst this
  exact h
theorem loopC_any {α : Type} {T : Tg} {body : MS} {w : List (Nat × List D)} (Inv : List α → ES → Prop) (hw : ∀ pre st, Inv pre st → WP w st.mu) (f : α → D) : ∀ (xs pre : List α) {st : ES},
    (∀ pre' c post st, pre ++ xs = pre' ++ c :: post → Inv pre' st → ∃ sl1, T.put (f c) st.sl = some sl1 ∧ ∃ st' a, (a = .nx ∨ a = .ct) ∧ body ⟨sl1, st.mu⟩ = .ok a st' ∧ Inv (pre' ++ [c]) st') → Inv pre st →
    ∃ st', loopC w T body (xs.map f) st = .ok .nx st' ∧ Inv (pre ++ xs) st'
  | [], pre, st, h, h0 => ⟨st, loopC_nil (hw _ _ h0), by simpa using h0⟩
  | x :: xs, pre, st, h, h0 => by
    obtain ⟨sl1, e1, st', a, ha, e2, h2⟩ := h pre x xs st rfl h0
    obtain ⟨st2, e3, h3⟩ := loopC_any Inv hw f xs (pre ++ [x]) (st := st') (fun pre' c post st e i => h pre' c post st (by rw [← e]; simp) i) h2
    refine ⟨st2, ?_, by simpa using h3⟩
    rw [List.map_cons, loopC_cons (hw _ _ h0), e1]
    show ((body _).bind _) = _
    rw [e2, R.bind_ok]
    rcases ha with rfl | rfl
    · exact e3
    · exact e3
/-- for x in xs, watched -/
theorem forC_any {α : Type} {i : Nat} {its : MI} {body : MS} {st st1 : ES} {w : List (Nat × List D)} (Inv : List α → ES → Prop) (f : α → D) (xs : List α) (hi : its st = .ok (xs.map f, w) st1) (hw : ∀ pre st, Inv pre st → WP w st.mu)
    (h : ∀ pre c post st, xs = pre ++ c :: post → Inv pre st → ∃ st', body ⟨st.sl.set i (.va (f c)), st.mu⟩ = .ok .nx st' ∧ Inv (pre ++ [c]) st') (h0 : Inv [] st1) : ∃ st', sForC (.nm i) its body st = .ok .nx st' ∧ Inv xs st' := by
  obtain ⟨st', e, q⟩ := loopC_any (T := .nm i) (body := body) (w := w) Inv hw f xs [] (st := st1) (fun pre' c post st e i => by
    obtain ⟨st', e2, q⟩ := h pre' c post st e i
    exact ⟨_, rfl, st', .nx, .inl rfl, e2, q⟩) h0
  refine ⟨st', ?_, by simpa using q⟩
  show ((its st).bind _) = _
  rw [hi, R.bind_ok]
  exact e
theorem forC_anyT {α : Type} {T : Tg} {its : MI} {body : MS} {st st1 : ES} {w : List (Nat × List D)} (Inv : List α → ES → Prop) (f : α → D) (xs : List α) (hi : its st = .ok (xs.map f, w) st1) (hw : ∀ pre st, Inv pre st → WP w st.mu)
    (h : ∀ pre c post st, xs = pre ++ c :: post → Inv pre st → ∃ sl1, T.put (f c) st.sl = some sl1 ∧ ∃ st' a, (a = .nx ∨ a = .ct) ∧ body ⟨sl1, st.mu⟩ = .ok a st' ∧ Inv (pre ++ [c]) st') (h0 : Inv [] st1) : ∃ st', sForC T its body st = .ok .nx st' ∧ Inv xs st' := by
  obtain ⟨st', e, q⟩ := loopC_any (T := T) (body := body) (w := w) Inv hw f xs [] (st := st1) h h0
  refine ⟨st', ?_, by simpa using q⟩
  show ((its st).bind _) = _
  rw [hi, R.bind_ok]
  exact e
theorem compLoopC_inv {α : Type} {T : Tg} {vs : List Nat} {elt : M D} {W : List Slot} {w : List (Nat × List D)} {f : α → D} {slf : α → List Slot} (Inv : List α → List D → List Cell → Prop) (hw : ∀ pre acc mu, Inv pre acc mu → WP w mu) : ∀ (xs pre : List α) (acc : List D) (sl' : List Slot) (mu : List Cell), wipeS sl' vs = W → acc.length + xs.length ≤ lim →
    (∀ x ∈ xs, T.put (f x) W = some (slf x) ∧ wipeS (slf x) vs = W) →
    (∀ pre' x post acc mu, pre ++ xs = pre' ++ x :: post → acc.length = pre'.length → Inv pre' acc mu → ∃ y mu', elt ⟨slf x, mu⟩ = .ok y ⟨slf x, mu'⟩ ∧ Inv (pre' ++ [x]) (acc ++ [y]) mu') → acc.length = pre.length → Inv pre acc mu →
    ∃ ys sl2 mu', wipeS sl2 vs = W ∧ compLoopC w T mYes elt vs (xs.map f) acc ⟨sl', mu⟩ = .ok ys ⟨sl2, mu'⟩ ∧ Inv (pre ++ xs) ys mu'
  | [], pre, acc, sl', mu, h1, h2, h3, h4, h5, h6 => ⟨acc, sl', mu, h1, compLoopC_nil (hw _ _ _ h6), by simpa using h6⟩
  | x :: xs, pre, acc, sl', mu, h1, h2, h3, h4, h5, h6 => by
    obtain ⟨hp, hq⟩ := h3 x (by simp)
    obtain ⟨y, mu1, e1, i1⟩ := h4 pre x xs acc mu rfl h5 h6
    simp only [List.length_cons] at h2
    obtain ⟨ys, sl2, mu', w2, e2, i2⟩ := compLoopC_inv Inv hw xs (pre ++ [x]) (acc ++ [y]) (slf x) mu1 hq (by rw [List.length_append]; show acc.length + 1 + xs.length ≤ lim; omega) (fun z hz => h3 z (by simp [hz])) (fun pre' c post acc mu e => h4 pre' c post acc mu (by rw [← e]; simp)) (by simp [h5]) i1
    refine ⟨ys, sl2, mu', w2, ?_, by simpa using i2⟩
    rw [List.map_cons, compLoopC_cons (hw _ _ _ h6)]
    show (match T.put (f x) (wipeS sl' vs) with | none => _ | some sl => _) = _
    rw [h1, hp]
    show (noEr (mYes _)).bind _ = _
    rw [show mYes ⟨slf x, mu⟩ = .ok true ⟨slf x, mu⟩ from rfl, noEr_ok, R.bind_ok, if_pos rfl, e1, noEr_ok, R.bind_ok, if_pos (show acc.length < lim by omega), e2]
theorem compC_inv {α : Type} {its : MI} {T : Tg} {vs : List Nat} {elt : M D} {st : ES} {sl : List Slot} {mu : List Cell} {w : List (Nat × List D)} (f : α → D) (slf : α → List Slot) (xs : List α) (Inv : List α → List D → List Cell → Prop) (hi : its st = .ok (xs.map f, w) ⟨sl, mu⟩)
    (hw : ∀ pre acc mu, Inv pre acc mu → WP w mu) (hl : xs.length ≤ lim) (hr : restS sl (wipeS sl vs) vs = sl) (h3 : ∀ x ∈ xs, T.put (f x) (wipeS sl vs) = some (slf x) ∧ wipeS (slf x) vs = wipeS sl vs)
    (h4 : ∀ pre x post acc mu, xs = pre ++ x :: post → acc.length = pre.length → Inv pre acc mu → ∃ y mu', elt ⟨slf x, mu⟩ = .ok y ⟨slf x, mu'⟩ ∧ Inv (pre ++ [x]) (acc ++ [y]) mu') (h0 : Inv [] [] mu) :
    ∃ ys mu', mCompC its T mYes elt vs st = .ok ys ⟨sl, mu'⟩ ∧ Inv xs ys mu' := by
  obtain ⟨ys, sl2, mu', w2, e2, i2⟩ := compLoopC_inv (T := T) (vs := vs) (elt := elt) (W := wipeS sl vs) (w := w) (f := f) (slf := slf) Inv hw xs [] [] sl mu rfl (by simpa using hl) h3 (fun pre' x post acc mu e => h4 pre' x post acc mu e) rfl h0
  refine ⟨ys, mu', ?_, i2⟩
  unfold mCompC
  rw [hi, R.bind_ok]
  show (compLoopC w T mYes elt vs (xs.map f) [] ⟨sl, mu⟩).bind _ = _
  rw [e2, R.bind_ok, w2, hr]
theorem rest_one {sl : List Slot} {i : Nat} (h : sl[i]? = some .un ∨ ∃ d, sl[i]? = some (.va d)) : restS sl (wipeS sl [i]) [i] = sl := by
  show (sl.set i .un).set i (match sl[i]? with | some (.va d) => .va d | _ => .un) = sl
  rw [List.set_set]
  rcases h with h | ⟨d, h⟩
  · rw [h]
    exact List.ext_getElem? fun j => by
      by_cases hj : i = j
      · subst hj
        have hl : i < sl.length := (List.getElem?_eq_some_iff.mp h).1
        rw [List.getElem?_set_self hl, h]
      · rw [List.getElem?_set_ne hj]
  · rw [h]
    exact List.ext_getElem? fun j => by
      by_cases hj : i = j
      · subst hj
        have hl : i < sl.length := (List.getElem?_eq_some_iff.mp h).1
        rw [List.getElem?_set_self hl, h]
      · rw [List.getElem?_set_ne hj]
/-- .. of one name -/
theorem compC_inv1 {α : Type} {its : MI} {i : Nat} {elt : M D} {st : ES} {sl : List Slot} {mu : List Cell} {w : List (Nat × List D)} (f : α → D) (xs : List α) (Inv : List α → List D → List Cell → Prop) (hi : its st = .ok (xs.map f, w) ⟨sl, mu⟩)
    (hw : ∀ pre acc mu, Inv pre acc mu → WP w mu) (hl : xs.length ≤ lim) (hsl : sl[i]? = some .un ∨ ∃ d, sl[i]? = some (.va d))
    (h4 : ∀ pre x post acc mu, xs = pre ++ x :: post → acc.length = pre.length → Inv pre acc mu → ∃ y mu', elt ⟨sl.set i (.va (f x)), mu⟩ = .ok y ⟨sl.set i (.va (f x)), mu'⟩ ∧ Inv (pre ++ [x]) (acc ++ [y]) mu') (h0 : Inv [] [] mu) :
    ∃ ys mu', mCompC its (.nm i) mYes elt [i] st = .ok ys ⟨sl, mu'⟩ ∧ Inv xs ys mu' :=
  compC_inv f (fun x => sl.set i (.va (f x))) xs Inv hi hw hl (rest_one hsl) (fun x _ => ⟨by
    show some ((sl.set i .un).set i (.va (f x))) = _
    rw [List.set_set], by
    show (sl.set i (.va (f x))).set i .un = sl.set i .un
    rw [List.set_set]⟩) h4 h0
end Pv
/-! Pv27: one cell within a tree, changed; views that go on. -/
namespace Pv
open PySem PySem.Spec L2
section
variable {mu mu' : List Cell} {t d x : D} {ts us xs ys : List D} {l k : List Nat}
/-- a tree with a hole: the cell n; l the cells else -/
def Foc (mu : List Cell) (C : D → D) (d : D) (l : List Nat) (n : Nat) : Prop :=
  ∀ (mu' : List Cell) (ts' xs' : List D) (k' : List Nat), (∀ m ∈ l, mu'[m]? = mu[m]?) → mu'[n]? = some (.lst xs') → Tres mu' ts' xs' k' → ∃ l', Tre mu' (C (.lst ts')) d l' ∧ l'.Perm (l ++ n :: k')
theorem foc_id {n : Nat} : Foc mu (fun h => h) (.ref n) [] n := fun mu' ts' xs' k' _ h g => ⟨n :: k', tre_lst.mpr ⟨n, xs', k', rfl, rfl, h, g⟩, .refl _⟩
theorem foc_tup {C : D → D} {n : Nat} {ts1 xs1 ts2 xs2 : List D} {l1 l2 : List Nat} (F : Foc mu C x l n) (h1 : Tres mu ts1 xs1 l1) (h2 : Tres mu ts2 xs2 l2) : Foc mu (fun h => .tup (ts1 ++ C h :: ts2)) (.tup (xs1 ++ x :: xs2)) (l1 ++ (l ++ l2)) n := fun mu' ts' xs' k' hf h g => by
  obtain ⟨lx, t1, p1⟩ := F mu' ts' xs' k' (fun m hm => hf m (by simp [hm])) h g
  refine ⟨l1 ++ (lx ++ l2), tre_tup.mpr ⟨_, rfl, (Tres.frame _ _ _ h1 fun m hm => hf m (by simp [hm])).append (.cons' t1 (Tres.frame _ _ _ h2 fun m hm => hf m (by simp [hm])))⟩, ?_⟩
  rw [List.perm_iff_count] at p1 ⊢
  intro a
  have := p1 a
  simp only [List.count_append, List.count_cons] at this ⊢
  omega
theorem foc_lst {C : D → D} {n m : Nat} {ts1 xs1 ts2 xs2 : List D} {l1 l2 : List Nat} (F : Foc mu C x l n) (e : mu[m]? = some (.lst (xs1 ++ x :: xs2))) (h1 : Tres mu ts1 xs1 l1) (h2 : Tres mu ts2 xs2 l2) : Foc mu (fun h => .lst (ts1 ++ C h :: ts2)) (.ref m) (m :: (l1 ++ (l ++ l2))) n := fun mu' ts' xs' k' hf h g => by
  obtain ⟨lx, t1, p1⟩ := F mu' ts' xs' k' (fun m hm => hf m (by simp [hm])) h g
  refine ⟨m :: (l1 ++ (lx ++ l2)), tre_lst.mpr ⟨m, _, _, rfl, rfl, by rw [hf m (by simp)]; exact e, (Tres.frame _ _ _ h1 fun m hm => hf m (by simp [hm])).append (.cons' t1 (Tres.frame _ _ _ h2 fun m hm => hf m (by simp [hm])))⟩, ?_⟩
  rw [List.perm_iff_count] at p1 ⊢
  intro a
  have := p1 a
  simp only [List.count_append, List.count_cons] at this ⊢
  omega
theorem foc_last {C : D → D} {n m : Nat} {ts1 xs1 : List D} {l1 : List Nat} (F : Foc mu C x l n) (e : mu[m]? = some (.lst (xs1 ++ [x]))) (h1 : Tres mu ts1 xs1 l1) : Foc mu (fun h => .lst (ts1 ++ [C h])) (.ref m) (m :: (l1 ++ (l ++ []))) n := foc_lst F e h1 .nil'
/-- one more at the hole; more cells behind -/
theorem Foc.push {C : D → D} {n : Nat} {ex : List Cell} {y : D} {q : List Nat} (F : Foc mu C d l n) (hl : ∀ m ∈ l, m < mu.length) (hx : mu[n]? = some (.lst xs)) (ht : Tres mu ts xs k) (nd : (l ++ n :: k).Nodup) (hy : Tre (mu ++ ex) t y q) (hq : ∀ m ∈ q, mu.length ≤ m) (nq : q.Nodup) :
    ∃ l', Tre ((mu ++ ex).set n (.lst (xs ++ [y]))) (C (.lst (ts ++ [t]))) d l' ∧ Chg mu ((mu ++ ex).set n (.lst (xs ++ [y]))) (l ++ n :: k) l' := by
  have hn : n < mu.length := (List.getElem?_eq_some_iff.mp hx).1
  obtain ⟨n1, n2, n3⟩ := List.nodup_append.mp nd
  obtain ⟨n4, n5⟩ := List.nodup_cons.mp n2
  have hnl : n ∉ l := fun z => n3 n z n (by simp) rfl
  have f1 : ∀ m, m < mu.length → m ≠ n → ((mu ++ ex).set n (.lst (xs ++ [y])))[m]? = mu[m]? := fun m hm hne => by
    rw [List.getElem?_set_ne (Ne.symm hne), List.getElem?_append_left hm]
  have hk := Tres.lt _ _ _ ht
  have t1 : Tres ((mu ++ ex).set n (.lst (xs ++ [y]))) ts xs k := Tres.frame _ _ _ ht fun m hm => f1 m (hk m hm) fun z => n4 (z ▸ hm)
  have t2 : Tre ((mu ++ ex).set n (.lst (xs ++ [y]))) t y q := Tre.frame _ _ _ hy fun m hm => by
    rw [List.getElem?_set_ne]
    have := hq m hm
    omega
  obtain ⟨l', p1, p2⟩ := F _ (ts ++ [t]) (xs ++ [y]) (k ++ q) (fun m hm => f1 m (hl m hm) fun z => hnl (z ▸ hm)) (by
    rw [List.getElem?_set_self]
    rw [List.length_append]
    omega) (t1.snoc t2)
  refine ⟨l', p1, ⟨by rw [List.length_set, List.length_append]; omega, fun m hm hne => f1 m hm fun z => hne (by rw [z]; simp), fun m hm => ?_, fun _ => ?_⟩⟩
  · have := p2.mem_iff.mp hm
    simp only [List.mem_append, List.mem_cons] at this ⊢
    rcases this with z | z | z | z
    · exact .inl (.inl z)
    · exact .inl (.inr (.inl z))
    · exact .inl (.inr (.inr z))
    · exact .inr (hq m z)
  · refine p2.nodup_iff.mpr (List.nodup_append.mpr ⟨n1, List.nodup_cons.mpr ⟨fun z => ?_, List.nodup_append.mpr ⟨n5, nq, fun a ha b hb e => ?_⟩⟩, fun a ha b hb e => ?_⟩)
    · rcases List.mem_append.mp z with z | z
      · exact n4 z
      · have := hq n z; omega
    · have := hk a ha
      have := hq b hb
      omega
    · subst e
      rcases List.mem_cons.mp hb with rfl | hb
      · exact hnl ha
      · rcases List.mem_append.mp hb with z | z
        · exact n3 a ha a (by simp [z]) rfl
        · have := hq a z
          have := hl a ha
          omega
/-- cells that stand as they were, all of them -/
def Ext (mu mu' : List Cell) : Prop := ∀ (n : Nat) (c : Cell), mu[n]? = some c → mu'[n]? = some c
theorem Ext.app (mu ex : List Cell) : Ext mu (mu ++ ex) := fun _ _ h => get_app h
mutual
theorem Vw.ext (h : Ext mu mu') : ∀ (t d : D), Vw mu t d → Vw mu' t d
  | .non, d, g => by simpa only [Vw] using g
  | .bl b, d, g => by simpa only [Vw] using g
  | .int i, d, g => by simpa only [Vw] using g
  | .str s, d, g => by simpa only [Vw] using g
  | .tup ts, d, g => by
    obtain ⟨xs, rfl, g2⟩ := vw_tup.mp g
    exact vw_tup.mpr ⟨xs, rfl, Vws.ext h ts xs g2⟩
  | .lst ts, d, g => by
    obtain ⟨xs, e, g⟩ := vw_lst.mp g
    refine vw_lst.mpr ⟨xs, ?_, Vws.ext h ts xs g⟩
    rcases e with e | ⟨n, e, q⟩
    · exact .inl e
    · exact .inr ⟨n, e, h n _ q⟩
  | .lk _, d, g => by simpa only [Vw] using g
  | .ref _, d, g => by simpa only [Vw] using g
theorem Vws.ext (h : Ext mu mu') : ∀ (ts xs : List D), Vws mu ts xs → Vws mu' ts xs
  | [], xs, g => by simpa only [Vws] using g
  | t :: ts, xs, g => by
    obtain ⟨x, ys, rfl, h1, h2⟩ := vws_cons.mp g
    exact vws_cons.mpr ⟨x, ys, rfl, Vw.ext h t x h1, Vws.ext h ts ys h2⟩
end
/-- with what is read of each -/
theorem Vws.zip {α : Type} {g : α → D} : ∀ {as : List α} {xs : List D}, Vws mu (as.map g) xs → ∃ zs : List (α × D), zs.map (·.1) = as ∧ zs.map (·.2) = xs ∧ ∀ z ∈ zs, Vw mu (g z.1) z.2
  | [], xs, h => ⟨[], rfl, (vws_nil.mp h).symm, by simp⟩
  | a :: as, xs, h => by
    obtain ⟨x, ys, rfl, h1, h2⟩ := vws_cons.mp h
    obtain ⟨zs, e1, e2, h3⟩ := Vws.zip (as := as) h2
    exact ⟨(a, x) :: zs, by simp [e1], by simp [e2], fun z hz => by
      rcases List.mem_cons.mp hz with rfl | hz
      · exact h1
      · exact h3 z hz⟩
theorem vw_src {mu : List Cell} {ts : List D} {d : D} (h : Vw mu (.lst ts) d) : ∃ xs w, Vws mu ts xs ∧ srcOf mu d = some (xs, w) ∧ WP w mu ∧ ∀ mu', Ext mu mu' → WP w mu' := by
  obtain ⟨xs, e, g⟩ := vw_lst.mp h
  rcases e with rfl | ⟨n, rfl, q⟩
  · exact ⟨xs, [], g, rfl, WP.nil, fun _ _ => WP.nil⟩
  · refine ⟨xs, [(n, xs)], g, ?_, WP.one q, fun mu' he => WP.one (he _ _ q)⟩
    unfold srcOf
    simp only [q]
    rfl
theorem itR_src {mu : List Cell} {d : D} {p : List D × List (Nat × List D)} (h : srcOf mu d = some p) (sl : List Slot) : itR d ⟨sl, mu⟩ = .ok p ⟨sl, mu⟩ := by
  unfold itR
  simp only [h]
@[simp] theorem q_zpC (f g : M D) (sl : List Slot) (mu : List Cell) : mZpC (mCons f (mCons g mNil)) ⟨sl, mu⟩ = (f ⟨sl, mu⟩).bind fun x st1 => (g st1).bind fun y st2 => wO (srcOf st2.mu x) fun p => wO (srcOf st2.mu y) fun q => .ok (zipD p.1 q.1, p.2 ++ q.2) st2 := by
  unfold mZpC
  rw [mCons2]
  cases f ⟨sl, mu⟩ with
  | ok x st1 =>
    simp only [R.bind_ok]
    cases g st1 with
    | ok y st2 =>
      simp only [R.bind_ok]
      cases srcOf st2.mu x with
      | none => rfl
      | some p =>
        cases srcOf st2.mu y with
        | none => rfl
        | some q => rfl
    | er e s => rfl
    | bad => rfl
  | er e s => rfl
  | bad => rfl
@[simp] theorem q_enC (f : M D) (sl : List Slot) (mu : List Cell) : mEnC (mCons f mNil) ⟨sl, mu⟩ = (f ⟨sl, mu⟩).bind fun x st1 => wO (srcOf st1.mu x) fun p => .ok (enumD p.1, p.2) st1 := by
  unfold mEnC
  simp only [q_cons]
  cases f ⟨sl, mu⟩ with
  | ok x st1 =>
    obtain ⟨sl1, mu1⟩ := st1
    simp only [R.bind_ok, q_nil]
    cases srcOf mu1 x with
    | none => rfl
    | some p => rfl
  | er e s => rfl
  | bad => rfl
theorem rest_two {sl : List Slot} {i j : Nat} (hne : i ≠ j) (h : sl[i]? = some .un ∨ ∃ d, sl[i]? = some (.va d)) (h' : sl[j]? = some .un ∨ ∃ d, sl[j]? = some (.va d)) : restS sl (wipeS sl [i, j]) [i, j] = sl := by
  have hi : i < sl.length := by rcases h with h | ⟨d, h⟩ <;> exact (List.getElem?_eq_some_iff.mp h).1
  have hj : j < sl.length := by rcases h' with h | ⟨d, h⟩ <;> exact (List.getElem?_eq_some_iff.mp h).1
  show ((((sl.set j .un).set i .un).set j _).set i _) = sl
  refine List.ext_getElem? fun q => ?_
  by_cases q1 : i = q
  · subst q1
    rw [List.getElem?_set_self (by simpa using hi)]
    rcases h with h | ⟨d, h⟩ <;> rw [h]
  · rw [List.getElem?_set_ne q1]
    by_cases q2 : j = q
    · subst q2
      rw [List.getElem?_set_self (by simpa using hj)]
      rcases h' with h | ⟨d, h⟩ <;> rw [h]
    · rw [List.getElem?_set_ne q2, List.getElem?_set_ne q1, List.getElem?_set_ne q2]
/-- a turn that goes on -/
theorem loop_step {T : Tg} {body : MS} {d : D} {ys : List D} {st st' : ES} {sl : List Slot} (hp : T.put d st.sl = some sl) (h : body ⟨sl, st.mu⟩ = .ok .nx st') : loop T body (d :: ys) st = loop T body ys st' := by
  conv => lhs; unfold loop
  rw [hp]
  show ((body _).bind _) = _
  rw [h]
  rfl
mutual
theorem Vw.look : ∀ (t : D) (n : Nat) (d : D), isTree t = true → cdp t ≤ n → Vw mu t d → look n mu d = t
  | .non, n, d, _, _, h => by simp only [Vw] at h; rw [h]; exact look_data rfl
  | .bl b, n, d, _, _, h => by simp only [Vw] at h; rw [h]; exact look_data rfl
  | .int i, n, d, _, _, h => by simp only [Vw] at h; rw [h]; exact look_data rfl
  | .str s, n, d, _, _, h => by simp only [Vw] at h; rw [h]; exact look_data rfl
  | .tup ts, n, d, ht, hn, h => by
    obtain ⟨xs, rfl, g⟩ := vw_tup.mp h
    have e := Vws.look ts n xs (by simpa only [isTree] using ht) (by simpa only [cdp] using hn) g
    cases n with
    | zero =>
      show D.tup xs = .tup ts
      have : xs.map (Pv.look 0 mu) = xs := by
        show xs.map (fun d => d) = xs
        simp
      rw [← e, this]
    | succ n => rw [look_tup, e]
  | .lst ts, n, d, ht, hn, h => by
    obtain ⟨xs, q, g⟩ := vw_lst.mp h
    simp only [cdp] at hn
    have ht : isTrees ts = true := by simpa only [isTree] using ht
    cases n with
    | zero => omega
    | succ n =>
      rcases q with rfl | ⟨m, rfl, q⟩
      · rw [look_lst, Vws.look ts (n + 1) xs ht (by omega) g]
      · have e := Vws.look ts n xs ht (by omega) g
        show (match mu[m]? with
          | some (.lst xs) => D.lst (xs.map (Pv.look n mu))
          | _ => .ref m) = _
        rw [q]
        show D.lst (xs.map (Pv.look n mu)) = _
        rw [e]
  | .lk _, n, d, ht, _, h => by simp [isTree] at ht
  | .ref _, n, d, ht, _, h => by simp [isTree] at ht
theorem Vws.look : ∀ (ts : List D) (n : Nat) (xs : List D), isTrees ts = true → cdps ts ≤ n → Vws mu ts xs → xs.map (look n mu) = ts
  | [], n, xs, _, _, h => by rw [vws_nil.mp h]; rfl
  | t :: ts, n, xs, ht, hn, h => by
    obtain ⟨x, ys, rfl, h1, h2⟩ := vws_cons.mp h
    simp only [cdps] at hn
    simp only [isTrees, Bool.and_eq_true] at ht
    rw [List.map_cons, Vw.look t n x ht.1 (by omega) h1, Vws.look ts n ys ht.2 (by omega) h2]
end
mutual
theorem Vw.noL : ∀ (t d : D), noL t = true → Vw mu t d → d = t
  | .non, d, _, h => by simpa only [Vw] using h
  | .bl b, d, _, h => by simpa only [Vw] using h
  | .int i, d, _, h => by simpa only [Vw] using h
  | .str s, d, _, h => by simpa only [Vw] using h
  | .tup ts, d, ht, h => by
    obtain ⟨xs, rfl, g⟩ := vw_tup.mp h
    rw [Vws.noL ts xs (by simpa only [noL_tup] using ht) g]
  | .lst ts, d, ht, h => by simp at ht
  | .lk _, n, ht, h => by simp [Pv.noL] at ht
  | .ref _, n, ht, h => by simp [Pv.noL] at ht
theorem Vws.noL : ∀ (ts xs : List D), noLs ts = true → Vws mu ts xs → xs = ts
  | [], xs, _, h => vws_nil.mp h
  | t :: ts, xs, ht, h => by
    obtain ⟨x, ys, rfl, h1, h2⟩ := vws_cons.mp h
    simp only [noL_cons, Bool.and_eq_true] at ht
    rw [Vw.noL t x ht.1 h1, Vws.noL ts ys ht.2 h2]
end
theorem enum_range (xs : List D) : enumD xs = (List.range xs.length).map fun k => .tup [.int (k : Nat), xs.getD k .non] := by
  unfold enumD
  refine List.ext_getElem? fun k => ?_
  rw [List.getElem?_mapIdx, List.getElem?_map]
  by_cases h : k < xs.length
  · rw [List.getElem?_eq_getElem h, List.getElem?_range h]
    simp [List.getD_eq_getElem?_getD, h]
  · rw [List.getElem?_eq_none (by omega), List.getElem?_eq_none (by simp; omega)]
    rfl
theorem kAll_of {α : Type} {f : α → D} : ∀ {xs : List α}, (∀ x ∈ xs, f x = .bl true) → kAll mu [.lst (xs.map f)] = some (.bl true) := fun {xs} h => by
  have : ∀ xs : List α, (∀ x ∈ xs, f x = .bl true) → blsOf (xs.map f) = some (xs.map fun _ => true) := fun xs => by
    induction xs with
    | nil => intro _; rfl
    | cons x xs ih =>
      intro h
      rw [List.map_cons, h x (by simp), List.map_cons]
      unfold blsOf
      rw [ih fun y hy => h y (by simp [hy])]
      rfl
  show (blsOf _).map _ = _
  rw [this xs h]
  simp
/-- a comprehension whose elements change nothing, watched -/
theorem compC_pure {α : Type} {its : MI} {i : Nat} {elt : M D} {st : ES} {sl : List Slot} {w : List (Nat × List D)} (f g : α → D) (xs : List α) (hi : its st = .ok (xs.map f, w) ⟨sl, mu⟩) (hw : WP w mu) (hl : xs.length ≤ 16000000) (hsl : sl[i]? = some .un ∨ ∃ d, sl[i]? = some (.va d))
    (h : ∀ x ∈ xs, elt ⟨sl.set i (.va (f x)), mu⟩ = .ok (g x) ⟨sl.set i (.va (f x)), mu⟩) : mCompC its (.nm i) mYes elt [i] st = .ok (xs.map g) ⟨sl, mu⟩ := by
  obtain ⟨ys, mu', e, e1, e2⟩ := compC_inv1 (mu := mu) (i := i) (elt := elt) f xs (fun pre acc mu' => acc = pre.map g ∧ mu' = mu) hi (fun _ _ _ h => by rw [h.2]; exact hw) hl hsl (by
    rintro pre x post acc mu' hx _ ⟨rfl, rfl⟩
    exact ⟨g x, _, h x (by rw [hx]; simp), by simp, rfl⟩) ⟨rfl, rfl⟩
  rw [e, e1, e2]
end
section
@[simp] theorem q_pop (i : Nat) (sl : List Slot) (mu : List Cell) : mPop i ⟨sl, mu⟩ = wO (acO sl[i]?) fun xs => wO xs.getLast? fun y => .ok y ⟨sl.set i (.ac xs.dropLast), mu⟩ := by
  unfold mPop
  show (match sl[i]? with | _ => _) = _
  cases sl[i]? with
  | none => rfl
  | some s =>
    cases s with
    | ac xs =>
      show (match xs.getLast? with | _ => _) = wO xs.getLast? _
      cases xs.getLast? <;> rfl
    | _ => rfl
theorem dJoin_sep {α : Type} (mu : List Cell) {f : α → List Nat} {sep : List Nat} {xs : List α} (h : (xs.map fun x => (f x).length).sum + xs.length * sep.length ≤ 16000000) : dJoin mu (.str sep) (.lst (xs.map fun x => .str (f x))) = some (.str (joinS sep (xs.map f))) := by
  unfold dJoin
  show (match strsOf (xs.map fun x => .str (f x)) with | _ => _) = _
  rw [strsOf_map]
  have e : ((xs.map f).map (·.length)).sum + (xs.map f).length * sep.length = (xs.map fun x => (f x).length).sum + xs.length * sep.length := by
    simp [Function.comp_def]
  show (if _ then _ else _) = _
  rw [if_pos (by rw [e]; exact h)]
end
end Pv
/-! Pv31: the words of Pv30 by simp. -/
namespace Pv
open PySem PySem.Spec L2
section
variable (f g h : M D) (fs : M (List D)) (sl : List Slot) (mu : List Cell)
def dctD (mu : List Cell) (d : D) : Option (List (Key × D)) := dctC mu d
theorem dctC_ref (n : Nat) : dctC mu (.ref n) = dctO mu[n]? := by
  cases h : mu[n]? with
  | none => simp only [dctC, dctO, h]
  | some c => cases c <;> simp only [dctC, dctO, h]
theorem dctC_of {mu : List Cell} {n : Nat} {kvs : List (Key × D)} (h : mu[n]? = some (.dct kvs)) : dctC mu (.ref n) = some kvs := by
  rw [dctC_ref, h]
  rfl
@[simp] theorem q_dictOf : mDictOf f ⟨sl, mu⟩ = (f ⟨sl, mu⟩).bind fun x st1 => wO (dctC st1.mu x) fun kvs => .ok (.ref st1.mu.length) ⟨st1.sl, st1.mu ++ [.dct kvs]⟩ := by
  unfold mDictOf
  congr 1
  funext x st1
  cases dctC st1.mu x <;> rfl
def revR (d : D) (st : ES) : R D := match d with
  | .lst xs => .ok (.lst xs.reverse) st
  | _ => .bad
@[simp] theorem revR_lst (xs : List D) (st : ES) : revR (.lst xs) st = .ok (.lst xs.reverse) st := nr rfl
@[simp] theorem q_revS : mRevS f ⟨sl, mu⟩ = (f ⟨sl, mu⟩).bind fun d st1 => revR (dr st1.mu d) st1 := nr rfl
def pickR (hs : List Fn) (d : D) (fs : M (List D)) (st : ES) : R D := match d with
  | .int i => wO (atI hs i) fun h => mCall h fs st
  | _ => .bad
@[simp] theorem pickR_int (hs : List Fn) (i : Int) (st : ES) : pickR hs (.int i) fs st = wO (atI hs i) fun h => mCall h fs st := nr rfl
@[simp] theorem q_pick (hs : List Fn) : mPick hs f fs ⟨sl, mu⟩ = (f ⟨sl, mu⟩).bind fun d st1 => pickR hs d fs st1 := by
  unfold mPick pickR
  congr 1
  funext d st1
  cases d with
  | int i =>
    show (match atI hs i with | _ => _) = wO (atI hs i) _
    cases atI hs i <;> rfl
  | _ => rfl
def dctSetR (v x k : D) (st : ES) : R Fl := wO (refO x) fun n => wO (dctO st.mu[n]?) fun kvs => wO (keyD k) fun k => sel (decide (kvs.length < 1000)) (.ok .nx ⟨st.sl, st.mu.set n (.dct (dPut kvs k v))⟩) .bad
@[simp] theorem q_dctSet : sDctSet f g h ⟨sl, mu⟩ = (f ⟨sl, mu⟩).bind fun v st1 => (g st1).bind fun x st2 => (h st2).bind fun k st3 => dctSetR v x k st3 := by
  unfold sDctSet
  congr 1
  funext v st1
  congr 1
  funext x st2
  congr 1
  funext k st3
  unfold dctSetR sel
  cases x with
  | ref n =>
    simp only [refO_ref]
    show _ = wO (dctO st3.mu[n]?) _
    cases e : st3.mu[n]? with
    | none => rfl
    | some c =>
      cases c with
      | dct kvs =>
        simp only [dctO_some]
        show _ = wO (keyD k) _
        cases keyD k with
        | none => rfl
        | some k =>
          show (if _ then _ else _) = _
          simp only [decide_eq_true_eq]
          rfl
      | lst xs =>
        show (match some (Cell.lst xs), keyD k with | _, _ => _) = _
        cases keyD k <;> rfl
      | ins c fs =>
        show (match some (Cell.ins c fs), keyD k with | _, _ => _) = _
        cases keyD k <;> rfl
  | _ => rfl
@[simp] theorem cW_lt : dCmpW .Lt = dCmp .Lt := nr rfl
@[simp] theorem cW_le : dCmpW .LtE = dCmp .LtE := nr rfl
@[simp] theorem cW_gt : dCmpW .Gt = dCmp .Gt := nr rfl
@[simp] theorem cW_ge : dCmpW .GtE = dCmp .GtE := nr rfl
@[simp] theorem cW_nin : dCmpW .NotIn = dCmp .NotIn := nr rfl
@[simp] theorem cW_is : dCmpW .Is = dCmp .Is := nr rfl
@[simp] theorem cW_isn : dCmpW .IsNot = dCmp .IsNot := nr rfl
theorem eqRB_atom {F : D → D → Bool} {x y : D} (h : lstC mu x = none ∨ lstC mu y = none) (h2 : dctC mu x = none ∨ dctC mu y = none) : eqRB mu F x y = false := by
  unfold eqRB
  rcases h with h | h <;> rcases h2 with h2 | h2
  · rw [h, h2]; rfl
  · rw [h, h2]; cases dctC mu x <;> rfl
  · rw [h, h2]; cases lstC mu x <;> rfl
  · rw [h, h2]; cases lstC mu x <;> cases dctC mu x <;> rfl
@[simp] theorem cW_eq_int (i j : Int) : dCmpW .Eq mu (.int i) (.int j) = some (.bl (decide (i = j))) := by
  show dEqW mu _ _ = _
  unfold dEqW
  rw [eqRB_atom mu (.inl rfl) (.inl rfl), if_neg (by decide), if_neg (by intro z; cases z)]
  show dCmpL .Eq mu _ _ = _
  simp
@[simp] theorem cW_eq_nil (xs : List D) : dCmpW .Eq mu (.lst xs) (.lst []) = some (.bl xs.isEmpty) := by
  show dEqW mu _ _ = _
  unfold dEqW eqRB lenDiff lstC dctC
  cases xs <;> simp
@[simp] theorem cW_ne_nil (xs : List D) : dCmpW .NotEq mu (.lst xs) (.lst []) = some (.bl !xs.isEmpty) := by
  show dNeW mu _ _ = _
  cases xs with
  | nil =>
    rw [dNeW, if_neg (by intro z; cases z), if_neg (by simp [lenDiff, lstC])]
    show dCmpL .NotEq mu _ _ = _
    rw [cL_ne_data mu rfl rfl, dCmp_ne]
    simp [dNe, canEq, isData, isDataAll, dep, depAll]
  | cons x xs => rw [dNeW, if_neg (by intro z; cases z), if_pos (by simp [lenDiff, lstC])]; rfl
@[simp] theorem cW_ne_bl (a b : Bool) : dCmpW .NotEq mu (.bl a) (.bl b) = some (.bl (!(a == b))) := by
  show dNeW mu _ _ = _
  rw [dNeW, if_neg (by intro z; cases z), if_neg (by intro z; cases z)]
  show dCmpL .NotEq mu _ _ = _
  rw [cL_ne_data mu rfl rfl, dCmp_ne]
  simp [dNe, canEq, isData, dep]
theorem sameA_self {x : D} (h : atomV x = true ∨ ∃ n, x = .ref n) : sameA x x = true := by
  rcases h with h | ⟨n, rfl⟩
  · cases x <;> first | rfl | (cases h; done) | (simp [sameA]; done) | (simp [atomV] at h)
  · simp [sameA]
theorem cW_ne_same {xs : List D} (h : ∀ x ∈ xs, atomV x = true ∨ ∃ n, x = .ref n) : dCmpW .NotEq mu (.tup xs) (.tup xs) = some (.bl false) := by
  show dNeW mu _ _ = _
  unfold dNeW
  rw [if_pos]
  unfold sameT
  simp only [decide_true, Bool.true_and]
  rw [List.all_eq_true]
  intro p hp
  have e : p.1 = p.2 ∧ p.1 ∈ xs := by
    clear h
    induction xs with
    | nil => cases hp
    | cons y ys ih =>
      rw [List.zip_cons_cons] at hp
      rcases List.mem_cons.mp hp with rfl | hp
      · simp
      · obtain ⟨a, b⟩ := ih hp
        exact ⟨a, List.mem_cons_of_mem _ b⟩
  rw [← e.1]
  exact sameA_self (h _ e.2)
@[simp] theorem cW_eq_str1 (a : List Nat) : dCmpW .Eq mu (.lst [.str a]) (.lst [.str a]) = some (.bl true) := by
  show dEqW mu _ _ = _
  unfold dEqW
  rw [if_pos]
  unfold eqRB lstC eqUB
  simp [canEq, isData, dep]
theorem cW_in {mu : List Cell} {n : Nat} {L : List (Key × D)} (h : mu[n]? = some (.dct L)) (s : List Nat) : dCmpW .In mu (.str s) (.ref n) = some (.bl (valD L (.inr ⟨s.toArray⟩)).isSome) := by
  show dInW mu _ _ = _
  unfold dInW
  rw [dctC_of h, keyD_str]
end
end Pv
namespace Lw
open PySem PySem.Spec L2 Pv
def top (i : Nat) : Stmt := PySem.Challenge.pw_sealpress_k81_scopes.main.body.getD i (.Pass ⟨0, 0, 0, 0⟩)
def gls : List (Str × D) := [("SIGNS", (.str SIGNS)), ("MOST_ROWS", (.int 60))]
def gl (x : Str) : Option D := gls.lookup x
def bn : List Str := ["len", "int", "list", "isinstance", "range", "str", "bool", "dict", "enumerate", "reversed"]
def md (l c : Nat) : Nat := if l = 44 then (if c = 11 then 9 else 0) else if l = 45 then (if c = 19 then 4 else 0) else if l = 108 then (if c = 16 then 4 else 0) else if l = 115 then (if c = 17 then 4 else if c = 77 then 9 else 0) else if l = 116 then (if c = 7 then 9 else 0) else if l = 119 then (if c = 7 then 9 else if c = 69 then 9 else 0) else if l = 121 then (if c = 7 then 9 else if c = 26 then 9 else 0) else if l = 123 then (if c = 7 then 9 else if c = 68 then 9 else 0) else if l = 125 then (if c = 7 then 9 else if c = 26 then 9 else 0) else if l = 144 then (if c = 11 then 9 else 0) else if l = 145 then (if c = 30 then 4 else 0) else if l = 148 then (if c = 28 then 9 else if c = 65 then 9 else 0) else if l = 161 then (if c = 15 then 9 else if c = 51 then 9 else 0) else if l = 166 then (if c = 11 then 9 else 0) else 0
def xex : List (Str × List (Str × Nat) × Nat) := [("NoValue", ([("name", 1)] : List (Str × Nat)), 1), ("NoSign", ([("at", 1)] : List (Str × Nat)), 1), ("NoKind", ([("name", 1)] : List (Str × Nat)), 1)]
def subs : List (Str × List (Str × Bool)) := [("SealError", [("NoValue", true), ("NoSign", true), ("NoKind", true)])]
def xtab : List Str := ["NoValue", "NoSign", "NoKind"]
def iss : List (Str × List (Str × Bool)) := [("NoValue", [("NoValue", true), ("NoSign", false), ("NoKind", false)]), ("NoKind", [("NoValue", false), ("NoSign", false), ("NoKind", true)]), ("NoSign", [("NoValue", false), ("NoSign", true), ("NoKind", false)]), ("NoName", [("NoValue", false), ("NoSign", false), ("NoKind", false)]), ("TooMany", [("NoValue", false), ("NoSign", false), ("NoKind", false)])]
def isv : List (Str × Bool) := [("NoValue", true), ("NoSign", true), ("NoKind", true)]
def xiA : XInf := { ex := xex, hs := subs.map (·.1), sub := subsOf subs, tab := xtab, flds := ["name", "at"], isNs := iss.map (·.1), isN := subsOf iss, vb := true, isV := fun x => isv.lookup x }
abbrev xIs (y : Str) : Exc → Option D := fun ex => (xiA.isN y ex.c).map .bl
abbrev xIsV : Exc → Option D := fun ex => (xiA.isV ex.c).map .bl
abbrev xAny (ys : List Str) : Exc → Option D := fun ex => (anyN xiA ex.c ys).map .bl
def xi : XInf := xiA
abbrev sx_NoValue : Stmt := inCls (top 5) 0
theorem ix_NoValue : initOf ⟨["self", "name"], (defScope sx_NoValue).names, fun _ => true, fun _ => none, fun _ => none, [], noMd⟩ "SealError" (defBody sx_NoValue) = some ([("name", 1)] : List (Str × Nat)) := by kernel_rfl
theorem Sx_NoValue : FnScope ["self", "name"] ["self", "name"] (defScope sx_NoValue) := ⟨rfl, rfl, rfl, by decide +kernel, rfl, by decide +kernel, by decide +kernel⟩
theorem Bx_NoValue : BindsQ sx_NoValue "__init__" "NoValue.__init__" ["self", "name"] := fun _ _ _ _ _ _ us hl => match us, hl with | [_, _], _ => rfl
abbrev sx_NoSign : Stmt := inCls (top 2) 0
theorem ix_NoSign : initOf ⟨["self", "at"], (defScope sx_NoSign).names, fun _ => true, fun _ => none, fun _ => none, [], noMd⟩ "SealError" (defBody sx_NoSign) = some ([("at", 1)] : List (Str × Nat)) := by kernel_rfl
theorem Sx_NoSign : FnScope ["self", "at"] ["self", "at"] (defScope sx_NoSign) := ⟨rfl, rfl, rfl, by decide +kernel, rfl, by decide +kernel, by decide +kernel⟩
theorem Bx_NoSign : BindsQ sx_NoSign "__init__" "NoSign.__init__" ["self", "at"] := fun _ _ _ _ _ _ us hl => match us, hl with | [_, _], _ => rfl
abbrev sx_NoKind : Stmt := inCls (top 6) 0
theorem ix_NoKind : initOf ⟨["self", "name"], (defScope sx_NoKind).names, fun _ => true, fun _ => none, fun _ => none, [], noMd⟩ "SealError" (defBody sx_NoKind) = some ([("name", 1)] : List (Str × Nat)) := by kernel_rfl
theorem Sx_NoKind : FnScope ["self", "name"] ["self", "name"] (defScope sx_NoKind) := ⟨rfl, rfl, rfl, by decide +kernel, rfl, by decide +kernel, by decide +kernel⟩
theorem Bx_NoKind : BindsQ sx_NoKind "__init__" "NoKind.__init__" ["self", "name"] := fun _ _ _ _ _ _ us hl => match us, hl with | [_, _], _ => rfl
def T0 : Tab := fun _ => none
/-! _law_mixed -/
abbrev s__law_mixed : Stmt := top 19
noncomputable def b__law_mixed : MS :=
  (sSeq (sSet 2 (mOp2 dIx (mLst (mDisp (mCons (mPure (.int 1000000007)) (mCons (mPure (.int 1181783503)) (mCons (mPure (.int 1372345291)) (mCons (mPure (.int 1518500279)) (mCons (mPure (.int 1636201513)) (mCons (mPure (.int 1734723539)) (mCons (mPure (.int 1871234567)) (mCons (mPure (.int 2012345681)) mNil)))))))))) (mOp2 (dBin .Mod) (mVar 1) (mPure (.int 8)))))
  (sSeq (sSet 3 (mOp2 dIx (mLst (mDisp (mCons (mPure (.int 100000000003)) (mCons (mPure (.int 223606797763)) (mCons (mPure (.int 314159265359)) (mCons (mPure (.int 414213562379)) (mCons (mPure (.int 577215664943)) (mCons (mPure (.int 693147180563)) (mCons (mPure (.int 732050807573)) mNil))))))))) (mOp2 (dBin .Mod) (mVar 1) (mPure (.int 7)))))
  (sSeq (sSet 4 (mOp2 (dBin .Mod) (mOp2 (dBin .Mult) (mOp2 (dBin .Add) (mOp2 (dBin .Mod) (mVar 0) (mPure (.int 1000000000039))) (mPure (.int 1))) (mVar 2)) (mPure (.int 2147483629))))
  (sRet (mOp2 (dBin .Mod) (mOp2 (dBin .Mult) (mOp2 (dBin .Add) (mVar 4) (mPure (.int 1))) (mVar 3)) (mPure (.int 999999999989)))))))
def n__law_mixed : List Str := ["_law_cell", "_law_k", "_law_first", "_law_second", "_law_number"]
theorem k__law_mixed : cBd xi 60 ⟨n__law_mixed, (defScope s__law_mixed).names, fun _ => true, T0, gl, bn, md⟩ (defBody s__law_mixed) = some b__law_mixed := by kernel_rfl
noncomputable def f__law_mixed : Fn := runDef 5 2 b__law_mixed
theorem S__law_mixed : FnScope n__law_mixed ["_law_cell", "_law_k"] (defScope s__law_mixed) := ⟨rfl, rfl, rfl, by decide +kernel, rfl, by decide +kernel, by decide +kernel⟩
theorem B__law_mixed : BindsSt s__law_mixed "_law_mixed" ["_law_cell", "_law_k"] := fun _ _ _ _ _ _ us hl => match us, hl with | [_, _], _ => rfl
noncomputable def T1 : Tab := addT T0 "_law_mixed" f__law_mixed 2
/-! _law_names -/
noncomputable def l1__law_names : MS :=
  sFor (.nm 7) (mRange1 (mCons (mVar 2) mNil))
  (sSet 6 (mOp2 (dBin .Add) (mVar 6) (mOpV dIx 1 (mOp2 (dBin .Mod) (mOp2 (dBin .Add) (mCall f__law_mixed (mCons (mVar 0) (mCons (mVar 7) mNil))) (mOp2 (dBin .Mult) (mVar 5) (mCallB kInt (mCons (mOp2 (dCmp .Eq) (mVar 7) (mVar 3)) mNil)))) (mPure (.int 26))))))
noncomputable def l2__law_names : MS :=
  sFor (.nm 5) (mRange1 (mCons (mPure (.int 7)) mNil))
  (sSeq (sSet 6 (mPure (.str [])))
  (sSeq l1__law_names
  (sSeq (mIte (mBool (mOp2 (dCmp .Eq) (mOp2 (dBin .Mod) (mOp2 (dBin .FloorDiv) (mVar 0) (mPure (.int 64))) (mPure (.int 3))) (mPure (.int 1))))
  (sSet 6 (mCut (mPure (.str [97, 98, 99, 100, 101, 102, 103, 104])) mNoPart (mPart (mOp2 (dBin .Add) (mVar 5) (mPure (.int 1))))))
  sNext)
  (sDrop (mAppend 4 (mVar 6))))))
abbrev s__law_names : Stmt := top 21
noncomputable def b__law_names : MS :=
  (sSeq (sSet 1 (mPure (.str LETS)))
  (sSeq (sSet 2 (mOp2 (dBin .Add) (mPure (.int 1)) (mOp2 (dBin .Mod) (mVar 0) (mPure (.int 8)))))
  (sSeq (sSet 3 (mOp2 (dBin .Mod) (mOp2 (dBin .FloorDiv) (mVar 0) (mPure (.int 8))) (mVar 2)))
  (sSeq (sSetL 4 (mDisp mNil))
  (sSeq l2__law_names
  (sRet (mVar 4)))))))
def n__law_names : List Str := ["_law_cell", "_law_letters", "_law_size", "_law_at", "_law_names_here", "_law_k", "_law_word", "_law_j"]
theorem k__law_names : cBd xi 60 ⟨n__law_names, (defScope s__law_names).names, fun _ => true, T1, gl, bn, md⟩ (defBody s__law_names) = some b__law_names := by kernel_rfl
noncomputable def f__law_names : Fn := runDef 8 1 b__law_names
theorem S__law_names : FnScope n__law_names ["_law_cell"] (defScope s__law_names) := ⟨rfl, rfl, rfl, by decide +kernel, rfl, by decide +kernel, by decide +kernel⟩
theorem B__law_names : BindsSt s__law_names "_law_names" ["_law_cell"] := fun _ _ _ _ _ _ us hl => match us, hl with | [_], _ => rfl
noncomputable def T2 : Tab := addT T1 "_law_names" f__law_names 1
/-! _law_cell_at -/
abbrev s__law_cell_at : Stmt := top 18
noncomputable def b__law_cell_at : MS :=
  (sSeq (mIte (mBool (mOp2 (dCmp .Lt) (mVar 1) (mLenV 0)))
  (sRet (mOpV dIx 0 (mVar 1)))
  sNext)
  (sRet (mPure (.int 0))))
def n__law_cell_at : List Str := ["_law_script", "_law_k"]
theorem k__law_cell_at : cBd xi 60 ⟨n__law_cell_at, (defScope s__law_cell_at).names, fun _ => true, T2, gl, bn, md⟩ (defBody s__law_cell_at) = some b__law_cell_at := by kernel_rfl
noncomputable def f__law_cell_at : Fn := runDef 2 2 b__law_cell_at
theorem S__law_cell_at : FnScope n__law_cell_at ["_law_script", "_law_k"] (defScope s__law_cell_at) := ⟨rfl, rfl, rfl, by decide +kernel, rfl, by decide +kernel, by decide +kernel⟩
theorem B__law_cell_at : BindsSt s__law_cell_at "_law_cell_at" ["_law_script", "_law_k"] := fun _ _ _ _ _ _ us hl => match us, hl with | [_, _], _ => rfl
noncomputable def T3 : Tab := addT T2 "_law_cell_at" f__law_cell_at 2
/-! _law_rest -/
abbrev s__law_rest : Stmt := top 20
noncomputable def b__law_rest : MS :=
  (sSeq (mIte (mBool (mOp2 (dCmp .GtE) (mVar 0) (mOp2 (dBin .Pow) (mPure (.int 10)) (mPure (.int 18)))))
  (sRet (mVar 0))
  sNext)
  (sRet (mCall f__law_mixed (mCons (mVar 0) (mCons (mPure (.int 1)) mNil)))))
def n__law_rest : List Str := ["_law_cell"]
theorem k__law_rest : cBd xi 60 ⟨n__law_rest, (defScope s__law_rest).names, fun _ => true, T3, gl, bn, md⟩ (defBody s__law_rest) = some b__law_rest := by kernel_rfl
noncomputable def f__law_rest : Fn := runDef 1 1 b__law_rest
theorem S__law_rest : FnScope n__law_rest ["_law_cell"] (defScope s__law_rest) := ⟨rfl, rfl, rfl, by decide +kernel, rfl, by decide +kernel, by decide +kernel⟩
theorem B__law_rest : BindsSt s__law_rest "_law_rest" ["_law_cell"] := fun _ _ _ _ _ _ us hl => match us, hl with | [_], _ => rfl
noncomputable def T4 : Tab := addT T3 "_law_rest" f__law_rest 1
/-! _law_value -/
noncomputable def l1__law_value : MS :=
  sForC (.nm 2) (mOld (mRange1 (mCons (mOp2 (dBin .Mod) (mOp2 (dBin .FloorDiv) (mVar 0) (mPure (.int 16))) (mPure (.int 7))) mNil)))
  (sSet 1 (mAddC (mVar 1) (mOp2 dIxC (mPure (.str [32, 97, 38, 60, 34, 39, 92, 44, 41, 126])) (mOp2 (dBin .Mod) (mCall f__law_mixed (mCons (mAddC (mVar 0) (mOp2 (dBin .Mult) (mVar 2) (mVar 2))) (mCons (mVar 2) mNil))) (mPure (.int 10))))))
noncomputable def c1__law_value : M (List D) :=
  mCompC (mOld (mRange1 (mCons (mOp2 dIxC (mCell (mDisp (mCons (mPure (.int 0)) (mCons (mPure (.int 1)) (mCons (mPure (.int 3)) (mCons (mPure (.int 60)) (mCons (mPure (.int 61)) (mCons (mPure (.int 62)) mNil)))))))) (mOp2 (dBin .Mod) (mOp2 (dBin .FloorDiv) (mVar 0) (mPure (.int 16))) (mPure (.int 6)))) mNil))) (.nm 2) mYes (mDict [((mPure (.str [97])), (mCallB kStr (mCons (mVar 2) mNil)))]) [2]
abbrev s__law_value : Stmt := top 22
noncomputable def b__law_value : MS :=
  (sSeq (sSet 1 (mPure (.str [])))
  (sSeq l1__law_value
  (sSeq (sSet 3 (mCell c1__law_value))
  (sSeq (sSet 4 (mCell (mDisp (mCons (mVar 1) (mCons (mVar 1) (mCons (mAddC (mAddC (mVar 1) (mPure (.str [10]))) (mVar 1)) (mCons (mPure (.str [9])) mNil)))))))
  (sSeq (sSet 4 (mAddC (mVar 4) (mCell (mDisp (mCons (mPure (.bl true)) (mCons (mPure (.bl false)) (mCons (mVar 3) (mCons (mVar 3) mNil))))))))
  (sSeq (sSet 4 (mAddC (mVar 4) (mCell (mDisp (mCons (mAddC (mCutVC 3 mNoPart (mPart (mPure (.int 3)))) (mCell (mDisp (mCons (mPure .non) mNil)))) (mCons (mCell (mDisp (mCons (mDict []) (mCons (mCell (mDisp mNil)) (mCons (mDict []) mNil))))) mNil))))))
  (sRet (mOp2 dIxC (mAddC (mVar 4) (mCell (mDisp (mCons (mPure .non) (mCons (mPure (.int 1)) (mCons (mPure (.int 0)) (mCons (mTup mNil) (mCons (mDict []) (mCons (mCell (mDisp (mCons (mVar 1) mNil))) mNil))))))))) (mOp2 (dBin .Mod) (mVar 0) (mPure (.int 16)))))))))))
def n__law_value : List Str := ["_law_number", "_law_text", "_law_k", "_law_rows", "_law_some"]
theorem k__law_value : cBd xi 60 ⟨n__law_value, (defScope s__law_value).names, fun _ => true, T4, gl, bn, (mdR 1 md)⟩ (defBody s__law_value) = some b__law_value := by kernel_rfl
noncomputable def f__law_value : Fn := runDef 5 1 b__law_value
theorem S__law_value : FnScope n__law_value ["_law_number"] (defScope s__law_value) := ⟨rfl, rfl, rfl, by decide +kernel, rfl, by decide +kernel, by decide +kernel⟩
theorem B__law_value : BindsSt s__law_value "_law_value" ["_law_number"] := fun _ _ _ _ _ _ us hl => match us, hl with | [_], _ => rfl
noncomputable def T5 : Tab := addT T4 "_law_value" f__law_value 1
/-! _law_scopes -/
noncomputable def l1__law_scopes : MS :=
  sForC (.nm 5) (mOld (mRange1 (mCons (mPure (.int 6)) mNil)))
  (sSeq (sSet 6 (mCall f__law_rest (mCons (mCall f__law_cell_at (mCons (mVar 0) (mCons (mOp2 (dBin .Add) (mOp2 (dBin .Add) (mPure (.int 2)) (mOp2 (dBin .Mult) (mPure (.int 6)) (mVar 3))) (mVar 5)) mNil))) mNil)))
  (mIte (mBool (mOp2 (dCmpL .Eq) (mOp2 (dBin .Mod) (mVar 6) (mPure (.int 2))) (mPure (.int 1))))
  (sDctSet (mCall f__law_value (mCons (mOp2 (dBin .FloorDiv) (mVar 6) (mPure (.int 2))) mNil)) (mVar 4) (mOpV dIxC 1 (mVar 5)))
  sNext))
noncomputable def l2__law_scopes : MS :=
  sForC (.nm 3) (mOld (mRange1 (mCons (mOp2 (dBin .Mod) (mCall f__law_cell_at (mCons (mVar 0) (mCons (mPure (.int 1)) mNil))) (mPure (.int 6))) mNil)))
  (sSeq (sSet 4 (mDict []))
  (sSeq l1__law_scopes
  (sDrop (mSel 2 (mAppend 2 (mVar 4)) (mAppC (mVar 2) (mVar 4))))))
abbrev s__law_scopes : Stmt := top 23
noncomputable def b__law_scopes : MS :=
  (sSeq (sSetL 2 (mDisp mNil))
  (sSeq l2__law_scopes
  (sRet (mVar 2))))
def n__law_scopes : List Str := ["_law_script", "_law_names_here", "_law_scopes_here", "_law_k", "_law_scope", "_law_j", "_law_number"]
theorem k__law_scopes : cBd xi 60 ⟨n__law_scopes, (defScope s__law_scopes).names, fun _ => true, T5, gl, bn, (mdR 0 md)⟩ (defBody s__law_scopes) = some b__law_scopes := by kernel_rfl
noncomputable def f__law_scopes : Fn := runDef 7 2 b__law_scopes
theorem S__law_scopes : FnScope n__law_scopes ["_law_script", "_law_names_here"] (defScope s__law_scopes) := ⟨rfl, rfl, rfl, by decide +kernel, rfl, by decide +kernel, by decide +kernel⟩
theorem B__law_scopes : BindsSt s__law_scopes "_law_scopes" ["_law_script", "_law_names_here"] := fun _ _ _ _ _ _ us hl => match us, hl with | [_, _], _ => rfl
noncomputable def T6 : Tab := addT T5 "_law_scopes" f__law_scopes 2
/-! value_of -/
noncomputable def l1_value_of : MS :=
  sForC (.nm 2) (mOld (mRev (mVar 0)))
  (mIte (mBool (mOp2 (dCmpW .In) (mVar 1) (mVar 2)))
  (sRet (mDGet (mVar 2) (mVar 1)))
  sNext)
abbrev s_value_of : Stmt := top 13
noncomputable def b_value_of : MS :=
  (sSeq l1_value_of
  (sRaise "NoValue" ([("name", 1)] : List (Str × Nat)) 1 (mCons (mVar 1) mNil)))
def n_value_of : List Str := ["scopes", "name", "scope"]
theorem k_value_of : cBd xi 60 ⟨n_value_of, (defScope s_value_of).names, fun _ => true, T6, gl, bn, (mdR 0 md)⟩ (defBody s_value_of) = some b_value_of := by kernel_rfl
noncomputable def f_value_of : Fn := runDef 3 2 b_value_of
theorem S_value_of : FnScope n_value_of ["scopes", "name"] (defScope s_value_of) := ⟨rfl, rfl, rfl, by decide +kernel, rfl, by decide +kernel, by decide +kernel⟩
theorem B_value_of : BindsSt s_value_of "value_of" ["scopes", "name"] := fun _ _ _ _ _ _ us hl => match us, hl with | [_, _], _ => rfl
noncomputable def T7 : Tab := addT T6 "value_of" f_value_of 2
/-! first_foreign -/
noncomputable def l1_first_foreign : MS :=
  sFor (.tp [1, 2]) (mEnum (mCons (mVar 0) mNil))
  (mIte (mBool (mOp2 (dCmp .NotIn) (mVar 2) (mPure (.str SIGNS))))
  (sRet (mVar 1))
  sNext)
abbrev s_first_foreign : Stmt := top 9
noncomputable def b_first_foreign : MS :=
  (sSeq l1_first_foreign
  (sRet (mPure .non)))
def n_first_foreign : List Str := ["text", "at", "sign"]
theorem k_first_foreign : cBd xi 60 ⟨n_first_foreign, (defScope s_first_foreign).names, fun _ => true, T7, gl, bn, md⟩ (defBody s_first_foreign) = some b_first_foreign := by kernel_rfl
noncomputable def f_first_foreign : Fn := runDef 3 1 b_first_foreign
theorem S_first_foreign : FnScope n_first_foreign ["text"] (defScope s_first_foreign) := ⟨rfl, rfl, rfl, by decide +kernel, rfl, by decide +kernel, by decide +kernel⟩
theorem B_first_foreign : BindsSt s_first_foreign "first_foreign" ["text"] := fun _ _ _ _ _ _ us hl => match us, hl with | [_], _ => rfl
noncomputable def T8 : Tab := addT T7 "first_foreign" f_first_foreign 1
/-! need_text -/
abbrev s_need_text : Stmt := top 10
noncomputable def b_need_text : MS :=
  (sSeq (mIte (mNot (mBool (mIsi .str (mVar 0))))
  (sRaise "NoSign" ([("at", 1)] : List (Str × Nat)) 1 (mCons (mPure (.int 0)) mNil))
  sNext)
  (sSeq (sSet 1 (mCall f_first_foreign (mCons (mVar 0) mNil)))
  (sSeq (mIte (mBool (mOp2 (dCmp .IsNot) (mVar 1) (mPure .non)))
  (sRaise "NoSign" ([("at", 1)] : List (Str × Nat)) 1 (mCons (mVar 1) mNil))
  sNext)
  (sRet (mVar 0)))))
def n_need_text : List Str := ["thing", "at"]
theorem k_need_text : cBd xi 60 ⟨n_need_text, (defScope s_need_text).names, fun _ => true, T8, gl, bn, md⟩ (defBody s_need_text) = some b_need_text := by kernel_rfl
noncomputable def f_need_text : Fn := runDef 2 1 b_need_text
theorem S_need_text : FnScope n_need_text ["thing"] (defScope s_need_text) := ⟨rfl, rfl, rfl, by decide +kernel, rfl, by decide +kernel, by decide +kernel⟩
theorem B_need_text : BindsSt s_need_text "need_text" ["thing"] := fun _ _ _ _ _ _ us hl => match us, hl with | [_], _ => rfl
noncomputable def T9 : Tab := addT T8 "need_text" f_need_text 1
/-! text_of -/
abbrev s_text_of : Stmt := top 14
noncomputable def b_text_of : MS :=
  (sSeq (sSet 2 (mCall f_value_of (mCons (mVar 0) (mCons (mVar 1) mNil))))
  (sSeq (mIte (mNot (mBool (mIsi .str (mVar 2))))
  (sRaise "NoKind" ([("name", 1)] : List (Str × Nat)) 1 (mCons (mVar 1) mNil))
  sNext)
  (sRet (mCall f_need_text (mCons (mVar 2) mNil)))))
def n_text_of : List Str := ["scopes", "name", "value"]
theorem k_text_of : cBd xi 60 ⟨n_text_of, (defScope s_text_of).names, fun _ => true, T9, gl, bn, (mdR 0 md)⟩ (defBody s_text_of) = some b_text_of := by kernel_rfl
noncomputable def f_text_of : Fn := runDef 3 2 b_text_of
theorem S_text_of : FnScope n_text_of ["scopes", "name"] (defScope s_text_of) := ⟨rfl, rfl, rfl, by decide +kernel, rfl, by decide +kernel, by decide +kernel⟩
theorem B_text_of : BindsSt s_text_of "text_of" ["scopes", "name"] := fun _ _ _ _ _ _ us hl => match us, hl with | [_, _], _ => rfl
noncomputable def T10 : Tab := addT T9 "text_of" f_text_of 2
/-! truth_of -/
abbrev s_truth_of : Stmt := top 15
noncomputable def b_truth_of : MS :=
  (sSeq (sSet 2 (mCall f_value_of (mCons (mVar 0) (mCons (mVar 1) mNil))))
  (sSeq (mIte (mNot (mBool (mIsi .bool (mVar 2))))
  (sRaise "NoKind" ([("name", 1)] : List (Str × Nat)) 1 (mCons (mVar 1) mNil))
  sNext)
  (sRet (mVar 2))))
def n_truth_of : List Str := ["scopes", "name", "value"]
theorem k_truth_of : cBd xi 60 ⟨n_truth_of, (defScope s_truth_of).names, fun _ => true, T10, gl, bn, (mdR 0 md)⟩ (defBody s_truth_of) = some b_truth_of := by kernel_rfl
noncomputable def f_truth_of : Fn := runDef 3 2 b_truth_of
theorem S_truth_of : FnScope n_truth_of ["scopes", "name"] (defScope s_truth_of) := ⟨rfl, rfl, rfl, by decide +kernel, rfl, by decide +kernel, by decide +kernel⟩
theorem B_truth_of : BindsSt s_truth_of "truth_of" ["scopes", "name"] := fun _ _ _ _ _ _ us hl => match us, hl with | [_, _], _ => rfl
noncomputable def T11 : Tab := addT T10 "truth_of" f_truth_of 2
/-! rows_of -/
noncomputable def l1_rows_of : MS :=
  sForC (.nm 3) (mItC (mVar 2))
  (mIte (mNot (mBool (mIsi .dict (mVar 3))))
  (sRaise "NoKind" ([("name", 1)] : List (Str × Nat)) 1 (mCons (mVar 1) mNil))
  sNext)
abbrev s_rows_of : Stmt := top 16
noncomputable def b_rows_of : MS :=
  (sSeq (sSet 2 (mCall f_value_of (mCons (mVar 0) (mCons (mVar 1) mNil))))
  (sSeq (mIte (mOr (mNot (mBool (mIsi .list (mVar 2)))) (mBool (mOp2 (dCmpL .Gt) (mLenVC 2) (mPure (.int 60)))))
  (sRaise "NoKind" ([("name", 1)] : List (Str × Nat)) 1 (mCons (mVar 1) mNil))
  sNext)
  (sSeq l1_rows_of
  (sRet (mVar 2)))))
def n_rows_of : List Str := ["scopes", "name", "value", "row"]
theorem k_rows_of : cBd xi 60 ⟨n_rows_of, (defScope s_rows_of).names, fun _ => true, T11, gl, bn, (mdR 0 md)⟩ (defBody s_rows_of) = some b_rows_of := by kernel_rfl
noncomputable def f_rows_of : Fn := runDef 4 2 b_rows_of
theorem S_rows_of : FnScope n_rows_of ["scopes", "name"] (defScope s_rows_of) := ⟨rfl, rfl, rfl, by decide +kernel, rfl, by decide +kernel, by decide +kernel⟩
theorem B_rows_of : BindsSt s_rows_of "rows_of" ["scopes", "name"] := fun _ _ _ _ _ _ us hl => match us, hl with | [_, _], _ => rfl
noncomputable def T12 : Tab := addT T11 "rows_of" f_rows_of 2
/-! _law_found -/
abbrev s__law_found : Stmt := top 26
noncomputable def b__law_found : MS :=
  (sSeq (sTryX 3 (subsOf subs "SealError") (xSeq (xIf (xOr (xAny ["NoName", "TooMany"]) (xNot xIsV))
  (xRet (xTup (xCons (xCon (.str [110, 111, 110, 101])) (xCons (xCon (.str [])) xNil))))
  xNext)
  (xSeq (xIf (xIs "NoValue")
  (xRet (xTup (xCons (xCon (.str [118, 97, 108, 117, 101])) (xCons (xFld xtab "name") xNil))))
  xNext)
  (xSeq (xIf (xIs "NoKind")
  (xRet (xTup (xCons (xCon (.str [107, 105, 110, 100])) (xCons (xFld xtab "name") xNil))))
  xNext)
  (xSeq (xIf (xIs "NoSign")
  (xRet (xTup (xCons (xCon (.str [115, 105, 103, 110])) (xCons (xFld xtab "at") xNil))))
  xNext)
  (xRet (xTup (xCons (xCon (.str [110, 111, 110, 101])) (xCons (xCon (.str [])) xNil))))))))
  (sSet 4 (mPick [f_value_of, f_text_of, f_truth_of, f_rows_of] (mVar 2) (mCons (mVar 0) (mCons (mVar 1) mNil)))))
  (sRet (mTup (mCons (mPure (.str [116, 111, 108, 100])) (mCons (mVar 4) mNil)))))
def n__law_found : List Str := ["_law_scopes_here", "_law_name", "_law_want", "e", "_law_found_here"]
theorem k__law_found : cBd xi 60 ⟨n__law_found, (defScope s__law_found).names, fun _ => true, T12, gl, bn, (mdR 0 md)⟩ (defBody s__law_found) = some b__law_found := by kernel_rfl
noncomputable def f__law_found : Fn := runDef 5 3 b__law_found
theorem S__law_found : FnScope n__law_found ["_law_scopes_here", "_law_name", "_law_want"] (defScope s__law_found) := ⟨rfl, rfl, rfl, by decide +kernel, rfl, by decide +kernel, by decide +kernel⟩
theorem B__law_found : BindsSt s__law_found "_law_found" ["_law_scopes_here", "_law_name", "_law_want"] := fun _ _ _ _ _ _ us hl => match us, hl with | [_, _, _], _ => rfl
noncomputable def T13 : Tab := addT T12 "_law_found" f__law_found 3
/-! _law_foreign -/
noncomputable def c1__law_foreign : M (List D) :=
  mComp (mRange1 (mCons (mLenV 0) mNil)) (.nm 2) (mBool (mOp2 (dCmp .In) (mOpV dIx 0 (mVar 2)) (mPure (.str [10, 9])))) (mVar 2) [2]
abbrev s__law_foreign : Stmt := top 24
noncomputable def b__law_foreign : MS :=
  (sSeq (sSetL 1 c1__law_foreign)
  (sRet (mCutV 1 mNoPart (mPart (mPure (.int 1))))))
def n__law_foreign : List Str := ["_law_text", "_law_at", "_law_k"]
theorem k__law_foreign : cBd xi 60 ⟨n__law_foreign, (defScope s__law_foreign).names, fun _ => true, T13, gl, bn, md⟩ (defBody s__law_foreign) = some b__law_foreign := by kernel_rfl
noncomputable def f__law_foreign : Fn := runDef 3 1 b__law_foreign
theorem S__law_foreign : FnScope n__law_foreign ["_law_text"] (defScope s__law_foreign) := ⟨rfl, rfl, rfl, by decide +kernel, rfl, by decide +kernel, by decide +kernel⟩
theorem B__law_foreign : BindsSt s__law_foreign "_law_foreign" ["_law_text"] := fun _ _ _ _ _ _ us hl => match us, hl with | [_], _ => rfl
noncomputable def T14 : Tab := addT T13 "_law_foreign" f__law_foreign 1
/-! _law_due -/
noncomputable def c1__law_due : M (List D) :=
  mCompC (mItC (mVar 0)) (.nm 5) (mBool (mOp2 (dCmpW .In) (mVar 1) (mVar 5))) (mDGet (mVar 5) (mVar 1)) [5]
noncomputable def c2__law_due : M (List D) :=
  mCompC (mItC (mVar 4)) (.nm 6) (mNot (mBool (mIsi .dict (mVar 6)))) (mVar 6) [6]
abbrev s__law_due : Stmt := top 25
noncomputable def b__law_due : MS :=
  (sSeq (sSetL 3 c1__law_due)
  (sSeq (mIte (mBool (mOp2 (dCmpW .Eq) (mVar 3) (mLst (mDisp mNil))))
  (sRet (mTup (mCons (mPure (.str [118, 97, 108, 117, 101])) (mCons (mVar 1) mNil))))
  sNext)
  (sSeq (sSet 4 (mOpV dIxC 3 (mNeg (mPure (.int 1)))))
  (sSeq (mIte (mOr (mAnd (mBool (mOp2 (dCmpW .Eq) (mVar 2) (mPure (.int 1)))) (mNot (mBool (mIsi .str (mVar 4))))) (mAnd (mBool (mOp2 (dCmpW .Eq) (mVar 2) (mPure (.int 2)))) (mNot (mBool (mIsi .bool (mVar 4))))))
  (sRet (mTup (mCons (mPure (.str [107, 105, 110, 100])) (mCons (mVar 1) mNil))))
  sNext)
  (sSeq (mIte (mAnd (mBool (mOp2 (dCmpW .Eq) (mVar 2) (mPure (.int 1)))) (mBool (mOp2 (dCmpW .NotEq) (mCall f__law_foreign (mCons (mVar 4) mNil)) (mLst (mDisp mNil)))))
  (sRet (mTup (mCons (mPure (.str [115, 105, 103, 110])) (mCons (mOp2 dIxC (mCall f__law_foreign (mCons (mVar 4) mNil)) (mPure (.int 0))) mNil))))
  sNext)
  (sSeq (mIte (mAnd (mBool (mOp2 (dCmpW .Eq) (mVar 2) (mPure (.int 3)))) (mOr (mNot (mBool (mIsi .list (mVar 4)))) (mBool (mOp2 (dCmpW .Gt) (mLenVC 4) (mPure (.int 60))))))
  (sRet (mTup (mCons (mPure (.str [107, 105, 110, 100])) (mCons (mVar 1) mNil))))
  sNext)
  (sSeq (mIte (mAnd (mBool (mOp2 (dCmpW .Eq) (mVar 2) (mPure (.int 3)))) (mBool (mOp2 (dCmpW .NotEq) (mLst c2__law_due) (mLst (mDisp mNil)))))
  (sRet (mTup (mCons (mPure (.str [107, 105, 110, 100])) (mCons (mVar 1) mNil))))
  sNext)
  (sRet (mTup (mCons (mPure (.str [116, 111, 108, 100])) (mCons (mVar 4) mNil)))))))))))
def n__law_due : List Str := ["_law_scopes_here", "_law_name", "_law_want", "_law_some", "_law_value_here", "_law_scope", "_law_one"]
theorem k__law_due : cBd xi 60 ⟨n__law_due, (defScope s__law_due).names, fun _ => true, T14, gl, bn, (mdR 0 md)⟩ (defBody s__law_due) = some b__law_due := by kernel_rfl
noncomputable def f__law_due : Fn := runDef 7 3 b__law_due
theorem S__law_due : FnScope n__law_due ["_law_scopes_here", "_law_name", "_law_want"] (defScope s__law_due) := ⟨rfl, rfl, rfl, by decide +kernel, rfl, by decide +kernel, by decide +kernel⟩
theorem B__law_due : BindsSt s__law_due "_law_due" ["_law_scopes_here", "_law_name", "_law_want"] := fun _ _ _ _ _ _ us hl => match us, hl with | [_, _, _], _ => rfl
noncomputable def T15 : Tab := addT T14 "_law_due" f__law_due 3
/-! _law_is_the_very -/
noncomputable def l1__law_is_the_very : MS :=
  sForC (.nm 2) (mItC (mRevS (mVar 0)))
  (mIte (mBool (mOp2 (dCmpW .In) (mVar 1) (mVar 2)))
  (sSeq (sSet 3 (mDGet (mVar 2) (mVar 1)))
  (sSeq (mIte (mBool (mIsi .list (mVar 3)))
  (sSeq (sDrop (mAppC (mCall f_value_of (mCons (mVar 0) (mCons (mVar 1) mNil))) (mPure (.str [109, 111, 114, 101]))))
  (sSeq (sSet 4 (mAndV (mOp2 (dCmpW .Eq) (mCutVC 3 (mPart (mNeg (mPure (.int 1)))) mNoPart) (mLst (mDisp (mCons (mPure (.str [109, 111, 114, 101])) mNil)))) (mOp2 (dCmpW .Eq) (mCutC (mCall f_value_of (mCons (mVar 0) (mCons (mVar 1) mNil))) (mPart (mNeg (mPure (.int 1)))) mNoPart) (mLst (mDisp (mCons (mPure (.str [109, 111, 114, 101])) mNil))))))
  (sSeq (sDrop (mSel 3 (mPop 3) (mPopC (mVar 3))))
  (sRet (mVar 4)))))
  sNext)
  (sRet (mPure (.bl true)))))
  sNext)
abbrev s__law_is_the_very : Stmt := top 27
noncomputable def b__law_is_the_very : MS :=
  (sSeq l1__law_is_the_very
  (sRet (mPure (.bl true))))
def n__law_is_the_very : List Str := ["_law_scopes_here", "_law_name", "_law_scope", "_law_value_here", "_law_good"]
theorem k__law_is_the_very : cBd xi 60 ⟨n__law_is_the_very, (defScope s__law_is_the_very).names, fun _ => true, T15, gl, bn, (mdR 0 md)⟩ (defBody s__law_is_the_very) = some b__law_is_the_very := by kernel_rfl
noncomputable def f__law_is_the_very : Fn := runDef 5 2 b__law_is_the_very
theorem S__law_is_the_very : FnScope n__law_is_the_very ["_law_scopes_here", "_law_name"] (defScope s__law_is_the_very) := ⟨rfl, rfl, rfl, by decide +kernel, rfl, by decide +kernel, by decide +kernel⟩
theorem B__law_is_the_very : BindsSt s__law_is_the_very "_law_is_the_very" ["_law_scopes_here", "_law_name"] := fun _ _ _ _ _ _ us hl => match us, hl with | [_, _], _ => rfl
noncomputable def T16 : Tab := addT T15 "_law_is_the_very" f__law_is_the_very 2
/-! law -/
noncomputable def c1_law : M (List D) :=
  mCompC (mItC (mVar 2)) (.nm 6) mYes (mDictOf (mVar 6)) [6]
noncomputable def l1_law : MS :=
  sForC (.nm 5) (mItC (mLst (mDisp (mCons (mPure (.int 0)) (mCons (mPure (.int 1)) (mCons (mPure (.int 2)) (mCons (mPure (.int 3)) (mCons (mPure (.int 0)) mNil))))))))
  (sSeq (sSet 7 (mCall f__law_found (mCons (mVar 2) (mCons (mVar 4) (mCons (mVar 5) mNil)))))
  (sSeq (sSet 8 (mCall f__law_due (mCons (mVar 3) (mCons (mVar 4) (mCons (mVar 5) mNil)))))
  (mIte (mOr (mBool (mOp2 (dCmpW .NotEq) (mVar 7) (mVar 8))) (mBool (mOp2 (dCmpW .NotEq) (mIsi .bool (mOpV dIxC 7 (mPure (.int 1)))) (mIsi .bool (mOpV dIxC 8 (mPure (.int 1)))))))
  (sRet (mPure (.bl false)))
  sNext)))
noncomputable def l2_law : MS :=
  sForC (.nm 4) (mItC (mVar 1))
  l1_law
noncomputable def l3_law : MS :=
  sForC (.nm 4) (mItC (mVar 1))
  (mIte (mNot (mBool (mCall f__law_is_the_very (mCons (mVar 2) (mCons (mVar 4) mNil)))))
  (sRet (mPure (.bl false)))
  sNext)
abbrev s_law : Stmt := top 28
noncomputable def b_law : MS :=
  (sSeq (sSet 1 (mCall f__law_names (mCons (mCall f__law_cell_at (mCons (mVar 0) (mCons (mPure (.int 0)) mNil))) mNil)))
  (sSeq (sSet 2 (mCall f__law_scopes (mCons (mVar 0) (mCons (mVar 1) mNil))))
  (sSeq (sSetL 3 c1_law)
  (sSeq l2_law
  (sSeq l3_law
  (sRet (mOp2 (dCmpW .Eq) (mVar 2) (mVar 3))))))))
def n_law : List Str := ["_law_script", "_law_names_here", "_law_scopes_here", "_law_kept", "_law_name", "_law_want", "_law_scope", "_law_found_here", "_law_due_here"]
theorem k_law : cBd xi 60 ⟨n_law, (defScope s_law).names, fun _ => true, T16, gl, bn, (mdR 0 md)⟩ (defBody s_law) = some b_law := by kernel_rfl
noncomputable def f_law : Fn := runDef 9 1 b_law
theorem S_law : FnScope n_law ["_law_script"] (defScope s_law) := ⟨rfl, rfl, rfl, by decide +kernel, rfl, by decide +kernel, by decide +kernel⟩
theorem B_law : BindsSt s_law "law" ["_law_script"] := fun _ _ _ _ _ _ us hl => match us, hl with | [_], _ => rfl
noncomputable def T17 : Tab := addT T16 "law" f_law 1
end Lw
namespace Lw
open PySem PySem.Spec L2 Pv
noncomputable section
def In (t : List Nat) : Prop := ∀ c ∈ t, c ∈ SIGNS
/-! the other way to draw -/
theorem mixed_is : f__law_mixed = runDef 5 2 wMixed := rfl
def mx (c k : Int) : Int := valI f__law_mixed [.int c, .int k]
theorem mixed_ret (c : Int) {k : Int} (hk : 0 ≤ k) : Ret f__law_mixed [.int c, .int k] (.int (mx c k)) ∧ 0 ≤ mx c k ∧ mx c k < 999999999989 :=
  ret_valI (h := f__law_mixed) (mixed_ok c hk)
theorem In.map {α : Type} {xs : List α} {f : α → Nat} (h : ∀ x ∈ xs, f x ∈ SIGNS) : In (xs.map f) := fun c hc => by
  obtain ⟨x, hx, rfl⟩ := List.mem_map.mp hc
  exact h x hx
theorem In.app {a b : List Nat} (h : In a) (h2 : In b) : In (a ++ b) := fun c hc => (List.mem_append.mp hc).elim (h c) (h2 c)
theorem In.filter {a : List Nat} (p : Nat → Bool) (h : In a) : In (a.filter p) := fun c hc => h c (List.mem_filter.mp hc).1
def enumFrom (k : Nat) : List Nat → List D
  | [] => []
  | c :: t => .tup [.int (k : Nat), .str [c]] :: enumFrom (k + 1) t
theorem enum_from (t : List Nat) : enumD (signsD t) = enumFrom 0 t := by
  have key : ∀ (t : List Nat) (k : Nat), (signsD t).mapIdx (fun i x => .tup [.int ((k + i : Nat) : Int), x]) = enumFrom k t := fun t => by
    induction t with
    | nil => intro k; rfl
    | cons c t ih =>
      intro k
      show ((D.str [c]) :: signsD t).mapIdx _ = _
      rw [List.mapIdx_cons]
      have := ih (k + 1)
      simp only [enumFrom, Nat.add_zero]
      congr 1
      rw [← this]
      congr 1
      funext i x
      congr 4
      omega
  have := key t 0
  simpa [enumD] using this
theorem foreign_loop (T : D) (mu : List Cell) : ∀ (t : List Nat) (k : Nat) (j1 j2 : Slot), In t → ∃ j1' j2', loop (.tp [1, 2]) (mIte (mBool (mOp2 (dCmp .NotIn) (mVar 2) (mPure (.str SIGNS)))) (sRet (mVar 1)) sNext) (enumFrom k t) ⟨[.va T, j1, j2], mu⟩ = .ok .nx ⟨[.va T, j1', j2'], mu⟩
  | [], k, j1, j2, h => ⟨j1, j2, rfl⟩
  | c :: t, k, j1, j2, h => by
    have hc : c ∈ SIGNS := h c (by simp)
    obtain ⟨a, b, e⟩ := foreign_loop T mu t (k + 1) (.va (.int (k : Nat))) (.va (.str [c])) fun x hx => h x (by simp [hx])
    refine ⟨a, b, ?_⟩
    simp only [enumFrom]
    unfold loop
    simp [hc, e]
theorem foreign_ret {t : List Nat} (h : In t) : Ret f_first_foreign [.str t] .non := fun mu => by
  obtain ⟨a, b, e⟩ := foreign_loop (.str t) mu t 0 .un .un h
  have hl : l1_first_foreign = sFor (.tp [1, 2]) (mEnum (mCons (mVar 0) mNil)) (mIte (mBool (mOp2 (dCmp .NotIn) (mVar 2) (mPure (.str SIGNS)))) (sRet (mVar 1)) sNext) := rfl
  simp [f_first_foreign, b_first_foreign, hl, enum_from, e]
theorem need_ret {t : List Nat} (h : In t) : Ret f_need_text [.str t] (.str t) := fun mu => by
  simp [f_need_text, b_need_text, foreign_ret h, isKd]
/-! what is no text of the signs is refused -/
theorem foreign_at_loop (T : D) (mu : List Cell) (c : Nat) (hc : c ∉ SIGNS) (b : List Nat) : ∀ (a : List Nat) (k : Nat) (j1 j2 : Slot), In a → ∃ sl', loop (.tp [1, 2]) (mIte (mBool (mOp2 (dCmp .NotIn) (mVar 2) (mPure (.str SIGNS)))) (sRet (mVar 1)) sNext) (enumFrom k (a ++ c :: b)) ⟨[.va T, j1, j2], mu⟩ = .ok (.rt (.int ((k + a.length : Nat) : Int))) ⟨sl', mu⟩
  | [], k, j1, j2, h => by
    refine ⟨[.va T, .va (.int (k : Nat)), .va (.str [c])], ?_⟩
    simp only [List.nil_append, enumFrom]
    unfold loop
    simp [hc]
  | x :: a, k, j1, j2, h => by
    have hx : x ∈ SIGNS := h x (by simp)
    obtain ⟨sl', e⟩ := foreign_at_loop T mu c hc b a (k + 1) (.va (.int (k : Nat))) (.va (.str [x])) fun y hy => h y (by simp [hy])
    refine ⟨sl', ?_⟩
    simp only [List.cons_append, enumFrom]
    unfold loop
    simp [hx, e]
    omega
theorem foreign_at {a b : List Nat} {c : Nat} (h : In a) (hc : c ∉ SIGNS) : Ret f_first_foreign [.str (a ++ c :: b)] (.int (a.length : Nat)) := fun mu => by
  obtain ⟨sl', e⟩ := foreign_at_loop (.str (a ++ c :: b)) mu c hc b a 0 .un .un h
  have hl : l1_first_foreign = sFor (.tp [1, 2]) (mEnum (mCons (mVar 0) mNil)) (mIte (mBool (mOp2 (dCmp .NotIn) (mVar 2) (mPure (.str SIGNS)))) (sRet (mVar 1)) sNext) := rfl
  simp [f_first_foreign, b_first_foreign, hl, enum_from, e]
theorem need_at {a b : List Nat} {c : Nat} (h : In a) (hc : c ∉ SIGNS) (mu : List Cell) : f_need_text [.str (a ++ c :: b)] mu = .er ⟨"NoSign", [("at", .int (a.length : Nat))]⟩ ⟨[], mu⟩ := by
  simp [f_need_text, b_need_text, foreign_at h hc, isKd]
/-- what is no text -/
def NoStr (d : D) (mu : List Cell) : Prop := ∃ k, kdOf mu d = some k ∧ isKd k .str = false
theorem need_no {d : D} {mu : List Cell} (h : NoStr d mu) : f_need_text [d] mu = .er ⟨"NoSign", [("at", .int 0)]⟩ ⟨[], mu⟩ := by
  obtain ⟨k, h1, h2⟩ := h
  simp [f_need_text, b_need_text, h1, h2]
/-! a shape has no sign -/
theorem compLoopC_gen {α : Type} {T : Tg} {vs : List Nat} {c : M Bool} {elt : M D} {W : List Slot} {mu : List Cell} {w : List (Nat × List D)} {f : α → D} {p : α → Bool} {g : α → D} {slf : α → List Slot} (hw : WP w mu) : ∀ (xs : List α) (acc : List D) (sl' : List Slot), wipeS sl' vs = W → acc.length + xs.length ≤ 16000000 →
    (∀ y ∈ xs, T.put (f y) W = some (slf y) ∧ wipeS (slf y) vs = W ∧ c ⟨slf y, mu⟩ = .ok (p y) ⟨slf y, mu⟩ ∧ (p y = true → elt ⟨slf y, mu⟩ = .ok (g y) ⟨slf y, mu⟩)) →
    ∃ sl2, wipeS sl2 vs = W ∧ compLoopC w T c elt vs (xs.map f) acc ⟨sl', mu⟩ = .ok (acc ++ (xs.filter p).map g) ⟨sl2, mu⟩
  | [], acc, sl', h1, h2, h3 => ⟨sl', h1, by rw [List.map_nil, compLoopC_nil hw]; simp⟩
  | y :: ys, acc, sl', h1, h2, h3 => by
    obtain ⟨hp, hq, hc, he⟩ := h3 y (by simp)
    simp only [List.length_cons] at h2
    cases hpy : p y with
    | false =>
      obtain ⟨sl2, q1, q2⟩ := compLoopC_gen hw ys acc (slf y) hq (by omega) (fun z hz => h3 z (by simp [hz]))
      refine ⟨sl2, q1, ?_⟩
      rw [List.map_cons, compLoopC_cons hw]
      show (match T.put (f y) (wipeS sl' vs) with | none => _ | some sl => _) = _
      rw [h1, hp]
      show (noEr (c _)).bind _ = _
      rw [hc, noEr_ok, R.bind_ok, hpy, if_neg (by simp), q2]
      simp [hpy]
    | true =>
      obtain ⟨sl2, q1, q2⟩ := compLoopC_gen hw ys (acc ++ [g y]) (slf y) hq (by simp only [List.length_append, List.length_singleton]; omega) (fun z hz => h3 z (by simp [hz]))
      refine ⟨sl2, q1, ?_⟩
      rw [List.map_cons, compLoopC_cons hw]
      show (match T.put (f y) (wipeS sl' vs) with | none => _ | some sl => _) = _
      rw [h1, hp]
      show (noEr (c _)).bind _ = _
      rw [hc, noEr_ok, R.bind_ok, hpy, if_pos rfl, he hpy, noEr_ok, R.bind_ok, if_pos (show acc.length < lim from (show acc.length < 16000000 by omega)), q2]
      simp [hpy]
theorem compC_gen {α : Type} {its : MI} {T : Tg} {vs : List Nat} {c : M Bool} {elt : M D} {st : ES} {sl : List Slot} {mu : List Cell} {w : List (Nat × List D)} (hw : WP w mu) (f : α → D) (p : α → Bool) (g : α → D) (slf : α → List Slot) (xs : List α) (hi : its st = .ok (xs.map f, w) ⟨sl, mu⟩) (hl : xs.length ≤ 16000000)
    (hr : restS sl (wipeS sl vs) vs = sl) (h : ∀ y ∈ xs, T.put (f y) (wipeS sl vs) = some (slf y) ∧ wipeS (slf y) vs = wipeS sl vs ∧ c ⟨slf y, mu⟩ = .ok (p y) ⟨slf y, mu⟩ ∧ (p y = true → elt ⟨slf y, mu⟩ = .ok (g y) ⟨slf y, mu⟩)) :
    mCompC its T c elt vs st = .ok ((xs.filter p).map g) ⟨sl, mu⟩ := by
  obtain ⟨sl2, q1, q2⟩ := compLoopC_gen (W := wipeS sl vs) hw xs [] sl rfl (by simpa using hl) h
  unfold mCompC
  rw [hi, R.bind_ok]
  show (compLoopC w T c elt vs (xs.map f) [] ⟨sl, mu⟩).bind _ = _
  rw [q2, R.bind_ok, q1, hr]
  rfl
theorem cell_ret (ns : List Int) {k : Int} (hk : 0 ≤ k) : ∃ c, Ret f__law_cell_at [.lk (ns.map .int), .int k] (.int c) := cell0_ok hk
theorem rest_ret (c : Int) : ∃ r, Ret f__law_rest [.int c] (.int r) := by
  by_cases h : 1000000000000000000 ≤ c
  · exact ⟨c, fun mu => by simp [f__law_rest, b__law_rest, h]⟩
  · obtain ⟨m1, m2, m3⟩ := mixed_ret c (k := 1) (by decide)
    exact ⟨mx c 1, fun mu => by simp [f__law_rest, b__law_rest, h, m1]⟩
/-! names -/
def NS (c s a : Int) (xs : List D) (k : Nat) (w : List Nat) (j : Slot) : List Slot := [.va (.int c), .va (.str LETS), .va (.int s), .va (.int a), .ac xs, .va (.int k), .va (.str w), j]
theorem names_in (c s a : Int) (hs : 1 ≤ s) (hs2 : s ≤ 8) (xs : List D) (k : Nat) (hk : k ≤ 7) (j : Slot) (mu : List Cell) : ∃ w j', l1__law_names ⟨NS c s a xs k [] j, mu⟩ = .ok .nx ⟨NS c s a xs k w j', mu⟩ ∧ w.length ≤ 8 := by
  obtain ⟨n, rfl⟩ := Int.eq_ofNat_of_zero_le (show 0 ≤ s by omega)
  obtain ⟨sl', e, w, j', rfl, hw⟩ : ∃ sl', l1__law_names ⟨NS c n a xs k [] j, mu⟩ = .ok .nx ⟨sl', mu⟩ ∧ ∃ w j', sl' = NS c n a xs k w j' ∧ w.length ≤ n :=
    for_range (mu := mu) (fun m sl => ∃ w j', sl = NS c n a xs k w j' ∧ w.length ≤ m) 0 n (range1_of rfl rfl (by omega)) (by
      rintro m sl hm ⟨w, j', rfl, hw⟩
      obtain ⟨m1, m2, m3⟩ := mixed_ret c (k := m) (by omega)
      have h26 : ∀ z : Int, dIx mu (.str LETS) (.int (z % 26)) = some (.str [pk LETS (z % 26)]) := fun z => str_at (p := LETS) (i := z % 26) (Int.emod_nonneg _ (by decide)) (Int.emod_lt_of_pos _ (by decide)) mu
      by_cases ha : (m : Int) = a
      · subst ha
        exact ⟨NS c n m xs k (w ++ [pk LETS ((mx c m + k) % 26)]) (.va (.int (0 + (m : Nat)))), by simp [NS, m1, h26, Sm.of (i := (k : Int)) (by omega) (by omega), show w.length + 1 ≤ 16000000 by omega], _, _, rfl, by simp; omega⟩
      · exact ⟨NS c n a xs k (w ++ [pk LETS ((mx c m) % 26)]) (.va (.int (0 + (m : Nat)))), by simp [NS, m1, h26, ha, Sm.of (i := (k : Int)) (by omega) (by omega), show w.length + 1 ≤ 16000000 by omega], _, _, rfl, by simp; omega⟩) ⟨[], j, rfl, by simp⟩
  exact ⟨w, j', e, by omega⟩
theorem names_ret (c : Int) (mu : List Cell) : ∃ ws : List (List Nat), ws.length = 7 ∧ f__law_names [.int c] mu = .ok (.lst (ws.map .str)) ⟨[], mu⟩ := by
  have hm : (0 : Int) ≤ c % 8 ∧ c % 8 < 8 := ⟨Int.emod_nonneg _ (by decide), Int.emod_lt_of_pos _ (by decide)⟩
  generalize hs : 1 + c % 8 = s at *
  generalize ha : c / 8 % s = a
  obtain ⟨sl', e, ws, j5, j6, j7, rfl, hl⟩ : ∃ sl', l2__law_names ⟨[.va (.int c), .va (.str LETS), .va (.int s), .va (.int a), .ac [], .un, .un, .un], mu⟩ = .ok .nx ⟨sl', mu⟩ ∧ ∃ (ws : List (List Nat)) (j5 j6 j7 : Slot), sl' = [.va (.int c), .va (.str LETS), .va (.int s), .va (.int a), .ac (ws.map .str), j5, j6, j7] ∧ ws.length = 7 :=
    for_range (mu := mu) (fun m sl => ∃ (ws : List (List Nat)) (j5 j6 j7 : Slot), sl = [.va (.int c), .va (.str LETS), .va (.int s), .va (.int a), .ac (ws.map .str), j5, j6, j7] ∧ ws.length = m) 0 7 (range1_of rfl rfl (by omega)) (by
      rintro m sl hm ⟨ws, j5, j6, j7, rfl, hl⟩
      obtain ⟨w, j', e, hw⟩ := names_in c s a (by omega) (by omega) (ws.map .str) m (by omega) j7 mu
      unfold NS at e
      by_cases h3 : c / 64 % 3 = 1
      · refine ⟨[.va (.int c), .va (.str LETS), .va (.int s), .va (.int a), .ac ((ws ++ [cutL [97, 98, 99, 100, 101, 102, 103, 104] none (some ((m : Int) + 1))]).map .str), .va (.int (m : Nat)), .va (.str (cutL [97, 98, 99, 100, 101, 102, 103, 104] none (some ((m : Int) + 1)))), j'], ?_, _, _, _, _, rfl, by simp [hl]⟩
        simp [e, h3, show ws.length < 16000000 by omega, dCut]
      · refine ⟨[.va (.int c), .va (.str LETS), .va (.int s), .va (.int a), .ac ((ws ++ [w]).map .str), .va (.int (m : Nat)), .va (.str w), j'], ?_, _, _, _, _, rfl, by simp [hl]⟩
        simp [e, h3, show ws.length < 16000000 by omega]) ⟨[], _, _, _, rfl, rfl⟩
  refine ⟨ws, hl, ?_⟩
  simp [f__law_names, b__law_names, hs, ha, e, show (0 : Int) < s by omega, Sm.of (i := s) (by omega) (by omega)]
/-! values -/
def Itm (mu : List Cell) (x : D) : Prop := x = .non ∨ (∃ t, x = .str t) ∨ (∃ m kvs, x = .ref m ∧ mu[m]? = some (.dct kvs)) ∨ ∃ m ys, x = .ref m ∧ mu[m]? = some (.lst ys)
def Tx (t : List Nat) : Prop := ∀ c ∈ t, c ∈ SIGNS ∨ c = 10 ∨ c = 9
theorem In.tx {t : List Nat} (h : In t) : Tx t := fun c hc => .inl (h c hc)
def Val (mu : List Cell) (d : D) : Prop := d = .non ∨ (∃ t, d = .str t ∧ Tx t ∧ t.length ≤ 1000) ∨ (∃ b, d = .bl b) ∨ (∃ i, d = .int i) ∨ d = .tup [] ∨ (∃ n kvs, d = .ref n ∧ mu[n]? = some (.dct kvs)) ∨ ∃ n xs, d = .ref n ∧ mu[n]? = some (.lst xs) ∧ xs.length ≤ 1000 ∧ ∀ x ∈ xs, Itm mu x
theorem Itm.ext {mu more : List Cell} {x : D} (h : Itm mu x) : Itm (mu ++ more) x := by
  rcases h with h | h | ⟨m, kvs, h, h2⟩ | ⟨m, ys, h, h2⟩
  · exact .inl h
  · exact .inr (.inl h)
  · exact .inr (.inr (.inl ⟨m, kvs, h, by rw [List.getElem?_append_left (List.getElem?_eq_some_iff.mp h2).1]; exact h2⟩))
  · exact .inr (.inr (.inr ⟨m, ys, h, by rw [List.getElem?_append_left (List.getElem?_eq_some_iff.mp h2).1]; exact h2⟩))
theorem Val.ext {mu more : List Cell} {x : D} (h : Val mu x) : Val (mu ++ more) x := by
  rcases h with h | h | h | h | h | ⟨m, kvs, h, h2⟩ | ⟨m, ys, h, h2, h3, h4⟩
  · exact .inl h
  · exact .inr (.inl h)
  · exact .inr (.inr (.inl h))
  · exact .inr (.inr (.inr (.inl h)))
  · exact .inr (.inr (.inr (.inr (.inl h))))
  · exact .inr (.inr (.inr (.inr (.inr (.inl ⟨m, kvs, h, by rw [List.getElem?_append_left (List.getElem?_eq_some_iff.mp h2).1]; exact h2⟩)))))
  · exact .inr (.inr (.inr (.inr (.inr (.inr ⟨m, ys, h, by rw [List.getElem?_append_left (List.getElem?_eq_some_iff.mp h2).1]; exact h2, h3, fun x hx => (h4 x hx).ext⟩)))))
theorem strs_ok : ∀ k : Nat, k < 64 → okSb (intS (k : Int)) = true := by decide +kernel
@[simp] theorem addCR_rr (a b : Nat) (sl : List Slot) (mu : List Cell) : addCR (.ref a) (.ref b) ⟨sl, mu⟩ = wO (lstO mu[a]?) fun xs => wO (lstO mu[b]?) fun ys => sel (decide (xs.length + ys.length ≤ lim)) (.ok (.ref mu.length) ⟨sl, mu ++ [.lst (xs ++ ys)]⟩) .bad := by
  cases ha : mu[a]? with
  | none => rw [addCR_else _ _ (by simp [dr, ha, isL])]; rfl
  | some c =>
    cases c with
    | lst xs =>
      cases hb : mu[b]? with
      | none =>
        unfold addCR
        simp only [dr_ref ha, show dr mu (.ref b) = .ref b by simp [dr, hb]]
        rfl
      | some c =>
        cases c with
        | lst ys => rw [addCR_lst _ _ (dr_ref ha) (dr_ref hb)]; rfl
        | _ =>
          unfold addCR
          simp only [dr_ref ha, show dr mu (.ref b) = .ref b by simp [dr, hb]]
          rfl
    | _ => rw [addCR_else _ _ (by simp [dr, ha, isL])]; rfl
@[simp] theorem addCR_lr (xs : List D) (b : Nat) (sl : List Slot) (mu : List Cell) : addCR (.lst xs) (.ref b) ⟨sl, mu⟩ = wO (lstO mu[b]?) fun ys => sel (decide (xs.length + ys.length ≤ lim)) (.ok (.ref mu.length) ⟨sl, mu ++ [.lst (xs ++ ys)]⟩) .bad := by
  cases hb : mu[b]? with
  | none =>
    unfold addCR
    simp only [dr_lst, show dr mu (.ref b) = .ref b by simp [dr, hb]]
    rfl
  | some c =>
    cases c with
    | lst ys => rw [addCR_lst _ _ (dr_lst _ _) (dr_ref hb)]; rfl
    | _ =>
      unfold addCR
      simp only [dr_lst, show dr mu (.ref b) = .ref b by simp [dr, hb]]
      rfl
@[simp] theorem dIx_drr (a : Nat) (i : Int) (mu : List Cell) : dIx mu (dr mu (.ref a)) (.int i) = (lstO mu[a]?).bind fun xs => dIx mu (.lst xs) (.int i) := by
  cases ha : mu[a]? with
  | none => simp [dr, ha, lstO, dIx]
  | some c => cases c <;> simp [dr, ha, lstO, dIx]
@[simp] theorem dCut_drr (a : Nat) (l h : Option Int) (mu : List Cell) : dCut (dr mu (.ref a)) l h = (lstO mu[a]?).bind fun xs => dCut (.lst xs) l h := by
  cases ha : mu[a]? with
  | none => simp [dr, ha, lstO, dCut]
  | some c => cases c <;> simp [dr, ha, lstO, dCut]
@[simp] theorem at_app {α : Type} (l r : List α) (k : Nat) : (l ++ r)[l.length + k]? = r[k]? := by
  rw [List.getElem?_append_right (by omega)]
  congr 1
  omega
@[simp] theorem at_app0 {α : Type} (l r : List α) : (l ++ r)[l.length]? = r[0]? := at_app l r 0
def Dcts (mu : List Cell) (xs : List D) : Prop := ∀ x ∈ xs, ∃ m kvs, x = .ref m ∧ mu[m]? = some (.dct kvs)
theorem Dcts.itm {mu : List Cell} {xs : List D} (h : Dcts mu xs) : ∀ x ∈ xs, Itm mu x := fun x hx => .inr (.inr (.inl (h x hx)))
theorem vtext (n : Int) (mu : List Cell) (j3 j4 : Slot) : ∃ t j2, l1__law_value ⟨[.va (.int n), .va (.str []), .un, j3, j4], mu⟩ = .ok .nx ⟨[.va (.int n), .va (.str t), j2, j3, j4], mu⟩ ∧ (j2 = .un ∨ ∃ d, j2 = .va d) ∧ t.length ≤ 7 ∧ In t := by
  have hm : (0 : Int) ≤ n / 16 % 7 ∧ n / 16 % 7 < 7 := ⟨Int.emod_nonneg _ (by decide), Int.emod_lt_of_pos _ (by decide)⟩
  obtain ⟨q, hq⟩ := Int.eq_ofNat_of_zero_le hm.1
  obtain ⟨sl', e, w, j2, rfl, hj, hw, hin⟩ : ∃ sl', l1__law_value ⟨[.va (.int n), .va (.str []), .un, j3, j4], mu⟩ = .ok .nx ⟨sl', mu⟩ ∧ ∃ (w : List Nat) (j2 : Slot), sl' = [.va (.int n), .va (.str w), j2, j3, j4] ∧ (j2 = .un ∨ ∃ d, j2 = .va d) ∧ w.length ≤ q ∧ In w := by
    unfold l1__law_value
    rw [forC_old]
    exact for_range (mu := mu) (fun m sl => ∃ (w : List Nat) (j2 : Slot), sl = [.va (.int n), .va (.str w), j2, j3, j4] ∧ (j2 = .un ∨ ∃ d, j2 = .va d) ∧ w.length ≤ m ∧ In w) 0 q (range1_of (st1 := ⟨_, mu⟩) (by simp <;> rfl) hq (by omega)) (by
      rintro m sl hm2 ⟨w, j2, rfl, _, hw, hin⟩
      obtain ⟨m1, m2, m3⟩ := mixed_ret (n + m * m) (k := m) (by omega)
      have h10 := str_at (p := [32, 97, 38, 60, 34, 39, 92, 44, 41, 126]) (i := mx (n + m * m) m % 10) (Int.emod_nonneg _ (by decide)) (Int.emod_lt_of_pos _ (by decide)) mu
      exact ⟨[.va (.int n), .va (.str (w ++ [pk [32, 97, 38, 60, 34, 39, 92, 44, 41, 126] (mx (n + m * m) m % 10)])), .va (.int (0 + (m : Nat))), j3, j4], by simp [m1, h10, Sm.of (i := (m : Int)) (by omega) (by omega), show w.length + 1 ≤ 16000000 by omega], _, _, rfl, .inr ⟨_, rfl⟩, by simp; omega, hin.app fun c hc => by
        rw [List.mem_singleton.mp hc]
        exact (by decide : ∀ c ∈ [32, 97, 38, 60, 34, 39, 92, 44, 41, 126], c ∈ SIGNS) _ (pk_mem (Int.emod_nonneg _ (by decide)) (Int.emod_lt_of_pos _ (by decide)))⟩) ⟨[], _, rfl, .inl rfl, by simp, fun c hc => by cases hc⟩
  exact ⟨w, j2, e, hj, by omega, hin⟩
theorem Dcts.ext {mu more : List Cell} {xs : List D} (h : Dcts mu xs) : Dcts (mu ++ more) xs := fun x hx => by
  obtain ⟨m, kvs, e, h2⟩ := h x hx
  exact ⟨m, kvs, e, by rw [List.getElem?_append_left (List.getElem?_eq_some_iff.mp h2).1]; exact h2⟩
theorem vrows (n : Int) (t : List Nat) (mu : List Cell) (j2 : Slot) (hj : j2 = .un ∨ ∃ d, j2 = .va d) : ∃ rows more, c1__law_value ⟨[.va (.int n), .va (.str t), j2, .un, .un], mu⟩ = .ok rows ⟨[.va (.int n), .va (.str t), j2, .un, .un], mu ++ more⟩ ∧ Dcts (mu ++ more) rows ∧ rows.length ≤ 62 := by
  obtain ⟨N, hN, hi⟩ : ∃ N : Nat, N ≤ 62 ∧ ∀ mu, dIx mu (.lst [.int 0, .int 1, .int 3, .int 60, .int 61, .int 62]) (.int (n / 16 % 6)) = some (.int N) := by
    have h1 : n / 16 % 6 = 0 ∨ n / 16 % 6 = 1 ∨ n / 16 % 6 = 2 ∨ n / 16 % 6 = 3 ∨ n / 16 % 6 = 4 ∨ n / 16 % 6 = 5 := by omega
    rcases h1 with h | h | h | h | h | h <;> rw [h]
    · exact ⟨0, by decide, fun mu => rfl⟩
    · exact ⟨1, by decide, fun mu => rfl⟩
    · exact ⟨3, by decide, fun mu => rfl⟩
    · exact ⟨60, by decide, fun mu => rfl⟩
    · exact ⟨61, by decide, fun mu => rfl⟩
    · exact ⟨62, by decide, fun mu => rfl⟩
  obtain ⟨ys, mu', e, ⟨more, rfl, hd⟩, hl⟩ : ∃ ys mu', c1__law_value ⟨[.va (.int n), .va (.str t), j2, .un, .un], mu⟩ = .ok ys ⟨[.va (.int n), .va (.str t), j2, .un, .un], mu'⟩ ∧ ((∃ more, mu' = mu ++ more ∧ Dcts mu' ys) ∧ ys.length = (List.range N).length) :=
    compC_inv1 (w := []) (fun k : Nat => .int (0 + (k : Nat))) (List.range N) (fun pre acc mu' => (∃ more, mu' = mu ++ more ∧ Dcts mu' acc) ∧ acc.length = pre.length)
      (mu := mu ++ [.lst [.int 0, .int 1, .int 3, .int 60, .int 61, .int 62]]) (by
        have hr : mRange1 (mCons (mOp2 dIxC (mCell (mDisp (mCons (mPure (.int 0)) (mCons (mPure (.int 1)) (mCons (mPure (.int 3)) (mCons (mPure (.int 60)) (mCons (mPure (.int 61)) (mCons (mPure (.int 62)) mNil)))))))) (mOp2 (dBin .Mod) (mOp2 (dBin .FloorDiv) (mVar 0) (mPure (.int 16))) (mPure (.int 6)))) mNil) ⟨[.va (.int n), .va (.str t), j2, .un, .un], mu⟩ = .ok (rangeD 0 N) ⟨[.va (.int n), .va (.str t), j2, .un, .un], mu ++ [.lst [.int 0, .int 1, .int 3, .int 60, .int 61, .int 62]]⟩ :=
          range1_of (i := N) (by simp [hi]) rfl (by omega)
        unfold mOld
        rw [hr]
        rfl) (fun _ _ _ _ => (fun p hp => by cases hp)) (by simp; omega) (by rcases hj with rfl | ⟨d, rfl⟩ <;> simp) (by
        rintro pre x post acc mu' hx hl ⟨⟨more, rfl, hd⟩, _⟩
        have hx64 : x < 64 := by
          have : x ∈ List.range N := by rw [hx]; simp
          have := List.mem_range.mp this
          omega
        have hk := strs_ok x hx64
        refine ⟨.ref (mu ++ more).length, (mu ++ more) ++ [.dct (mergeD [] [(.inr ⟨[97].toArray⟩, .str (intS x))])], ?_, ⟨more ++ [.dct (mergeD [] [(.inr ⟨[97].toArray⟩, .str (intS x))])], by simp, fun y hy => ?_⟩, by simp [hl]⟩
        · have hs := kStr_int (mu ++ more) (x : Int) (by omega) hk
          simp [hs]
        · rcases List.mem_append.mp hy with hy | hy
          · exact (hd.ext (more := _)) y hy
          · rw [List.mem_singleton.mp hy]
            exact ⟨_, _, rfl, List.getElem?_concat_length⟩) ⟨⟨[.lst [.int 0, .int 1, .int 3, .int 60, .int 61, .int 62]], rfl, fun x hx => by cases hx⟩, rfl⟩
  exact ⟨ys, more, e, hd, by simp at hl; omega⟩
def VL (k : Nat) (t : List Nat) : List D := [.str t, .str t, .str (t ++ 10 :: t), .str [9], .bl true, .bl false, .ref k, .ref k, .ref (k + 5), .ref (k + 9), .non, .int 1, .int 0, .tup [], .ref (k + 12), .ref (k + 13)]
def VC (k : Nat) (rows cut : List D) (t : List Nat) : List Cell := [.lst rows, .lst [.str t, .str t, .str (t ++ 10 :: t), .str [9]], .lst [.bl true, .bl false, .ref k, .ref k], .lst [.str t, .str t, .str (t ++ 10 :: t), .str [9], .bl true, .bl false, .ref k, .ref k],
  .lst [.non], .lst (cut ++ [.non]), .dct (mergeD [] []), .lst [], .dct (mergeD [] []), .lst [.ref (k + 6), .ref (k + 7), .ref (k + 8)], .lst [.ref (k + 5), .ref (k + 9)],
  .lst [.str t, .str t, .str (t ++ 10 :: t), .str [9], .bl true, .bl false, .ref k, .ref k, .ref (k + 5), .ref (k + 9)], .dct (mergeD [] []), .lst [.str t], .lst [.non, .int 1, .int 0, .tup [], .ref (k + 12), .ref (k + 13)], .lst (VL k t)]
theorem at16 {L : List D} (h : L.length = 16) {q : Int} (h0 : 0 ≤ q) (h1 : q < 16) : ∃ d ∈ L, ∀ mu, dIx mu (.lst L) (.int q) = some d := by
  obtain ⟨k, rfl⟩ := Int.eq_ofNat_of_zero_le h0
  have hk : k < L.length := by omega
  exact ⟨L[k], List.getElem_mem hk, fun mu => dIx_lst mu (n := k) rfl (List.getElem?_eq_getElem hk)⟩
theorem VL_val {mu1 : List Cell} {rows cut : List D} {t : List Nat} (hd : Dcts mu1 rows) (hc : Dcts mu1 cut) (hl : rows.length ≤ 62) (hcl : cut.length ≤ 62) (ht : In t) (ht7 : t.length ≤ 7) {d : D} (h : d ∈ VL mu1.length t) : Val (mu1 ++ VC mu1.length rows cut t) d := by
  unfold VL at h
  simp only [List.mem_cons, List.not_mem_nil, or_false] at h
  rcases h with rfl | rfl | rfl | rfl | rfl | rfl | rfl | rfl | rfl | rfl | rfl | rfl | rfl | rfl | rfl | rfl
  · exact .inr (.inl ⟨_, rfl, ht.tx, by omega⟩)
  · exact .inr (.inl ⟨_, rfl, ht.tx, by omega⟩)
  · refine .inr (.inl ⟨_, rfl, fun c hc => ?_, by simp; omega⟩)
    rcases List.mem_append.mp hc with hc | hc
    · exact ht.tx c hc
    · rcases List.mem_cons.mp hc with rfl | hc
      · exact .inr (.inl rfl)
      · exact ht.tx c hc
  · exact .inr (.inl ⟨_, rfl, (fun c hc => .inr (.inr (List.mem_singleton.mp hc))), by decide⟩)
  · exact .inr (.inr (.inl ⟨_, rfl⟩))
  · exact .inr (.inr (.inl ⟨_, rfl⟩))
  · exact .inr (.inr (.inr (.inr (.inr (.inr ⟨_, rows, rfl, by simp [VC], by omega, (hd.ext).itm⟩)))))
  · exact .inr (.inr (.inr (.inr (.inr (.inr ⟨_, rows, rfl, by simp [VC], by omega, (hd.ext).itm⟩)))))
  · exact .inr (.inr (.inr (.inr (.inr (.inr ⟨_, cut ++ [.non], rfl, by simp [VC], by simp; omega, fun x hx => by
      rcases List.mem_append.mp hx with hx | hx
      · exact (hc.ext).itm x hx
      · exact .inl (List.mem_singleton.mp hx)⟩)))))
  · exact .inr (.inr (.inr (.inr (.inr (.inr ⟨_, [.ref (mu1.length + 6), .ref (mu1.length + 7), .ref (mu1.length + 8)], rfl, by simp [VC], by simp, fun x hx => by
      simp only [List.mem_cons, List.not_mem_nil, or_false] at hx
      rcases hx with rfl | rfl | rfl
      · exact .inr (.inr (.inl ⟨_, mergeD [] [], rfl, by simp [VC]⟩))
      · exact .inr (.inr (.inr ⟨_, [], rfl, by simp [VC]⟩))
      · exact .inr (.inr (.inl ⟨_, mergeD [] [], rfl, by simp [VC]⟩))⟩)))))
  · exact .inl rfl
  · exact .inr (.inr (.inr (.inl ⟨_, rfl⟩)))
  · exact .inr (.inr (.inr (.inl ⟨_, rfl⟩)))
  · exact .inr (.inr (.inr (.inr (.inl rfl))))
  · exact .inr (.inr (.inr (.inr (.inr (.inl ⟨_, mergeD [] [], rfl, by simp [VC]⟩)))))
  · exact .inr (.inr (.inr (.inr (.inr (.inr ⟨_, [.str t], rfl, by simp [VC], by simp, fun x hx => .inr (.inl ⟨t, List.mem_singleton.mp hx⟩)⟩)))))
theorem value_ret (n : Int) (mu : List Cell) : ∃ d more, f__law_value [.int n] mu = .ok d ⟨[], mu ++ more⟩ ∧ Val (mu ++ more) d := by
  obtain ⟨t, j2, e1, hj, ht, hin⟩ := vtext n mu .un .un
  obtain ⟨rows, m1, e2, hd, hl⟩ := vrows n t mu j2 hj
  generalize hmu : mu ++ m1 = mu1 at *
  have hm : (0 : Int) ≤ n % 16 ∧ n % 16 < 16 := ⟨Int.emod_nonneg _ (by decide), Int.emod_lt_of_pos _ (by decide)⟩
  have hc : rows.length ≤ 16000000 := by omega
  have hcm : ∀ x ∈ cutL rows none (some 3), x ∈ rows := fun x hx => List.mem_of_mem_drop (List.mem_of_mem_take hx)
  have hcl : (cutL rows none (some 3)).length ≤ rows.length := by
    unfold cutL
    simp
    omega
  have hcut : (cutL rows none (some 3)).length ≤ 15999999 := by omega
  obtain ⟨d, hdm, hdx⟩ := at16 (L := VL mu1.length t) rfl hm.1 hm.2
  refine ⟨d, m1 ++ VC mu1.length rows (cutL rows none (some 3)) t, ?_, ?_⟩
  · rw [← List.append_assoc, hmu]
    have hdx' := hdx
    unfold VL at hdx'
    simp [f__law_value, b__law_value, e1, e2, hc, show t.length + 1 ≤ 16000000 by omega, show t.length + 1 + t.length ≤ 16000000 by omega, hcut, hdx', VC, VL]
  · rw [← List.append_assoc, hmu]
    exact VL_val hd (fun x hx => hd x (hcm x hx)) hl (by omega) hin ht hdm
/-! scopes -/
theorem set_dct {mu : List Cell} {c m : Nat} {L L' : List (Key × D)} {x : Cell} (hc : mu[c]? = some (.dct L)) (hx : mu[m]? = some x) : (∃ ys, x = .dct ys ∧ ∃ zs, (mu.set c (.dct L'))[m]? = some (.dct zs)) ∨ (mu.set c (.dct L'))[m]? = some x := by
  by_cases e : c = m
  · subst e
    rw [hc] at hx
    cases hx
    exact .inl ⟨L, rfl, L', by rw [List.getElem?_set_self (List.getElem?_eq_some_iff.mp hc).1]⟩
  · exact .inr (by rw [List.getElem?_set_ne e]; exact hx)
theorem Itm.setD {mu : List Cell} {c : Nat} {L L' : List (Key × D)} {x : D} (hc : mu[c]? = some (.dct L)) (h : Itm mu x) : Itm (mu.set c (.dct L')) x := by
  rcases h with h | h | ⟨m, kvs, h, h2⟩ | ⟨m, ys, h, h2⟩
  · exact .inl h
  · exact .inr (.inl h)
  · rcases set_dct (L' := L') hc h2 with ⟨_, _, zs, z⟩ | z
    · exact .inr (.inr (.inl ⟨m, zs, h, z⟩))
    · exact .inr (.inr (.inl ⟨m, kvs, h, z⟩))
  · rcases set_dct (L' := L') hc h2 with ⟨_, z, _⟩ | z
    · cases z
    · exact .inr (.inr (.inr ⟨m, ys, h, z⟩))
theorem Val.setD {mu : List Cell} {c : Nat} {L L' : List (Key × D)} {x : D} (hc : mu[c]? = some (.dct L)) (h : Val mu x) : Val (mu.set c (.dct L')) x := by
  rcases h with h | h | h | h | h | ⟨m, kvs, h, h2⟩ | ⟨m, ys, h, h2, h3, h4⟩
  · exact .inl h
  · exact .inr (.inl h)
  · exact .inr (.inr (.inl h))
  · exact .inr (.inr (.inr (.inl h)))
  · exact .inr (.inr (.inr (.inr (.inl h))))
  · rcases set_dct (L' := L') hc h2 with ⟨_, _, zs, z⟩ | z
    · exact .inr (.inr (.inr (.inr (.inr (.inl ⟨m, zs, h, z⟩)))))
    · exact .inr (.inr (.inr (.inr (.inr (.inl ⟨m, kvs, h, z⟩)))))
  · rcases set_dct (L' := L') hc h2 with ⟨_, z, _⟩ | z
    · cases z
    · exact .inr (.inr (.inr (.inr (.inr (.inr ⟨m, ys, h, z, h3, fun x hx => (h4 x hx).setD hc⟩)))))
def KV (mu : List Cell) (L : List (Key × D)) : Prop := (L.map (·.1)).Nodup ∧ ∀ p ∈ L, Val mu p.2
def Scs (mu : List Cell) (ss : List Nat) : Prop := ∀ i ∈ ss, ∃ L, mu[i]? = some (.dct L) ∧ L.length ≤ 6 ∧ KV mu L
theorem KV.ext {mu more : List Cell} {L : List (Key × D)} (h : KV mu L) : KV (mu ++ more) L := ⟨h.1, fun p hp => (h.2 p hp).ext⟩
theorem KV.setD {mu : List Cell} {c : Nat} {L L' K : List (Key × D)} (hc : mu[c]? = some (.dct L)) (h : KV mu K) : KV (mu.set c (.dct L')) K := ⟨h.1, fun p hp => (h.2 p hp).setD hc⟩
theorem Scs.ext {mu more : List Cell} {ss : List Nat} (h : Scs mu ss) : Scs (mu ++ more) ss := fun i hi => by
  obtain ⟨L, h1, h2, h3⟩ := h i hi
  exact ⟨L, by rw [List.getElem?_append_left (List.getElem?_eq_some_iff.mp h1).1]; exact h1, h2, h3.ext⟩
theorem Scs.setD {mu : List Cell} {c : Nat} {L L' : List (Key × D)} {ss : List Nat} (hc : mu[c]? = some (.dct L)) (hn : c ∉ ss) (h : Scs mu ss) : Scs (mu.set c (.dct L')) ss := fun i hi => by
  obtain ⟨K, h1, h2, h3⟩ := h i hi
  exact ⟨K, by rw [List.getElem?_set_ne (fun e => hn (by rw [e]; exact hi))]; exact h1, h2, h3.setD hc⟩
theorem KV.put {mu : List Cell} {L : List (Key × D)} {k : Key} {v : D} (h : KV mu L) (hv : Val mu v) : KV mu (dPut L k v) ∧ (dPut L k v).length ≤ L.length + 1 := by
  unfold dPut
  split
  · refine ⟨⟨?_, fun p hp => ?_⟩, by simp⟩
    · have e : (L.map fun kv => if kv.1 = k then (kv.1, v) else kv).map (·.1) = L.map (·.1) := by
        rw [List.map_map]
        apply List.map_congr_left
        intro p _
        simp only [Function.comp]
        split <;> rfl
      rw [e]
      exact h.1
    · obtain ⟨q, hq, rfl⟩ := List.mem_map.mp hp
      split
      · exact hv
      · exact h.2 q hq
  · rename_i hn
    refine ⟨⟨?_, fun p hp => ?_⟩, by simp⟩
    · rw [List.map_append, List.nodup_append]
      refine ⟨h.1, by simp, fun a ha b hb e => ?_⟩
      simp only [List.map_cons, List.map_nil, List.mem_singleton] at hb
      subst hb e
      obtain ⟨p, hp, rfl⟩ := List.mem_map.mp ha
      exact hn (List.any_eq_true.mpr ⟨p, hp, by simp⟩)
    · rcases List.mem_append.mp hp with hp | hp
      · exact h.2 p hp
      · rw [List.mem_singleton.mp hp]
        exact hv
theorem scope_in (ns : List Int) (ws : List (List Nat)) (hw : ws.length = 7) (ss : List Nat) (k : Nat) (hk : k ≤ 6) (c : Nat) (hn : c ∉ ss) (j5 j6 : Slot) (mu : List Cell) (hc : mu[c]? = some (.dct [])) (hs : Scs mu ss) :
    ∃ L j5' j6' mu', l1__law_scopes ⟨[.va (.lk (ns.map .int)), .va (.lst (ws.map .str)), .ac (ss.map .ref), .va (.int k), .va (.ref c), j5, j6], mu⟩ = .ok .nx ⟨[.va (.lk (ns.map .int)), .va (.lst (ws.map .str)), .ac (ss.map .ref), .va (.int k), .va (.ref c), j5', j6'], mu'⟩ ∧ mu'[c]? = some (.dct L) ∧ L.length ≤ 6 ∧ KV mu' L ∧ Scs mu' ss := by
  obtain ⟨st', e, L, j5', j6', mu', rfl, h1, h2, h3, h4⟩ : ∃ st', l1__law_scopes ⟨[.va (.lk (ns.map .int)), .va (.lst (ws.map .str)), .ac (ss.map .ref), .va (.int k), .va (.ref c), j5, j6], mu⟩ = .ok .nx st' ∧
      ∃ L j5' j6' mu', st' = ⟨[.va (.lk (ns.map .int)), .va (.lst (ws.map .str)), .ac (ss.map .ref), .va (.int k), .va (.ref c), j5', j6'], mu'⟩ ∧ mu'[c]? = some (.dct L) ∧ L.length ≤ (List.range 6).length ∧ KV mu' L ∧ Scs mu' ss :=
    forC_any (w := []) (fun pre st' => ∃ L j5' j6' mu', st' = ⟨[.va (.lk (ns.map .int)), .va (.lst (ws.map .str)), .ac (ss.map .ref), .va (.int k), .va (.ref c), j5', j6'], mu'⟩ ∧ mu'[c]? = some (.dct L) ∧ L.length ≤ pre.length ∧ KV mu' L ∧ Scs mu' ss)
      (fun k : Nat => .int (0 + (k : Nat))) (List.range 6) (st1 := ⟨[.va (.lk (ns.map .int)), .va (.lst (ws.map .str)), .ac (ss.map .ref), .va (.int k), .va (.ref c), j5, j6], mu⟩) (by rfl) (fun _ _ _ => (fun p hp => by cases hp)) (by
      rintro pre x post st hx ⟨L, j5', j6', mu', rfl, h1, h2, h3, h4⟩
      have hx6 : x < 6 := by
        have : x ∈ List.range 6 := by rw [hx]; simp
        exact List.mem_range.mp this
      have hpl : pre.length ≤ 6 := by
        have := congrArg List.length hx
        simp at this
        omega
      obtain ⟨q, e1⟩ := cell_ret ns (k := 2 + 6 * (k : Nat) + (x : Nat)) (by omega)
      obtain ⟨r, e2⟩ := rest_ret q
      have hi := lstr_at (p := ws) (i := (x : Int)) (by omega) (by rw [hw]; omega)
      by_cases hr : r % 2 = 1
      · obtain ⟨d, more, e3, hv⟩ := value_ret (r / 2) mu'
        have hC : (mu' ++ more)[c]? = some (.dct L) := by rw [List.getElem?_append_left (List.getElem?_eq_some_iff.mp h1).1]; exact h1
        obtain ⟨p1, p2⟩ := (h3.ext (more := more)).put (k := .inr ⟨(pk ws (x : Int)).toArray⟩) hv
        refine ⟨⟨[.va (.lk (ns.map .int)), .va (.lst (ws.map .str)), .ac (ss.map .ref), .va (.int k), .va (.ref c), .va (.int (0 + (x : Nat))), .va (.int r)], (mu' ++ more).set c (.dct (dPut L (.inr ⟨(pk ws (x : Int)).toArray⟩) d))⟩, ?_, _, _, _, _, rfl, by rw [List.getElem?_set_self (List.getElem?_eq_some_iff.mp hC).1], by simp; omega, p1.setD hC, (h4.ext).setD hC hn⟩
        simp [e1, e2, hr, e3, hi, hC, dctSetR, Sm.of (i := (k : Int)) (by omega) (by omega), show L.length < 1000 by omega]
      · refine ⟨⟨[.va (.lk (ns.map .int)), .va (.lst (ws.map .str)), .ac (ss.map .ref), .va (.int k), .va (.ref c), .va (.int (0 + (x : Nat))), .va (.int r)], mu'⟩, ?_, _, _, _, _, rfl, h1, by simp; omega, h3, h4⟩
        simp [e1, e2, hr, Sm.of (i := (k : Int)) (by omega) (by omega)]) ⟨[], j5, j6, mu, rfl, hc, by simp, ⟨by simp, fun p hp => by cases hp⟩, hs⟩
  exact ⟨L, j5', j6', mu', e, h1, by simpa using h2, h3, h4⟩
theorem scopes_ret (ns : List Int) (ws : List (List Nat)) (hw : ws.length = 7) (mu : List Cell) : ∃ ss mu', f__law_scopes [.lk (ns.map .int), .lst (ws.map .str)] mu = .ok (.lst (ss.map .ref)) ⟨[], mu'⟩ ∧ Scs mu' ss ∧ ss.length ≤ 6 := by
  obtain ⟨q, e1⟩ := cell_ret ns (k := 1) (by omega)
  have hm : (0 : Int) ≤ q % 6 ∧ q % 6 < 6 := ⟨Int.emod_nonneg _ (by decide), Int.emod_lt_of_pos _ (by decide)⟩
  obtain ⟨n, hn⟩ := Int.eq_ofNat_of_zero_le hm.1
  obtain ⟨st', e, ss, j3, j4, j5, j6, mu', rfl, h1, h2⟩ : ∃ st', l2__law_scopes ⟨[.va (.lk (ns.map .int)), .va (.lst (ws.map .str)), .ac [], .un, .un, .un, .un], mu⟩ = .ok .nx st' ∧
      ∃ ss j3 j4 j5 j6 mu', st' = ⟨[.va (.lk (ns.map .int)), .va (.lst (ws.map .str)), .ac (ss.map .ref), j3, j4, j5, j6], mu'⟩ ∧ Scs mu' ss ∧ ss.length = (List.range n).length :=
    forC_any (w := []) (fun pre st' => ∃ ss j3 j4 j5 j6 mu', st' = ⟨[.va (.lk (ns.map .int)), .va (.lst (ws.map .str)), .ac (ss.map .ref), j3, j4, j5, j6], mu'⟩ ∧ Scs mu' ss ∧ ss.length = pre.length)
      (fun k : Nat => .int (0 + (k : Nat))) (List.range n) (st1 := ⟨[.va (.lk (ns.map .int)), .va (.lst (ws.map .str)), .ac [], .un, .un, .un, .un], mu⟩) (by
        unfold mOld
        rw [range1_of (n := n) (i := q % 6) (st1 := ⟨[.va (.lk (ns.map .int)), .va (.lst (ws.map .str)), .ac [], .un, .un, .un, .un], mu⟩) (by simp [e1]) (by omega) (by omega)]
        rfl) (fun _ _ _ => (fun p hp => by cases hp)) (by
      rintro pre x post st hx ⟨ss, j3, j4, j5, j6, mu', rfl, h1, h2⟩
      have hx6 : x < 6 := by
        have : x ∈ List.range n := by rw [hx]; simp
        have := List.mem_range.mp this
        omega
      have hpl : pre.length ≤ 6 := by
        have := congrArg List.length hx
        simp at this
        omega
      obtain ⟨L, j5', j6', mu2, e2, g1, g2, g3, g4⟩ := scope_in ns ws hw ss x (by omega) mu'.length (fun h => by
        obtain ⟨L, z, _⟩ := h1 _ h
        have := (List.getElem?_eq_some_iff.mp z).1
        omega) j5 j6 (mu' ++ [.dct (mergeD [] [])]) (by simp; rfl) h1.ext
      refine ⟨⟨[.va (.lk (ns.map .int)), .va (.lst (ws.map .str)), .ac ((ss ++ [mu'.length]).map .ref), .va (.int (0 + (x : Nat))), .va (.ref mu'.length), j5', j6'], mu2⟩, ?_, _, _, _, _, _, _, rfl, fun i hi => ?_, by simp [h2]⟩
      · simp [e2, show ss.length < 16000000 by omega]
      · rcases List.mem_append.mp hi with hi | hi
        · exact g4 i hi
        · rw [List.mem_singleton.mp hi]
          exact ⟨L, g1, g2, g3⟩) ⟨[], .un, .un, .un, .un, mu, rfl, (fun i hi => (by cases hi)), rfl⟩
  have hl : ss.length = n := by simpa using h2
  refine ⟨ss, mu', ?_, h1, by omega⟩
  simp [f__law_scopes, b__law_scopes, e]
/-! told by scopes -/
abbrev ky (w : List Nat) : Key := .inr ⟨w.toArray⟩
def DL (mu : List Cell) (ss : List Nat) (Ls : List (List (Key × D))) : Prop := ss.map (fun i => mu[i]?) = Ls.map (fun L => some (Cell.dct L))
def vL (Ls : List (List (Key × D))) (w : List Nat) : Option D := Ls.reverse.findSome? fun L => valD L (ky w)
theorem DL.cons {mu : List Cell} {i : Nat} {ss : List Nat} {L : List (Key × D)} {Ls : List (List (Key × D))} : DL mu (i :: ss) (L :: Ls) ↔ mu[i]? = some (.dct L) ∧ DL mu ss Ls := by simp [DL]
theorem DL.rev {mu : List Cell} {ss : List Nat} {Ls : List (List (Key × D))} (h : DL mu ss Ls) : DL mu ss.reverse Ls.reverse := by
  unfold DL at *
  rw [List.map_reverse, List.map_reverse, h]
theorem DL.len {mu : List Cell} {ss : List Nat} {Ls : List (List (Key × D))} (h : DL mu ss Ls) : ss.length = Ls.length := by
  have := congrArg List.length h
  simpa using this
theorem vloop (A : D) (w : List Nat) (mu : List Cell) : ∀ (rs : List Nat) (Rs : List (List (Key × D))) (j : Slot), DL mu rs Rs → ∃ j', loop (.nm 2) (mIte (mBool (mOp2 (dCmpW .In) (mVar 1) (mVar 2))) (sRet (mDGet (mVar 2) (mVar 1))) sNext) (rs.map .ref) ⟨[.va A, .va (.str w), j], mu⟩ =
      .ok (match Rs.findSome? (fun L => valD L (ky w)) with | some d => .rt d | none => .nx) ⟨[.va A, .va (.str w), j'], mu⟩
  | [], [], j, _ => ⟨j, rfl⟩
  | [], _ :: _, j, h => by simp [DL] at h
  | _ :: _, [], j, h => by simp [DL] at h
  | i :: rs, L :: Rs, j, h => by
    obtain ⟨h1, h2⟩ := DL.cons.mp h
    cases e : valD L (ky w) with
    | some d =>
      refine ⟨.va (.ref i), ?_⟩
      rw [List.map_cons]
      unfold loop
      simp [cW_in h1, e, h1, List.findSome?_cons]
    | none =>
      obtain ⟨j', e2⟩ := vloop A w mu rs Rs (.va (.ref i)) h2
      refine ⟨j', ?_⟩
      rw [List.map_cons]
      unfold loop
      simp [cW_in h1, e, e2, List.findSome?_cons]
section
variable {mu : List Cell} {ss : List Nat} {Ls : List (List (Key × D))} (h : DL mu ss Ls) {w : List Nat}
include h
theorem value_some {d : D} (e : vL Ls w = some d) : f_value_of [.lst (ss.map .ref), .str w] mu = .ok d ⟨[], mu⟩ := by
  obtain ⟨j, e1⟩ := vloop (.lst (ss.map .ref)) w mu ss.reverse Ls.reverse .un h.rev
  unfold vL at e
  rw [e, List.map_reverse] at e1
  have hl : l1_value_of = sForC (.nm 2) (mOld (mRev (mVar 0))) (mIte (mBool (mOp2 (dCmpW .In) (mVar 1) (mVar 2))) (sRet (mDGet (mVar 2) (mVar 1))) sNext) := rfl
  simp [f_value_of, b_value_of, hl, e1]
theorem value_none (e : vL Ls w = none) : f_value_of [.lst (ss.map .ref), .str w] mu = .er ⟨"NoValue", [("name", .str w)]⟩ ⟨[], mu⟩ := by
  obtain ⟨j, e1⟩ := vloop (.lst (ss.map .ref)) w mu ss.reverse Ls.reverse .un h.rev
  unfold vL at e
  rw [e, List.map_reverse] at e1
  have hl : l1_value_of = sForC (.nm 2) (mOld (mRev (mVar 0))) (mIte (mBool (mOp2 (dCmpW .In) (mVar 1) (mVar 2))) (sRet (mDGet (mVar 2) (mVar 1))) sNext) := rfl
  simp [f_value_of, b_value_of, hl, e1]
def KdIs (mu : List Cell) (d : D) (t : Ty) (b : Bool) : Prop := ∃ k, kdOf mu d = some k ∧ isKd k t = b
theorem text_none (e : vL Ls w = none) : f_text_of [.lst (ss.map .ref), .str w] mu = .er ⟨"NoValue", [("name", .str w)]⟩ ⟨[], mu⟩ := by
  simp [f_text_of, b_text_of, value_none h e]
theorem text_no {d : D} (e : vL Ls w = some d) (k : KdIs mu d .str false) : f_text_of [.lst (ss.map .ref), .str w] mu = .er ⟨"NoKind", [("name", .str w)]⟩ ⟨[], mu⟩ := by
  obtain ⟨k, k1, k2⟩ := k
  simp [f_text_of, b_text_of, value_some h e, k1, k2]
theorem text_in {t : List Nat} (e : vL Ls w = some (.str t)) (k : In t) : f_text_of [.lst (ss.map .ref), .str w] mu = .ok (.str t) ⟨[], mu⟩ := by
  simp [f_text_of, b_text_of, value_some h e, need_ret k, isKd]
theorem text_at {a b : List Nat} {c : Nat} (e : vL Ls w = some (.str (a ++ c :: b))) (k : In a) (hc : c ∉ SIGNS) : f_text_of [.lst (ss.map .ref), .str w] mu = .er ⟨"NoSign", [("at", .int (a.length : Nat))]⟩ ⟨[], mu⟩ := by
  simp [f_text_of, b_text_of, value_some h e, need_at k hc, isKd]
theorem truth_none (e : vL Ls w = none) : f_truth_of [.lst (ss.map .ref), .str w] mu = .er ⟨"NoValue", [("name", .str w)]⟩ ⟨[], mu⟩ := by
  simp [f_truth_of, b_truth_of, value_none h e]
theorem truth_no {d : D} (e : vL Ls w = some d) (k : KdIs mu d .bool false) : f_truth_of [.lst (ss.map .ref), .str w] mu = .er ⟨"NoKind", [("name", .str w)]⟩ ⟨[], mu⟩ := by
  obtain ⟨k, k1, k2⟩ := k
  simp [f_truth_of, b_truth_of, value_some h e, k1, k2]
theorem truth_yes {d : D} (e : vL Ls w = some d) (k : KdIs mu d .bool true) : f_truth_of [.lst (ss.map .ref), .str w] mu = .ok d ⟨[], mu⟩ := by
  obtain ⟨k, k1, k2⟩ := k
  simp [f_truth_of, b_truth_of, value_some h e, k1, k2]
theorem rows_none (e : vL Ls w = none) : f_rows_of [.lst (ss.map .ref), .str w] mu = .er ⟨"NoValue", [("name", .str w)]⟩ ⟨[], mu⟩ := by
  simp [f_rows_of, b_rows_of, value_none h e]
theorem rows_no {d : D} (e : vL Ls w = some d) (k : KdIs mu d .list false) : f_rows_of [.lst (ss.map .ref), .str w] mu = .er ⟨"NoKind", [("name", .str w)]⟩ ⟨[], mu⟩ := by
  obtain ⟨k, k1, k2⟩ := k
  simp [f_rows_of, b_rows_of, value_some h e, k1, k2]
end
/-! rows -/
def dictB (mu : List Cell) (x : D) : Bool := match kdOf mu x with
  | some .dict => true
  | _ => false
theorem dictB_kd {mu : List Cell} {x : D} {k : Kd} (h : kdOf mu x = some k) : isKd k .dict = dictB mu x := by
  unfold dictB
  rw [h]
  cases k <;> rfl
abbrev rowB : MS := mIte (mNot (mBool (mIsi .dict (mVar 3)))) (sRaise "NoKind" ([("name", 1)] : List (Str × Nat)) 1 (mCons (mVar 1) mNil)) sNext
theorem rloop {A d : D} {w : List Nat} {W : List (Nat × List D)} {mu : List Cell} (hw : WP W mu) : ∀ (xs : List D) (j : Slot), (∀ x ∈ xs, ∃ k, kdOf mu x = some k) →
    (xs.all (dictB mu) = true → ∃ j', loopC W (.nm 3) rowB xs ⟨[.va A, .va (.str w), .va d, j], mu⟩ = .ok .nx ⟨[.va A, .va (.str w), .va d, j'], mu⟩) ∧
    (xs.all (dictB mu) = false → ∃ sl, loopC W (.nm 3) rowB xs ⟨[.va A, .va (.str w), .va d, j], mu⟩ = .er ⟨"NoKind", [("name", .str w)]⟩ ⟨sl, mu⟩)
  | [], j, _ => ⟨fun _ => ⟨j, loopC_nil hw⟩, fun h => by cases h⟩
  | x :: xs, j, h => by
    obtain ⟨k, hk⟩ := h x (by simp)
    obtain ⟨i1, i2⟩ := rloop (A := A) (d := d) (w := w) hw xs (.va x) fun y hy => h y (by simp [hy])
    have e := dictB_kd hk
    cases hd : dictB mu x with
    | true =>
      rw [hd] at e
      refine ⟨fun q => ?_, fun q => ?_⟩
      · obtain ⟨j', e2⟩ := i1 (by simpa [hd] using q)
        refine ⟨j', ?_⟩
        rw [loopC_cons hw]
        simp [hk, e, e2]
      · obtain ⟨sl, e2⟩ := i2 (by simpa [hd] using q)
        refine ⟨sl, ?_⟩
        rw [loopC_cons hw]
        simp [hk, e, e2]
    | false =>
      rw [hd] at e
      refine ⟨fun q => (by simp [hd] at q), fun q => ⟨[.va A, .va (.str w), .va d, .va x], ?_⟩⟩
      rw [loopC_cons hw]
      simp [hk, e]
theorem wp_cell {mu : List Cell} {n : Nat} {xs : List D} (h : mu[n]? = some (.lst xs)) : WP [(n, xs)] mu := fun p hp => by
  rw [List.mem_singleton.mp hp]
  exact h
theorem src_cell {mu : List Cell} {n : Nat} {xs : List D} (h : mu[n]? = some (.lst xs)) : srcOf mu (.ref n) = some (xs, [(n, xs)]) := by
  unfold srcOf
  simp only [h]
  rfl
theorem kd_cell {mu : List Cell} {n : Nat} {xs : List D} (h : mu[n]? = some (.lst xs)) : kdOf mu (.ref n) = some .list := by
  unfold kdOf
  simp only [h]
theorem kd_dct {mu : List Cell} {n : Nat} {xs : List (Key × D)} (h : mu[n]? = some (.dct xs)) : kdOf mu (.ref n) = some .dict := by
  unfold kdOf
  simp only [h]
theorem Itm.kd {mu : List Cell} {x : D} (h : Itm mu x) : ∃ k, kdOf mu x = some k := by
  rcases h with rfl | ⟨t, rfl⟩ | ⟨m, kvs, rfl, h2⟩ | ⟨m, ys, rfl, h2⟩
  · exact ⟨_, rfl⟩
  · exact ⟨_, rfl⟩
  · exact ⟨_, kd_dct h2⟩
  · exact ⟨_, kd_cell h2⟩
@[simp] theorem lenD_drr (a : Nat) (mu : List Cell) : lenD (dr mu (.ref a)) = (lstO mu[a]?).bind fun xs => some xs.length := by
  cases ha : mu[a]? with
  | none => simp [dr, ha, lstO, lenD]
  | some c => cases c <;> simp [dr, ha, lstO, lenD]
theorem rows_loop (A : D) (w : List Nat) {mu : List Cell} {n : Nat} {xs : List D} (hn : mu[n]? = some (.lst xs)) (hx : ∀ x ∈ xs, Itm mu x) :
    (xs.all (dictB mu) = true → ∃ j', l1_rows_of ⟨[.va A, .va (.str w), .va (.ref n), .un], mu⟩ = .ok .nx ⟨[.va A, .va (.str w), .va (.ref n), j'], mu⟩) ∧
    (xs.all (dictB mu) = false → ∃ sl, l1_rows_of ⟨[.va A, .va (.str w), .va (.ref n), .un], mu⟩ = .er ⟨"NoKind", [("name", .str w)]⟩ ⟨sl, mu⟩) := by
  have e : l1_rows_of ⟨[.va A, .va (.str w), .va (.ref n), .un], mu⟩ = loopC [(n, xs)] (.nm 3) rowB xs ⟨[.va A, .va (.str w), .va (.ref n), .un], mu⟩ := by
    show (mItC (mVar 2) _).bind _ = _
    have : mItC (mVar 2) ⟨[.va A, .va (.str w), .va (.ref n), .un], mu⟩ = .ok (xs, [(n, xs)]) ⟨[.va A, .va (.str w), .va (.ref n), .un], mu⟩ := by
      simp [itR_src (src_cell hn)]
    rw [this]
    rfl
  rw [e]
  exact rloop (wp_cell hn) xs .un fun x h => (hx x h).kd
section
variable {mu : List Cell} {ss : List Nat} {Ls : List (List (Key × D))} (h : DL mu ss Ls) {w : List Nat} {n : Nat} {xs : List D} (e : vL Ls w = some (.ref n)) (hn : mu[n]? = some (.lst xs)) (hx : ∀ x ∈ xs, Itm mu x)
include h e hn hx
theorem rows_long (hl : 60 < xs.length) : f_rows_of [.lst (ss.map .ref), .str w] mu = .er ⟨"NoKind", [("name", .str w)]⟩ ⟨[], mu⟩ := by
  simp [f_rows_of, b_rows_of, value_some h e, kd_cell hn, isKd, hn, show (60 : Int) < xs.length by omega]
theorem rows_yes (hl : xs.length ≤ 60) (ha : xs.all (dictB mu) = true) : f_rows_of [.lst (ss.map .ref), .str w] mu = .ok (.ref n) ⟨[], mu⟩ := by
  obtain ⟨j, e1⟩ := (rows_loop (.lst (ss.map .ref)) w hn hx).1 ha
  simp [f_rows_of, b_rows_of, value_some h e, kd_cell hn, isKd, hn, show ¬ (60 : Int) < xs.length by omega, e1]
theorem rows_odd (hl : xs.length ≤ 60) (ha : xs.all (dictB mu) = false) : f_rows_of [.lst (ss.map .ref), .str w] mu = .er ⟨"NoKind", [("name", .str w)]⟩ ⟨[], mu⟩ := by
  obtain ⟨sl, e1⟩ := (rows_loop (.lst (ss.map .ref)) w hn hx).2 ha
  simp [f_rows_of, b_rows_of, value_some h e, kd_cell hn, isKd, hn, show ¬ (60 : Int) < xs.length by omega, e1]
end
/-! found, due -/
theorem found_ok {A : D} {w : List Nat} {k : Nat} {F : Fn} {d : D} {mu : List Cell} (hk : [f_value_of, f_text_of, f_truth_of, f_rows_of][k]? = some F) (h : F [A, .str w] mu = .ok d ⟨[], mu⟩) : f__law_found [A, .str w, .int k] mu = .ok (.tup [.str [116, 111, 108, 100], d]) ⟨[], mu⟩ := by
  have e : atI [f_value_of, f_text_of, f_truth_of, f_rows_of] (k : Int) = some F := by rw [Pv.atI_nat, hk]
  simp [f__law_found, b__law_found, e, h]
theorem found_er {A : D} {w : List Nat} {k : Nat} {F : Fn} {c f : Str} {p : List Nat} {d : D} {mu : List Cell} (hk : [f_value_of, f_text_of, f_truth_of, f_rows_of][k]? = some F) (h : F [A, .str w] mu = .er ⟨c, [(f, d)]⟩ ⟨[], mu⟩)
    (hc : (c = "NoValue" ∧ f = "name" ∧ p = [118, 97, 108, 117, 101]) ∨ (c = "NoKind" ∧ f = "name" ∧ p = [107, 105, 110, 100]) ∨ (c = "NoSign" ∧ f = "at" ∧ p = [115, 105, 103, 110])) : f__law_found [A, .str w, .int k] mu = .ok (.tup [.str p, d]) ⟨[], mu⟩ := by
  have e : atI [f_value_of, f_text_of, f_truth_of, f_rows_of] (k : Int) = some F := by rw [Pv.atI_nat, hk]
  have key : ∀ (sl : List Slot), 3 < sl.length → tryXK 3 (subsOf subs "SealError") (xSeq (xIf (xOr (xAny ["NoName", "TooMany"]) (xNot xIsV))
  (xRet (xTup (xCons (xCon (.str [110, 111, 110, 101])) (xCons (xCon (.str [])) xNil))))
  xNext)
  (xSeq (xIf (xIs "NoValue")
  (xRet (xTup (xCons (xCon (.str [118, 97, 108, 117, 101])) (xCons (xFld xtab "name") xNil))))
  xNext)
  (xSeq (xIf (xIs "NoKind")
  (xRet (xTup (xCons (xCon (.str [107, 105, 110, 100])) (xCons (xFld xtab "name") xNil))))
  xNext)
  (xSeq (xIf (xIs "NoSign")
  (xRet (xTup (xCons (xCon (.str [115, 105, 103, 110])) (xCons (xFld xtab "at") xNil))))
  xNext)
  (xRet (xTup (xCons (xCon (.str [110, 111, 110, 101])) (xCons (xCon (.str [])) xNil)))))))) (.er ⟨c, [(f, d)]⟩ ⟨sl, mu⟩) = .ok (.rt (.tup [.str p, d])) ⟨sl.set 3 .un, mu⟩ := fun sl hl => by
    rcases hc with ⟨rfl, rfl, rfl⟩ | ⟨rfl, rfl, rfl⟩ | ⟨rfl, rfl, rfl⟩
    · have x1 : anyN xiA "NoValue" ["NoName", "TooMany"] = some false := by decide +kernel
      have x2 : xiA.isN "NoValue" "NoValue" = some true := by decide +kernel
      have x4 : xiA.isV "NoValue" = some true := by decide +kernel
      have x5 : ("NoValue" : Str) ∈ xtab := by decide +kernel
      exact tryXK_rt (show subsOf subs "SealError" "NoValue" = some true by decide) (by simp [xTup, xCons, xNil, xNot, xOr, xOut, xAny, xIs, xIsV, xSeq, xIf, xAnd, xRet, xCon, xFld, xNext, x1, x2, x4, x5]) hl
    · have x1 : anyN xiA "NoKind" ["NoName", "TooMany"] = some false := by decide +kernel
      have x2 : xiA.isN "NoValue" "NoKind" = some false := by decide +kernel
      have x3 : xiA.isN "NoKind" "NoKind" = some true := by decide +kernel
      have x4 : xiA.isV "NoKind" = some true := by decide +kernel
      have x5 : ("NoKind" : Str) ∈ xtab := by decide +kernel
      exact tryXK_rt (show subsOf subs "SealError" "NoKind" = some true by decide) (by simp [xTup, xCons, xNil, xNot, xOr, xOut, xAny, xIs, xIsV, xSeq, xIf, xAnd, xRet, xCon, xFld, xNext, x1, x2, x3, x4, x5]) hl
    · have x1 : anyN xiA "NoSign" ["NoName", "TooMany"] = some false := by decide +kernel
      have x2 : xiA.isN "NoValue" "NoSign" = some false := by decide +kernel
      have x3 : xiA.isN "NoKind" "NoSign" = some false := by decide +kernel
      have x6 : xiA.isN "NoSign" "NoSign" = some true := by decide +kernel
      have x4 : xiA.isV "NoSign" = some true := by decide +kernel
      have x5 : ("NoSign" : Str) ∈ xtab := by decide +kernel
      exact tryXK_rt (show subsOf subs "SealError" "NoSign" = some true by decide) (by simp [xTup, xCons, xNil, xNot, xOr, xOut, xAny, xIs, xIsV, xSeq, xIf, xAnd, xRet, xCon, xFld, xNext, x1, x2, x3, x4, x5, x6]) hl
  simp [f__law_found, b__law_found, e, h, key]
/-! the law's own word -/
theorem lforeign_of (t : List Nat) (ht : t.length ≤ 1000) : Ret f__law_foreign [.str t] (.lst ((((List.range t.length).filter fun k : Nat => [10, 9].contains (pk t (k : Int))).map fun k : Nat => D.int k).take 1)) := fun mu => by
  have hr : mRange1 (mCons (mLenV 0) mNil) ⟨[.va (.str t), .un, .un], mu⟩ = .ok (rangeD 0 t.length) ⟨[.va (.str t), .un, .un], mu⟩ := range1_of (i := t.length) (by simp [lenD]) rfl (by omega)
  have e : c1__law_foreign ⟨[.va (.str t), .un, .un], mu⟩ = .ok (((List.range t.length).filter fun k : Nat => [10, 9].contains (pk t (k : Int))).map fun k : Nat => D.int k) ⟨[.va (.str t), .un, .un], mu⟩ := by
    unfold c1__law_foreign
    refine mComp_map (fun k : Nat => .int (0 + (k : Nat))) (fun k : Nat => [10, 9].contains (pk t (k : Int))) (fun k : Nat => D.int k) (List.range t.length) hr (.inl rfl) (by simp; omega) fun k hk => ⟨?_, fun _ => ?_⟩
    · have hk := List.mem_range.mp hk
      have hi := str_at (p := t) (i := (k : Int)) (by omega) (by omega) mu
      simp [hi]
    · simp
  generalize ((List.range t.length).filter fun k : Nat => [10, 9].contains (pk t (k : Int))).map (fun k : Nat => D.int k) = G at e ⊢
  have c1 : cutL G none (some 1) = G.take 1 := cutL_to G 1
  simp [f__law_foreign, b__law_foreign, e, dCut, c1]
theorem range_first {p : Nat → Bool} {n m : Nat} (h : ∀ i, i < n → p i = false) (hn : p n = true) : ((List.range (n + (m + 1))).filter p).map (fun k : Nat => D.int k) = .int n :: (((List.range m).map fun j => n + (j + 1)).filter p).map (fun k : Nat => D.int k) := by
  rw [List.range_add, List.filter_append, List.range_succ_eq_map]
  have e : (List.range n).filter p = [] := List.filter_eq_nil_iff.mpr fun i hi => by
    rw [h i (List.mem_range.mp hi)]
    decide
  rw [e]
  simp [hn, List.map_map, Function.comp_def]
/-- the values that scopes have, one by one -/
def VS (Ls : List (List (Key × D))) (w : List Nat) : List D := Ls.filterMap fun L => valD L (ky w)
theorem VS_last (Ls : List (List (Key × D))) (w : List Nat) : (VS Ls w).getLast? = vL Ls w := by
  unfold VS vL
  rw [List.getLast?_eq_head?_reverse, ← List.filterMap_reverse, List.head?_filterMap]
theorem VS_none {Ls : List (List (Key × D))} {w : List Nat} (h : vL Ls w = none) : VS Ls w = [] := by
  rw [← VS_last] at h
  exact List.getLast?_eq_none_iff.mp h
theorem VS_some {Ls : List (List (Key × D))} {w : List Nat} {d : D} (h : vL Ls w = some d) : ∃ pre, VS Ls w = pre ++ [d] ∧ (pre ++ [d]).isEmpty = false := by
  rw [← VS_last] at h
  obtain ⟨pre, e⟩ := List.getLast?_eq_some_iff.mp h
  exact ⟨pre, e, by cases pre <;> rfl⟩
theorem zip_vs {mu : List Cell} (w : List Nat) : ∀ {ss : List Nat} {Ls : List (List (Key × D))}, DL mu ss Ls → (ss.zip Ls).map (fun p => D.ref p.1) = ss.map .ref ∧ (∀ p ∈ ss.zip Ls, mu[p.1]? = some (.dct p.2)) ∧
    ((ss.zip Ls).filter fun p => (valD p.2 (ky w)).isSome).map (fun p => (valD p.2 (ky w)).getD .non) = VS Ls w
  | [], [], _ => ⟨rfl, fun p hp => (by cases hp), rfl⟩
  | [], _ :: _, h => by simp [DL] at h
  | _ :: _, [], h => by simp [DL] at h
  | i :: ss, L :: Ls, h => by
    obtain ⟨h1, h2⟩ := DL.cons.mp h
    obtain ⟨i1, i2, i3⟩ := zip_vs w h2
    refine ⟨by simp [i1], fun p hp => ?_, ?_⟩
    · rw [List.zip_cons_cons] at hp
      rcases List.mem_cons.mp hp with rfl | hp
      · exact h1
      · exact i2 p hp
    · unfold VS at *
      rw [List.zip_cons_cons, List.filter_cons, List.filterMap_cons]
      cases e : valD L (ky w) with
      | none => simpa [e] using i3
      | some d => simpa [e] using i3
section
variable {mu : List Cell} {ss : List Nat} {Ls : List (List (Key × D))} (h : DL mu ss Ls) (w : List Nat)
include h
theorem due_c1 (want : D) (hl : ss.length ≤ 6) : c1__law_due ⟨[.va (.lst (ss.map .ref)), .va (.str w), .va want, .un, .un, .un, .un], mu⟩ = .ok (VS Ls w) ⟨[.va (.lst (ss.map .ref)), .va (.str w), .va want, .un, .un, .un, .un], mu⟩ := by
  obtain ⟨i1, i2, i3⟩ := zip_vs w h
  rw [← i3]
  unfold c1__law_due
  refine compC_gen (w := []) (fun p hp => by cases hp) (fun p : Nat × List (Key × D) => D.ref p.1) (fun p => (valD p.2 (ky w)).isSome) (fun p => (valD p.2 (ky w)).getD .non) (fun p => [.va (.lst (ss.map .ref)), .va (.str w), .va want, .un, .un, .va (.ref p.1), .un]) (ss.zip Ls) (by rw [i1]; simp) (by
    rw [List.length_zip]
    omega) rfl fun p hp => ⟨rfl, rfl, ?_, fun hs => ?_⟩
  · simp [cW_in (i2 p hp)]
  · obtain ⟨d, hd⟩ := Option.isSome_iff_exists.mp hs
    simp [i2 p hp, hd]
theorem due_none (e : vL Ls w = none) (want : D) (hl : ss.length ≤ 6) : f__law_due [.lst (ss.map .ref), .str w, want] mu = .ok (.tup [.str [118, 97, 108, 117, 101], .str w]) ⟨[], mu⟩ := by
  simp [f__law_due, b__law_due, due_c1 h w want hl, VS_none e]
theorem due_0 {d : D} (e : vL Ls w = some d) (hl : ss.length ≤ 6) : f__law_due [.lst (ss.map .ref), .str w, .int 0] mu = .ok (.tup [.str [116, 111, 108, 100], d]) ⟨[], mu⟩ := by
  obtain ⟨pre, hp, hz⟩ := VS_some e
  simp [f__law_due, b__law_due, due_c1 h w _ hl, hp, hz]
theorem due_1no {d : D} (e : vL Ls w = some d) (hl : ss.length ≤ 6) (k : KdIs mu d .str false) : f__law_due [.lst (ss.map .ref), .str w, .int 1] mu = .ok (.tup [.str [107, 105, 110, 100], .str w]) ⟨[], mu⟩ := by
  obtain ⟨pre, hp, hz⟩ := VS_some e
  obtain ⟨k, k1, k2⟩ := k
  simp [f__law_due, b__law_due, due_c1 h w _ hl, hp, hz, k1, k2]
theorem due_2no {d : D} (e : vL Ls w = some d) (hl : ss.length ≤ 6) (k : KdIs mu d .bool false) : f__law_due [.lst (ss.map .ref), .str w, .int 2] mu = .ok (.tup [.str [107, 105, 110, 100], .str w]) ⟨[], mu⟩ := by
  obtain ⟨pre, hp, hz⟩ := VS_some e
  obtain ⟨k, k1, k2⟩ := k
  simp [f__law_due, b__law_due, due_c1 h w _ hl, hp, hz, k1, k2]
theorem due_2yes {d : D} (e : vL Ls w = some d) (hl : ss.length ≤ 6) (k : KdIs mu d .bool true) : f__law_due [.lst (ss.map .ref), .str w, .int 2] mu = .ok (.tup [.str [116, 111, 108, 100], d]) ⟨[], mu⟩ := by
  obtain ⟨pre, hp, hz⟩ := VS_some e
  obtain ⟨k, k1, k2⟩ := k
  simp [f__law_due, b__law_due, due_c1 h w _ hl, hp, hz, k1, k2]
theorem due_3no {d : D} (e : vL Ls w = some d) (hl : ss.length ≤ 6) (k : KdIs mu d .list false) : f__law_due [.lst (ss.map .ref), .str w, .int 3] mu = .ok (.tup [.str [107, 105, 110, 100], .str w]) ⟨[], mu⟩ := by
  obtain ⟨pre, hp, hz⟩ := VS_some e
  obtain ⟨k, k1, k2⟩ := k
  simp [f__law_due, b__law_due, due_c1 h w _ hl, hp, hz, k1, k2]
end
theorem sg_no {c : Nat} (h : c ∈ SIGNS) : ([10, 9] : List Nat).contains c = false := by
  have k : ∀ c ∈ SIGNS, ([10, 9] : List Nat).contains c = false := by decide +kernel
  exact k c h
theorem pk_app {a b : List Nat} {i : Nat} (h : i < a.length) : pk (a ++ b) (i : Int) = pk a (i : Int) := by
  unfold pk
  simp only [Int.toNat_natCast]
  rw [List.getElem?_append_left h]
theorem lforeign_in {t : List Nat} (h : In t) (ht : t.length ≤ 1000) : Ret f__law_foreign [.str t] (.lst []) := by
  have e := lforeign_of t ht
  rw [show (List.range t.length).filter (fun k : Nat => [10, 9].contains (pk t (k : Int))) = [] from List.filter_eq_nil_iff.mpr fun i hi => by
    rw [sg_no (h _ (pk_mem (by omega) (by have := List.mem_range.mp hi; omega)))]
    decide] at e
  exact e
theorem lforeign_at {a b : List Nat} {c : Nat} (h : In a) (hc : c = 10 ∨ c = 9) (ht : (a ++ c :: b).length ≤ 1000) : Ret f__law_foreign [.str (a ++ c :: b)] (.lst [.int a.length]) := by
  have e := lforeign_of _ ht
  rw [show (a ++ c :: b).length = a.length + (b.length + 1) by simp, range_first (p := fun k : Nat => [10, 9].contains (pk (a ++ c :: b) (k : Int))) (fun i hi => by
    show [10, 9].contains (pk (a ++ c :: b) (i : Int)) = false
    rw [pk_app hi]
    exact sg_no (h _ (pk_mem (by omega) (by omega)))) (by
    show [10, 9].contains (pk (a ++ c :: b) ((a.length : Nat) : Int)) = true
    have : pk (a ++ c :: b) ((a.length : Nat) : Int) = c := by
      unfold pk
      simp
    rw [this]
    rcases hc with rfl | rfl <;> rfl)] at e
  exact e
theorem tx_split : ∀ {t : List Nat}, Tx t → In t ∨ ∃ a c b, t = a ++ c :: b ∧ In a ∧ (c = 10 ∨ c = 9)
  | [], _ => .inl fun c hc => by cases hc
  | c :: t, h => by
    rcases h c (by simp) with hc | hc
    · rcases tx_split (t := t) (fun x hx => h x (by simp [hx])) with q | ⟨a, x, b, rfl, ha, hx⟩
      · refine .inl fun x hx => ?_
        rcases List.mem_cons.mp hx with rfl | hx
        · exact hc
        · exact q x hx
      · refine .inr ⟨c :: a, x, b, rfl, fun y hy => ?_, hx⟩
        rcases List.mem_cons.mp hy with rfl | hy
        · exact hc
        · exact ha y hy
    · exact .inr ⟨[], c, t, rfl, (fun x hx => by cases hx), hc⟩
theorem out_no {c : Nat} (h : c = 10 ∨ c = 9) : c ∉ SIGNS := by
  rcases h with rfl | rfl <;> decide
section
variable {mu : List Cell} {ss : List Nat} {Ls : List (List (Key × D))} (h : DL mu ss Ls) (w : List Nat)
include h
theorem due_1in {t : List Nat} (e : vL Ls w = some (.str t)) (hl : ss.length ≤ 6) (k : In t) (ht : t.length ≤ 1000) : f__law_due [.lst (ss.map .ref), .str w, .int 1] mu = .ok (.tup [.str [116, 111, 108, 100], .str t]) ⟨[], mu⟩ := by
  obtain ⟨pre, hp, hz⟩ := VS_some e
  simp [f__law_due, b__law_due, due_c1 h w _ hl, hp, hz, isKd, lforeign_in k ht]
theorem due_1at {a b : List Nat} {c : Nat} (e : vL Ls w = some (.str (a ++ c :: b))) (hl : ss.length ≤ 6) (k : In a) (hc : c = 10 ∨ c = 9) (ht : (a ++ c :: b).length ≤ 1000) : f__law_due [.lst (ss.map .ref), .str w, .int 1] mu = .ok (.tup [.str [115, 105, 103, 110], .int a.length]) ⟨[], mu⟩ := by
  obtain ⟨pre, hp, hz⟩ := VS_some e
  simp [f__law_due, b__law_due, due_c1 h w _ hl, hp, hz, isKd, lforeign_at k hc ht]
variable {n : Nat} {xs : List D} (e : vL Ls w = some (.ref n)) (hn : mu[n]? = some (.lst xs)) (hx : ∀ x ∈ xs, Itm mu x) (hl : ss.length ≤ 6)
include e hn hx hl
theorem due_long (hz : 60 < xs.length) : f__law_due [.lst (ss.map .ref), .str w, .int 3] mu = .ok (.tup [.str [107, 105, 110, 100], .str w]) ⟨[], mu⟩ := by
  obtain ⟨pre, hp, hz'⟩ := VS_some e
  simp [f__law_due, b__law_due, due_c1 h w _ hl, hp, hz', kd_cell hn, isKd, hn, show (60 : Int) < xs.length by omega]
theorem due_c2 (A B C : D) (hz : xs.length ≤ 60) : c2__law_due ⟨[.va A, .va B, .va C, .va (.lst (VS Ls w)), .va (.ref n), .un, .un], mu⟩ = .ok (xs.filter fun x => !dictB mu x) ⟨[.va A, .va B, .va C, .va (.lst (VS Ls w)), .va (.ref n), .un, .un], mu⟩ := by
  have := compC_gen (its := mItC (mVar 4)) (T := .nm 6) (vs := [6]) (c := mNot (mBool (mIsi .dict (mVar 6)))) (elt := mVar 6) (st := ⟨[.va A, .va B, .va C, .va (.lst (VS Ls w)), .va (.ref n), .un, .un], mu⟩) (sl := [.va A, .va B, .va C, .va (.lst (VS Ls w)), .va (.ref n), .un, .un]) (wp_cell hn) (fun x : D => x) (fun x => !dictB mu x) (fun x => x) (fun x => [.va A, .va B, .va C, .va (.lst (VS Ls w)), .va (.ref n), .un, .va x]) xs (by simp [itR_src (src_cell hn)]) (by omega) rfl fun x hm => ⟨rfl, rfl, by
      obtain ⟨k, hk⟩ := (hx x hm).kd
      simp [hk, dictB_kd hk], fun _ => by simp⟩
  rw [show (xs.filter fun x => !dictB mu x).map (fun x => x) = xs.filter fun x => !dictB mu x from List.map_id' _] at this
  exact this
theorem due_rows (hz : xs.length ≤ 60) : f__law_due [.lst (ss.map .ref), .str w, .int 3] mu = .ok (if xs.all (dictB mu) = true then .tup [.str [116, 111, 108, 100], .ref n] else .tup [.str [107, 105, 110, 100], .str w]) ⟨[], mu⟩ := by
  obtain ⟨pre, hp, hz'⟩ := VS_some e
  have c2 := due_c2 h w e hn hx hl (.lst (ss.map .ref)) (.str w) (.int 3) hz
  rw [hp] at c2
  have ei : (xs.filter fun x => !dictB mu x).isEmpty = xs.all (dictB mu) := by
    clear c2 hz hx hn
    induction xs with
    | nil => rfl
    | cons x xs ih =>
      rw [List.filter_cons, List.all_cons, ← ih]
      cases dictB mu x <;> simp
  cases ha : xs.all (dictB mu) with
  | true =>
    rw [ha] at ei
    simp [f__law_due, b__law_due, due_c1 h w _ hl, hp, hz', kd_cell hn, isKd, hn, show ¬ (60 : Int) < xs.length by omega, c2, ei]
  | false =>
    rw [ha] at ei
    simp [f__law_due, b__law_due, due_c1 h w _ hl, hp, hz', kd_cell hn, isKd, hn, show ¬ (60 : Int) < xs.length by omega, c2, ei]
end
/-! both answer alike -/
def OkT (mu : List Cell) (T : D) : Prop := ∃ p x k, T = .tup [.str p, x] ∧ kdOf mu x = some k ∧ (atomV x = true ∨ (∃ n, x = .ref n) ∨ x = .tup [])
theorem OkT.ne {mu : List Cell} {T : D} (h : OkT mu T) : dCmpW .NotEq mu T T = some (.bl false) := by
  obtain ⟨p, x, k, rfl, _, hx⟩ := h
  rcases hx with hx | hx | rfl
  · exact cW_ne_same mu fun y hy => by
      simp only [List.mem_cons, List.not_mem_nil, or_false] at hy
      rcases hy with rfl | rfl
      · exact .inl rfl
      · exact .inl hx
  · exact cW_ne_same mu fun y hy => by
      simp only [List.mem_cons, List.not_mem_nil, or_false] at hy
      rcases hy with rfl | rfl
      · exact .inl rfl
      · exact .inr hx
  · show dNeW mu _ _ = _
    rw [dNeW, if_neg (by simp [sameT, sameA]), if_neg (by intro z; cases z)]
    show dCmpL .NotEq mu _ _ = _
    rw [cL_ne_data mu rfl rfl, dCmp_ne]
    simp [dNe, canEq, isData, isDataAll, dep, depAll]
theorem Val.kd {mu : List Cell} {d : D} (h : Val mu d) : ∃ k, kdOf mu d = some k ∧ (atomV d = true ∨ (∃ n, d = .ref n) ∨ d = .tup []) := by
  rcases h with rfl | ⟨t, rfl, _⟩ | ⟨b, rfl⟩ | ⟨i, rfl⟩ | rfl | ⟨m, kvs, rfl, h2⟩ | ⟨m, ys, rfl, h2, h3, h4⟩
  · exact ⟨_, rfl, .inl rfl⟩
  · exact ⟨_, rfl, .inl rfl⟩
  · exact ⟨_, rfl, .inl rfl⟩
  · exact ⟨_, rfl, .inl rfl⟩
  · exact ⟨_, rfl, .inr (.inr rfl)⟩
  · exact ⟨_, kd_dct h2, .inr (.inl ⟨_, rfl⟩)⟩
  · exact ⟨_, kd_cell h2, .inr (.inl ⟨_, rfl⟩)⟩
section
variable {mu : List Cell} {ss ks : List Nat} {Ls : List (List (Key × D))} (h : DL mu ss Ls) (h2 : DL mu ks Ls) (hl : ss.length ≤ 6) (w : List Nat) (hv : ∀ d, vL Ls w = some d → Val mu d)
include h h2 hl hv
theorem both (k : Nat) (hk : k < 4) : ∃ T, OkT mu T ∧ f__law_found [.lst (ss.map .ref), .str w, .int k] mu = .ok T ⟨[], mu⟩ ∧ f__law_due [.lst (ks.map .ref), .str w, .int k] mu = .ok T ⟨[], mu⟩ := by
  have hl2 : ks.length ≤ 6 := by rw [h2.len, ← h.len]; exact hl
  have okW : ∀ p : List Nat, OkT mu (.tup [.str p, .str w]) := fun p => ⟨p, _, _, rfl, rfl, .inl rfl⟩
  cases e : vL Ls w with
  | none =>
    refine ⟨_, okW [118, 97, 108, 117, 101], ?_, due_none h2 w e _ hl2⟩
    match k, hk with
    | 0, _ => exact found_er (k := 0) rfl (value_none h e) (.inl ⟨rfl, rfl, rfl⟩)
    | 1, _ => exact found_er (k := 1) rfl (text_none h e) (.inl ⟨rfl, rfl, rfl⟩)
    | 2, _ => exact found_er (k := 2) rfl (truth_none h e) (.inl ⟨rfl, rfl, rfl⟩)
    | 3, _ => exact found_er (k := 3) rfl (rows_none h e) (.inl ⟨rfl, rfl, rfl⟩)
  | some d =>
    have vd := hv d e
    obtain ⟨kd, k1, k2⟩ := vd.kd
    have okD : OkT mu (.tup [.str [116, 111, 108, 100], d]) := ⟨_, _, kd, rfl, k1, k2⟩
    match k, hk with
    | 0, _ => exact ⟨_, okD, found_ok (k := 0) rfl (value_some h e), due_0 h2 w e hl2⟩
    | 1, _ =>
      by_cases hs : isKd kd .str = true
      · have ht : ∃ t, d = .str t ∧ Tx t ∧ t.length ≤ 1000 := by
          rcases vd with rfl | z | ⟨b, rfl⟩ | ⟨i, rfl⟩ | rfl | ⟨m, kvs, rfl, h5⟩ | ⟨m, ys, rfl, h5, _⟩
          · cases k1; cases hs
          · exact z
          · cases k1; cases hs
          · cases k1; cases hs
          · cases k1; cases hs
          · rw [kd_dct h5] at k1; cases k1; cases hs
          · rw [kd_cell h5] at k1; cases k1; cases hs
        obtain ⟨t, rfl, tx, tl⟩ := ht
        rcases tx_split tx with q | ⟨a, c, b, rfl, ha, hc⟩
        · exact ⟨_, okD, found_ok (k := 1) rfl (text_in h e q), due_1in h2 w e hl2 q tl⟩
        · exact ⟨_, ⟨[115, 105, 103, 110], .int a.length, .int, rfl, rfl, .inl rfl⟩, found_er (k := 1) rfl (text_at h e ha (out_no hc)) (.inr (.inr ⟨rfl, rfl, rfl⟩)), due_1at h2 w e hl2 ha hc tl⟩
      · exact ⟨_, okW [107, 105, 110, 100], found_er (k := 1) rfl (text_no h e ⟨kd, k1, by simpa using hs⟩) (.inr (.inl ⟨rfl, rfl, rfl⟩)), due_1no h2 w e hl2 ⟨kd, k1, by simpa using hs⟩⟩
    | 2, _ =>
      cases hs : isKd kd .bool with
      | true => exact ⟨_, okD, found_ok (k := 2) rfl (truth_yes h e ⟨kd, k1, hs⟩), due_2yes h2 w e hl2 ⟨kd, k1, hs⟩⟩
      | false => exact ⟨_, okW [107, 105, 110, 100], found_er (k := 2) rfl (truth_no h e ⟨kd, k1, hs⟩) (.inr (.inl ⟨rfl, rfl, rfl⟩)), due_2no h2 w e hl2 ⟨kd, k1, hs⟩⟩
    | 3, _ =>
      cases hs : isKd kd .list with
      | false => exact ⟨_, okW [107, 105, 110, 100], found_er (k := 3) rfl (rows_no h e ⟨kd, k1, hs⟩) (.inr (.inl ⟨rfl, rfl, rfl⟩)), due_3no h2 w e hl2 ⟨kd, k1, hs⟩⟩
      | true =>
        have ht : ∃ n xs, d = .ref n ∧ mu[n]? = some (.lst xs) ∧ ∀ x ∈ xs, Itm mu x := by
          rcases vd with rfl | ⟨t, rfl, _⟩ | ⟨b, rfl⟩ | ⟨i, rfl⟩ | rfl | ⟨m, kvs, rfl, h5⟩ | ⟨m, ys, rfl, h5, _, h6⟩
          · cases k1; cases hs
          · cases k1; cases hs
          · cases k1; cases hs
          · cases k1; cases hs
          · cases k1; cases hs
          · rw [kd_dct h5] at k1; cases k1; cases hs
          · exact ⟨m, ys, rfl, h5, h6⟩
        obtain ⟨n, xs, rfl, hn, hx⟩ := ht
        by_cases hz : 60 < xs.length
        · exact ⟨_, okW [107, 105, 110, 100], found_er (k := 3) rfl (rows_long h e hn hx hz) (.inr (.inl ⟨rfl, rfl, rfl⟩)), due_long h2 w e hn hx hl2 hz⟩
        · have dr := due_rows h2 w e hn hx hl2 (by omega)
          cases ha : xs.all (dictB mu) with
          | true =>
            rw [ha, if_pos rfl] at dr
            exact ⟨_, okD, found_ok (k := 3) rfl (rows_yes h e hn hx (by omega) ha), dr⟩
          | false =>
            rw [ha, if_neg (by decide)] at dr
            exact ⟨_, okW [107, 105, 110, 100], found_er (k := 3) rfl (rows_odd h e hn hx (by omega) ha) (.inr (.inl ⟨rfl, rfl, rfl⟩)), dr⟩
end
/-! the very one -/
theorem DL.setL {mu : List Cell} {n : Nat} {xs ys : List D} (hn : mu[n]? = some (.lst xs)) : ∀ {ss : List Nat} {Ls : List (List (Key × D))}, DL mu ss Ls → DL (mu.set n (.lst ys)) ss Ls
  | [], [], h => rfl
  | [], _ :: _, h => by simp [DL] at h
  | _ :: _, [], h => by simp [DL] at h
  | i :: ss, L :: Ls, h => by
    obtain ⟨h1, h2⟩ := DL.cons.mp h
    refine DL.cons.mpr ⟨?_, DL.setL hn h2⟩
    have : n ≠ i := fun e => by
      subst e
      rw [hn] at h1
      cases h1
    rw [List.getElem?_set_ne this]
    exact h1
theorem set_back {mu : List Cell} {n : Nat} {xs ys : List D} (hn : mu[n]? = some (.lst xs)) : (mu.set n (.lst ys)).set n (.lst xs) = mu := by
  rw [List.set_set]
  apply List.ext_getElem?
  intro i
  by_cases e : n = i
  · subst e
    rw [List.getElem?_set_self (List.getElem?_eq_some_iff.mp hn).1, hn]
  · rw [List.getElem?_set_ne e]
theorem cut_last (xs : List D) (y : D) : cutL (xs ++ [y]) (some (-1)) none = [y] := by
  unfold cutL
  have e : HT.sIx (xs ++ [y]).length 0 (some (-1)) = xs.length := by
    unfold HT.sIx
    simp
    omega
  rw [e, HT.sIx_none]
  simp
abbrev veryB : MS := mIte (mBool (mOp2 (dCmpW .In) (mVar 1) (mVar 2)))
  (sSeq (sSet 3 (mDGet (mVar 2) (mVar 1)))
  (sSeq (mIte (mBool (mIsi .list (mVar 3)))
  (sSeq (sDrop (mAppC (mCall f_value_of (mCons (mVar 0) (mCons (mVar 1) mNil))) (mPure (.str [109, 111, 114, 101]))))
  (sSeq (sSet 4 (mAndV (mOp2 (dCmpW .Eq) (mCutVC 3 (mPart (mNeg (mPure (.int 1)))) mNoPart) (mLst (mDisp (mCons (mPure (.str [109, 111, 114, 101])) mNil)))) (mOp2 (dCmpW .Eq) (mCutC (mCall f_value_of (mCons (mVar 0) (mCons (mVar 1) mNil))) (mPart (mNeg (mPure (.int 1)))) mNoPart) (mLst (mDisp (mCons (mPure (.str [109, 111, 114, 101])) mNil))))))
  (sSeq (sDrop (mSel 3 (mPop 3) (mPopC (mVar 3))))
  (sRet (mVar 4)))))
  sNext)
  (sRet (mPure (.bl true)))))
  sNext
section
variable {mu : List Cell} {ss : List Nat} {Ls : List (List (Key × D))} (h : DL mu ss Ls) (w : List Nat) (hv : ∀ d, vL Ls w = some d → Val mu d)
include h hv
theorem very_loop : ∀ (rs : List Nat) (Rs : List (List (Key × D))) (j2 : Slot), DL mu rs Rs → Rs.findSome? (fun L => valD L (ky w)) = vL Ls w →
    ∃ a sl, loopC [] (.nm 2) veryB (rs.map .ref) ⟨[.va (.lst (ss.map .ref)), .va (.str w), j2, .un, .un], mu⟩ = .ok a ⟨sl, mu⟩ ∧ (a = .nx ∨ a = .rt (.bl true))
  | [], [], j2, _, _ => ⟨.nx, _, loopC_nil (fun p hp => by cases hp), .inl rfl⟩
  | [], _ :: _, j2, h, _ => by simp [DL] at h
  | _ :: _, [], j2, h, _ => by simp [DL] at h
  | i :: rs, L :: Rs, j2, hd, hf => by
    obtain ⟨h1, h2⟩ := DL.cons.mp hd
    cases e : valD L (ky w) with
    | none =>
      obtain ⟨a, sl, e2, e3⟩ := very_loop rs Rs (.va (.ref i)) h2 (by rw [← hf, List.findSome?_cons, e])
      refine ⟨a, sl, ?_, e3⟩
      rw [List.map_cons, loopC_cons (fun p hp => by cases hp)]
      simp [cW_in h1, e, e2]
    | some d =>
      have ev : vL Ls w = some d := by rw [← hf, List.findSome?_cons, e]
      have vd := hv d ev
      obtain ⟨kd, k1, k2⟩ := vd.kd
      cases hs : isKd kd .list with
      | false =>
        refine ⟨.rt (.bl true), [.va (.lst (ss.map .ref)), .va (.str w), .va (.ref i), .va d, .un], ?_, .inr rfl⟩
        rw [List.map_cons, loopC_cons (fun p hp => by cases hp)]
        simp [cW_in h1, e, h1, k1, hs]
      | true =>
        have ht : ∃ n xs, d = .ref n ∧ mu[n]? = some (.lst xs) ∧ xs.length ≤ 1000 := by
          rcases vd with rfl | ⟨t, rfl, _⟩ | ⟨b, rfl⟩ | ⟨i, rfl⟩ | rfl | ⟨m, kvs, rfl, h5⟩ | ⟨m, ys, rfl, h5, h7, h6⟩
          · cases k1; cases hs
          · cases k1; cases hs
          · cases k1; cases hs
          · cases k1; cases hs
          · cases k1; cases hs
          · rw [kd_dct h5] at k1; cases k1; cases hs
          · exact ⟨m, ys, rfl, h5, h7⟩
        obtain ⟨n, xs, rfl, hn, hz⟩ := ht
        have v1 := value_some h ev
        have ha := appR_of (mu := mu) (sl := [.va (.lst (ss.map .ref)), .va (.str w), .va (.ref i), .va (.ref n), .un]) (y := .str [109, 111, 114, 101]) hn (by omega)
        have v2 := value_some (mu := mu.set n (.lst (xs ++ [.str [109, 111, 114, 101]]))) (h.setL hn) ev
        have hn2 : (mu.set n (.lst (xs ++ [.str [109, 111, 114, 101]])))[n]? = some (.lst (xs ++ [.str [109, 111, 114, 101]])) := by rw [List.getElem?_set_self (List.getElem?_eq_some_iff.mp hn).1]
        have hp := popR_of (mu := mu.set n (.lst (xs ++ [.str [109, 111, 114, 101]]))) (sl := [.va (.lst (ss.map .ref)), .va (.str w), .va (.ref i), .va (.ref n), .va (.bl true)]) hn2
        rw [set_back hn] at hp
        have hcl := cut_last xs (.str [109, 111, 114, 101])
        refine ⟨.rt (.bl true), [.va (.lst (ss.map .ref)), .va (.str w), .va (.ref i), .va (.ref n), .va (.bl true)], ?_, .inr rfl⟩
        rw [List.map_cons, loopC_cons (fun p hp => by cases hp)]
        simp [cW_in h1, e, h1, kd_cell hn, isKd, v1, hn, ha, hn2, v2, hcl, hp]
theorem very_ret : f__law_is_the_very [.lst (ss.map .ref), .str w] mu = .ok (.bl true) ⟨[], mu⟩ := by
  obtain ⟨a, sl, e, ha⟩ := very_loop h w hv ss.reverse Ls.reverse .un h.rev rfl
  have e1 : l1__law_is_the_very ⟨[.va (.lst (ss.map .ref)), .va (.str w), .un, .un, .un], mu⟩ = .ok a ⟨sl, mu⟩ := by
    rw [← e]
    unfold l1__law_is_the_very
    show (mItC (mRevS (mVar 0)) _).bind _ = _
    have : mItC (mRevS (mVar 0)) ⟨[.va (.lst (ss.map .ref)), .va (.str w), .un, .un, .un], mu⟩ = .ok (ss.reverse.map .ref, []) ⟨[.va (.lst (ss.map .ref)), .va (.str w), .un, .un, .un], mu⟩ := by
      simp [List.map_reverse]
    rw [this]
    rfl
  rcases ha with rfl | rfl
  · simp [f__law_is_the_very, b__law_is_the_very, e1]
  · simp [f__law_is_the_very, b__law_is_the_very, e1]
end
/-! all of it -/
theorem DL.ext {mu more : List Cell} : ∀ {ss : List Nat} {Ls : List (List (Key × D))}, DL mu ss Ls → DL (mu ++ more) ss Ls
  | [], [], h => rfl
  | [], _ :: _, h => by simp [DL] at h
  | _ :: _, [], h => by simp [DL] at h
  | i :: ss, L :: Ls, h => by
    obtain ⟨h1, h2⟩ := DL.cons.mp h
    exact DL.cons.mpr ⟨by rw [List.getElem?_append_left (List.getElem?_eq_some_iff.mp h1).1]; exact h1, h2.ext⟩
theorem DL.snoc {mu : List Cell} {i : Nat} {L : List (Key × D)} {ss : List Nat} {Ls : List (List (Key × D))} (h : DL mu ss Ls) (hi : mu[i]? = some (.dct L)) : DL mu (ss ++ [i]) (Ls ++ [L]) := by
  unfold DL at *
  rw [List.map_append, List.map_append, h]
  simp [hi]
theorem Scs.dl {mu : List Cell} : ∀ {ss : List Nat}, Scs mu ss → ∃ Ls, DL mu ss Ls ∧ ∀ L ∈ Ls, KV mu L
  | [], _ => ⟨[], rfl, fun L hL => by cases hL⟩
  | i :: ss, h => by
    obtain ⟨L, h1, _, h3⟩ := h i (by simp)
    obtain ⟨Ls, e, h4⟩ := Scs.dl (ss := ss) fun j hj => h j (by simp [hj])
    refine ⟨L :: Ls, DL.cons.mpr ⟨h1, e⟩, fun K hK => ?_⟩
    rcases List.mem_cons.mp hK with rfl | hK
    · exact h3
    · exact h4 K hK
theorem valD_nodup : ∀ {L : List (Key × D)}, (L.map (·.1)).Nodup → ∀ p ∈ L, valD L p.1 = some p.2
  | [], _, p, h => by cases h
  | q :: L, nd, p, h => by
    rw [List.map_cons, List.nodup_cons] at nd
    unfold valD
    rw [List.find?_cons]
    rcases List.mem_cons.mp h with rfl | h'
    · simp
    · have : q.1 ≠ p.1 := fun z => nd.1 (List.mem_map.mpr ⟨p, h', z.symm⟩)
      have ih := valD_nodup nd.2 p h'
      unfold valD at ih
      simp [this, ih]
theorem eqU_self {mu : List Cell} {d : D} (h : Val mu d) (n : Nat) : eqUB mu (n + 1) d d = true := by
  show ((canEq d && canEq d && eqv d d) || Pv.sameRef d d || eqRB mu (eqUB mu n) d d) = true
  rcases h with rfl | ⟨t, rfl, _⟩ | ⟨b, rfl⟩ | ⟨i, rfl⟩ | rfl | ⟨m, kvs, rfl, _⟩ | ⟨m, ys, rfl, _⟩
  · simp [canEq, isData, dep]
  · simp [canEq, isData, dep]
  · simp [canEq, isData, dep]
  · simp [canEq, isData, dep]
  · simp [canEq, isData, isDataAll, dep, depAll]
  · simp [Pv.sameRef]
  · simp [Pv.sameRef]
theorem eq_scopes {mu : List Cell} : ∀ {ss ks : List Nat} {Ls : List (List (Key × D))}, DL mu ss Ls → DL mu ks Ls → (∀ L ∈ Ls, KV mu L) → ((ss.map D.ref).zip (ks.map D.ref)).all (fun p => eqUB mu 4 p.1 p.2) = true
  | [], _, _, _, _, _ => rfl
  | _ :: _, [], _, _, _, _ => rfl
  | i :: ss, k :: ks, [], h, _, _ => by simp [DL] at h
  | i :: ss, k :: ks, L :: Ls, h, h2, hk => by
    obtain ⟨a1, a2⟩ := DL.cons.mp h
    obtain ⟨b1, b2⟩ := DL.cons.mp h2
    rw [List.map_cons, List.map_cons, List.zip_cons_cons, List.all_cons, eq_scopes a2 b2 (fun L hL => hk L (by simp [hL])), Bool.and_true]
    show ((canEq (.ref i) && canEq (.ref k) && eqv (.ref i) (.ref k)) || Pv.sameRef (.ref i) (.ref k) || eqRB mu (eqUB mu 3) (.ref i) (.ref k)) = true
    rw [Bool.or_eq_true]
    refine .inr ?_
    unfold eqRB
    rw [dctC_of a1, dctC_of b1, Bool.or_eq_true]
    refine .inr ?_
    simp only [decide_true, Bool.true_and]
    obtain ⟨nd, vv⟩ := hk L (by simp)
    rw [List.all_eq_true]
    intro p hp
    rw [valD_nodup nd p hp]
    exact eqU_self (vv p hp) 2
theorem eq_kept {mu : List Cell} {ss ks : List Nat} {Ls : List (List (Key × D))} (h : DL mu ss Ls) (h2 : DL mu ks Ls) (hk : ∀ L ∈ Ls, KV mu L) : dCmpW .Eq mu (.lst (ss.map D.ref)) (.lst (ks.map D.ref)) = some (.bl true) := by
  show dEqW mu _ _ = _
  rw [dEqW, if_pos]
  unfold eqRB lstC
  simp only [List.length_map, h.len, h2.len, decide_true, Bool.true_and]
  rw [eq_scopes h h2 hk]
  rfl
theorem vL_val {mu : List Cell} {Ls : List (List (Key × D))} (hk : ∀ L ∈ Ls, KV mu L) (w : List Nat) : ∀ d, vL Ls w = some d → Val mu d := fun d e => by
  obtain ⟨L, hL, hd⟩ := List.exists_of_findSome?_eq_some e
  unfold valD at hd
  obtain ⟨p, hp, rfl⟩ := Option.map_eq_some_iff.mp hd
  exact (hk L (List.mem_reverse.mp hL)).2 p (List.mem_of_find?_eq_some hp)
theorem kept_ret {mu : List Cell} {ss : List Nat} {Ls : List (List (Key × D))} (A N : D) (h : DL mu ss Ls) (hl : ss.length ≤ 6) : ∃ ks more, c1_law ⟨[.va A, .va N, .va (.lst (ss.map D.ref)), .un, .un, .un, .un, .un, .un], mu⟩ = .ok (ks.map D.ref) ⟨[.va A, .va N, .va (.lst (ss.map D.ref)), .un, .un, .un, .un, .un, .un], mu ++ more⟩ ∧ DL (mu ++ more) ks Ls := by
  obtain ⟨i1, i2, _⟩ := zip_vs [] h
  obtain ⟨ys, mu', e, more, ks, rfl, rfl, hd⟩ : ∃ ys mu', c1_law ⟨[.va A, .va N, .va (.lst (ss.map D.ref)), .un, .un, .un, .un, .un, .un], mu⟩ = .ok ys ⟨[.va A, .va N, .va (.lst (ss.map D.ref)), .un, .un, .un, .un, .un, .un], mu'⟩ ∧ ∃ (more : List Cell) (ks : List Nat), mu' = mu ++ more ∧ ys = ks.map D.ref ∧ DL mu' ks ((ss.zip Ls).map (fun p : Nat × List (Key × D) => p.2)) :=
    compC_inv1 (w := []) (fun p : Nat × List (Key × D) => D.ref p.1) (ss.zip Ls) (fun pre acc mu' => ∃ (more : List Cell) (ks : List Nat), mu' = mu ++ more ∧ acc = ks.map D.ref ∧ DL mu' ks (pre.map (fun p : Nat × List (Key × D) => p.2))) (mu := mu) (by rw [i1]; simp) (fun _ _ _ _ => (fun p hp => by cases hp)) (by
      rw [List.length_zip]
      show _ ≤ 16000000
      omega) (.inl rfl) (by
      rintro pre x post acc mu' hx _ ⟨more, ks, rfl, rfl, hd⟩
      have hm : mu[x.1]? = some (.dct x.2) := i2 x (by rw [hx]; simp)
      have hm2 : (mu ++ more)[x.1]? = some (.dct x.2) := by rw [List.getElem?_append_left (List.getElem?_eq_some_iff.mp hm).1]; exact hm
      refine ⟨.ref (mu ++ more).length, (mu ++ more) ++ [.dct x.2], ?_, more ++ [.dct x.2], ks ++ [(mu ++ more).length], by simp, by simp, ?_⟩
      · simp [dctC_of hm2]
      · rw [List.map_append]
        exact (hd.ext).snoc (by rw [List.getElem?_concat_length])) ⟨[], [], by simp, rfl, rfl⟩
  refine ⟨ks, more, e, ?_⟩
  have e2 : (ss.zip Ls).map (fun p : Nat × List (Key × D) => p.2) = Ls := by
    rw [List.map_snd_zip]
    exact Nat.le_of_eq h.len.symm
  rw [e2] at hd
  exact hd
section
variable {mu : List Cell} {ss ks : List Nat} {Ls : List (List (Key × D))} (h : DL mu ss Ls) (h2 : DL mu ks Ls) (hl : ss.length ≤ 6) (hk : ∀ L ∈ Ls, KV mu L) (A N : D)
include h h2 hl hk
theorem wants (w : List Nat) (s3 : Slot) (hs : s3 = Slot.ac (ks.map D.ref) ∨ s3 = Slot.va (.lst (ks.map D.ref))) (j5 j7 j8 : Slot) : ∃ st', l1_law ⟨[.va A, .va N, .va (.lst (ss.map D.ref)), s3, .va (.str w), j5, .un, j7, j8], mu⟩ = .ok .nx st' ∧
    ∃ s3 j5 j7 j8, (s3 = Slot.ac (ks.map D.ref) ∨ s3 = Slot.va (.lst (ks.map D.ref))) ∧ st' = ⟨[.va A, .va N, .va (.lst (ss.map D.ref)), s3, .va (.str w), j5, .un, j7, j8], mu⟩ :=
  forC_any (w := []) (fun _ st' => ∃ s3 j5 j7 j8, (s3 = Slot.ac (ks.map D.ref) ∨ s3 = Slot.va (.lst (ks.map D.ref))) ∧ st' = ⟨[.va A, .va N, .va (.lst (ss.map D.ref)), s3, .va (.str w), j5, .un, j7, j8], mu⟩) (fun k : Nat => D.int k) [0, 1, 2, 3, 0] (by simp <;> rfl) (fun _ _ _ => (fun p hp => by cases hp)) (by
    rintro pre x post st hx ⟨s3, j5, j7, j8, hs, rfl⟩
    have hx4 : x < 4 := by
      have : x ∈ [0, 1, 2, 3, 0] := by rw [hx]; simp
      revert this
      clear hx hs
      revert x
      decide
    obtain ⟨T, hT, e1, e2⟩ := both h h2 hl w (vL_val hk w) x hx4
    have hne := hT.ne
    obtain ⟨p, y, kd, rfl, k1, _⟩ := hT
    refine ⟨⟨[.va A, .va N, .va (.lst (ss.map D.ref)), .va (.lst (ks.map D.ref)), .va (.str w), .va (.int x), .un, .va (.tup [.str p, y]), .va (.tup [.str p, y])], mu⟩, ?_, _, _, _, _, .inr rfl, rfl⟩
    rcases hs with rfl | rfl
    · simp [e1, e2, hne, k1]
    · simp [e1, e2, hne, k1]) ⟨s3, j5, j7, j8, hs, rfl⟩
theorem names1 (ws : List (List Nat)) : ∃ st', l2_law ⟨[.va A, .va (.lst (ws.map D.str)), .va (.lst (ss.map D.ref)), .ac (ks.map D.ref), .un, .un, .un, .un, .un], mu⟩ = .ok .nx st' ∧
    ∃ s3 j4 j5 j7 j8, (s3 = Slot.ac (ks.map D.ref) ∨ s3 = Slot.va (.lst (ks.map D.ref))) ∧ st' = ⟨[.va A, .va (.lst (ws.map D.str)), .va (.lst (ss.map D.ref)), s3, j4, j5, .un, j7, j8], mu⟩ :=
  forC_any (w := []) (fun _ st' => ∃ s3 j4 j5 j7 j8, (s3 = Slot.ac (ks.map D.ref) ∨ s3 = Slot.va (.lst (ks.map D.ref))) ∧ st' = ⟨[.va A, .va (.lst (ws.map D.str)), .va (.lst (ss.map D.ref)), s3, j4, j5, .un, j7, j8], mu⟩) D.str ws (by simp <;> rfl) (fun _ _ _ => (fun p hp => by cases hp)) (by
    rintro pre x post st hx ⟨s3, j4, j5, j7, j8, hs, rfl⟩
    obtain ⟨st', e, s3', j5', j7', j8', hs', rfl⟩ := wants h h2 hl hk A (.lst (ws.map D.str)) x s3 hs j5 j7 j8
    exact ⟨_, e, _, _, _, _, _, hs', rfl⟩) ⟨Slot.ac (ks.map D.ref), Slot.un, Slot.un, Slot.un, Slot.un, .inl rfl, rfl⟩
theorem names2 (ws : List (List Nat)) (s3 : Slot) (hs : s3 = Slot.ac (ks.map D.ref) ∨ s3 = Slot.va (.lst (ks.map D.ref))) (j4 j5 j7 j8 : Slot) : ∃ st', l3_law ⟨[.va A, .va (.lst (ws.map D.str)), .va (.lst (ss.map D.ref)), s3, j4, j5, .un, j7, j8], mu⟩ = .ok .nx st' ∧
    ∃ j4, st' = ⟨[.va A, .va (.lst (ws.map D.str)), .va (.lst (ss.map D.ref)), s3, j4, j5, .un, j7, j8], mu⟩ :=
  forC_any (w := []) (fun _ st' => ∃ j4, st' = ⟨[.va A, .va (.lst (ws.map D.str)), .va (.lst (ss.map D.ref)), s3, j4, j5, .un, j7, j8], mu⟩) D.str ws (by simp <;> rfl) (fun _ _ _ => (fun p hp => by cases hp)) (by
    rintro pre x post st hx ⟨j4, rfl⟩
    have e := very_ret h x (vL_val hk x)
    refine ⟨⟨[.va A, .va (.lst (ws.map D.str)), .va (.lst (ss.map D.ref)), s3, .va (.str x), j5, .un, j7, j8], mu⟩, ?_, _, rfl⟩
    simp [e]) ⟨j4, rfl⟩
end
theorem law_true (ns : List Int) (h : ns.length ≤ 63) : ∃ s, f_law [.lk (ns.map .int)] [] = .ok (.bl true) s := by
  obtain ⟨q, e1⟩ := cell_ret ns (k := 0) (by decide)
  obtain ⟨ws, hw, e2⟩ := names_ret q []
  obtain ⟨ss, mu, e3, hs, hl⟩ := scopes_ret ns ws hw []
  obtain ⟨Ls, d1, hk⟩ := hs.dl
  obtain ⟨ks, more, e4, d2⟩ := kept_ret (.lk (ns.map .int)) (.lst (ws.map D.str)) d1 hl
  have d3 := d1.ext (more := more)
  have hk2 : ∀ L ∈ Ls, KV (mu ++ more) L := fun L hL => (hk L hL).ext
  obtain ⟨_, e5, s3, j4, j5, j7, j8, hs3, rfl⟩ := names1 d3 d2 hl hk2 (.lk (ns.map .int)) ws
  obtain ⟨_, e6, j4', rfl⟩ := names2 d3 d2 hl hk2 (.lk (ns.map .int)) ws s3 hs3 j4 j5 j7 j8
  have e7 := eq_kept d3 d2 hk2
  rcases hs3 with rfl | rfl
  · exact ⟨_, by simp [f_law, b_law, e1, e2, e3, e4, e5, e6, e7]; rfl⟩
  · exact ⟨_, by simp [f_law, b_law, e1, e2, e3, e4, e5, e6, e7]; rfl⟩
end
end Lw
namespace Lw
open PySem PySem.Spec L2 Pv
theorem xok {P : Program} {w : World} {K : PySem.W.Frag} {mg : Str → Option Value} {h : Heap} (X : K.In h) (G : h.Ns mainGlobals mg)
    (e_NoValue : ∀ base : Heap, ∃ (C fI : Addr) (fd : FuncData) (N ps : List Str), mg "NoValue" = some (.ref C) ∧ OexC K C ∧ PySem.W.findIn K (.ref C) "__init__" = some (some (.ref fI)) ∧ PySem.W.typeIn K (.ref fI) = some (.type "function") ∧ FnOk P w K mg base (L2N.CX P w) 1 fI fd ps (spI K N ps.length ([("name", 1)] : List (Str × Nat))) ∧ Binds K fd ps [] ∧ ps.length = 1 + 1 ∧ ∀ p ∈ ([("name", 1)] : List (Str × Nat)), PySem.W.findIn K (.ref C) p.1 = some none)
    (e_NoSign : ∀ base : Heap, ∃ (C fI : Addr) (fd : FuncData) (N ps : List Str), mg "NoSign" = some (.ref C) ∧ OexC K C ∧ PySem.W.findIn K (.ref C) "__init__" = some (some (.ref fI)) ∧ PySem.W.typeIn K (.ref fI) = some (.type "function") ∧ FnOk P w K mg base (L2N.CX P w) 1 fI fd ps (spI K N ps.length ([("at", 1)] : List (Str × Nat))) ∧ Binds K fd ps [] ∧ ps.length = 1 + 1 ∧ ∀ p ∈ ([("at", 1)] : List (Str × Nat)), PySem.W.findIn K (.ref C) p.1 = some none)
    (e_NoKind : ∀ base : Heap, ∃ (C fI : Addr) (fd : FuncData) (N ps : List Str), mg "NoKind" = some (.ref C) ∧ OexC K C ∧ PySem.W.findIn K (.ref C) "__init__" = some (some (.ref fI)) ∧ PySem.W.typeIn K (.ref fI) = some (.type "function") ∧ FnOk P w K mg base (L2N.CX P w) 1 fI fd ps (spI K N ps.length ([("name", 1)] : List (Str × Nat))) ∧ Binds K fd ps [] ∧ ps.length = 1 + 1 ∧ ∀ p ∈ ([("name", 1)] : List (Str × Nat)), PySem.W.findIn K (.ref C) p.1 = some none)
    (q : isnB K iss = true)
    (v : isvB K isv = true)
    (s : subsB K subs = true) (f : fldB K xtab xi.flds = true) : ∀ base : Heap, XOk P w K mg base xi := fun base => {
  ex := fun x fs np hm => by
    simp only [xi, xiA, xex, List.mem_cons, Prod.mk.injEq, List.not_mem_nil, or_false] at hm
    rcases hm with ⟨rfl, rfl, rfl⟩ | ⟨rfl, rfl, rfl⟩ | ⟨rfl, rfl, rfl⟩
    · exact e_NoValue base
    · exact e_NoSign base
    · exact e_NoKind base
  et := fun x h => by cases h
  sub := subs_ok X G s
  fl := fld_ok X G f
  isn := isn_ok X G q
  isv := fun _ => isv_ok X G v
  hot := fun y h e => by cases e }
set_option maxRecDepth 100000 in
set_option maxHeartbeats 0 in
theorem all {l : PySem.W.OpenLaw} {w : World} {K : PySem.W.Frag} {mg : Str → Option Value} {h : Heap} {fa : Addr} (X : K.In h) (G : h.Ns mainGlobals mg) (hfa : mg "law" = some (.ref fa))
    (d__law_mixed : DefIn K mg s__law_mixed "_law_mixed" ["_law_cell", "_law_k"])
    (d__law_names : DefIn K mg s__law_names "_law_names" ["_law_cell"])
    (d__law_cell_at : DefIn K mg s__law_cell_at "_law_cell_at" ["_law_script", "_law_k"])
    (d__law_rest : DefIn K mg s__law_rest "_law_rest" ["_law_cell"])
    (d__law_value : DefIn K mg s__law_value "_law_value" ["_law_number"])
    (d__law_scopes : DefIn K mg s__law_scopes "_law_scopes" ["_law_script", "_law_names_here"])
    (d_value_of : DefIn K mg s_value_of "value_of" ["scopes", "name"])
    (d_first_foreign : DefIn K mg s_first_foreign "first_foreign" ["text"])
    (d_need_text : DefIn K mg s_need_text "need_text" ["thing"])
    (d_text_of : DefIn K mg s_text_of "text_of" ["scopes", "name"])
    (d_truth_of : DefIn K mg s_truth_of "truth_of" ["scopes", "name"])
    (d_rows_of : DefIn K mg s_rows_of "rows_of" ["scopes", "name"])
    (d__law_found : DefIn K mg s__law_found "_law_found" ["_law_scopes_here", "_law_name", "_law_want"])
    (d__law_foreign : DefIn K mg s__law_foreign "_law_foreign" ["_law_text"])
    (d__law_due : DefIn K mg s__law_due "_law_due" ["_law_scopes_here", "_law_name", "_law_want"])
    (d__law_is_the_very : DefIn K mg s__law_is_the_very "_law_is_the_very" ["_law_scopes_here", "_law_name"])
    (d_law : DefIn K mg s_law "law" ["_law_script"])
    (zg : glAll K gls = true) (zb : bnAll K bn = true) (zx : ∀ base : Heap, XOk l.prog w K mg base xi)
    : ∃ fd : FuncData, (∀ (s : Shared) (u : Value), BindsTo s fd ⟨[u], []⟩ [("_law_script", u)]) ∧ ∀ base : Heap, K.In base → base.Ns mainGlobals mg → FnOk l.prog w K mg base (L2N.CX l.prog w) 19 fa fd ["_law_script"] (spLaw K) := by
  have hg : GlOk K mg gl := gl_ok X G zg
  have hb : BnOk mg bn := bn_ok X G zb
  obtain ⟨f0, fd0, F0, m0, B0⟩ := d_law.ex
  rw [hfa] at m0
  cases m0
  obtain ⟨oc, od, kV, doc, pm, an, cdv, ct, osl, rfl, lk, hcd⟩ := F0.ex
  refine ⟨_, fun s u => .of_eq (B_law kV doc pm an cdv ct [u] rfl), fun base _ _ => ?_⟩
  have t0 : Pv.TOk l.prog w K mg base 2 T0 := Pv.TOk.zero
  have t1 : Pv.TOk l.prog w K mg base 3 T1 := t0.add hg hb d__law_mixed S__law_mixed (zx base) (by decide) k__law_mixed
  have t2 : Pv.TOk l.prog w K mg base 4 T2 := t1.add hg hb d__law_names S__law_names (zx base) (by decide) k__law_names
  have t3 : Pv.TOk l.prog w K mg base 5 T3 := t2.add hg hb d__law_cell_at S__law_cell_at (zx base) (by decide) k__law_cell_at
  have t4 : Pv.TOk l.prog w K mg base 6 T4 := t3.add hg hb d__law_rest S__law_rest (zx base) (by decide) k__law_rest
  have t5 : Pv.TOk l.prog w K mg base 7 T5 := t4.add hg hb d__law_value S__law_value (zx base) (by decide) k__law_value
  have t6 : Pv.TOk l.prog w K mg base 8 T6 := t5.add hg hb d__law_scopes S__law_scopes (zx base) (by decide) k__law_scopes
  have t7 : Pv.TOk l.prog w K mg base 9 T7 := t6.add hg hb d_value_of S_value_of (zx base) (by decide) k_value_of
  have t8 : Pv.TOk l.prog w K mg base 10 T8 := t7.add hg hb d_first_foreign S_first_foreign (zx base) (by decide) k_first_foreign
  have t9 : Pv.TOk l.prog w K mg base 11 T9 := t8.add hg hb d_need_text S_need_text (zx base) (by decide) k_need_text
  have t10 : Pv.TOk l.prog w K mg base 12 T10 := t9.add hg hb d_text_of S_text_of (zx base) (by decide) k_text_of
  have t11 : Pv.TOk l.prog w K mg base 13 T11 := t10.add hg hb d_truth_of S_truth_of (zx base) (by decide) k_truth_of
  have t12 : Pv.TOk l.prog w K mg base 14 T12 := t11.add hg hb d_rows_of S_rows_of (zx base) (by decide) k_rows_of
  have t13 : Pv.TOk l.prog w K mg base 15 T13 := t12.add hg hb d__law_found S__law_found (zx base) (by decide) k__law_found
  have t14 : Pv.TOk l.prog w K mg base 16 T14 := t13.add hg hb d__law_foreign S__law_foreign (zx base) (by decide) k__law_foreign
  have t15 : Pv.TOk l.prog w K mg base 17 T15 := t14.add hg hb d__law_due S__law_due (zx base) (by decide) k__law_due
  have t16 : Pv.TOk l.prog w K mg base 18 T16 := t15.add hg hb d__law_is_the_very S__law_is_the_very (zx base) (by decide) k__law_is_the_very
  exact law_fn (fn_ok F0 S_law rfl rfl rfl (zx base) (by decide) k_law t16 hg hb) law_true
end Lw
open PySem PySem.W PyProof.Rows
set_option maxRecDepth 100000 in
set_option maxHeartbeats 0 in
theorem PySem.Challenge.cw_sealpress_k81_scopes_holds : PySem.Challenge.rw_sealpress_k81_scopes.Holds := by
  w_on; o_law; k_head; (case hw => w_witness2)
  k_fill
  refine Pv.walk (l := PySem.Challenge.rw_sealpress_k81_scopes) (k := 19) (x := "_law_script") (by decide) rfl rfl (fun w h Y => PySem.W.kIn_of Y) ?F
  case F =>
    intro w mg fa h KX G hmg
    refine' Lw.all KX G hmg (Pv.defIn Lw.B__law_mixed KX G ?pva0 ?pvl0 ?pvc0 ?pvk0) (Pv.defIn Lw.B__law_names KX G ?pva1 ?pvl1 ?pvc1 ?pvk1) (Pv.defIn Lw.B__law_cell_at KX G ?pva2 ?pvl2 ?pvc2 ?pvk2) (Pv.defIn Lw.B__law_rest KX G ?pva3 ?pvl3 ?pvc3 ?pvk3) (Pv.defIn Lw.B__law_value KX G ?pva4 ?pvl4 ?pvc4 ?pvk4) (Pv.defIn Lw.B__law_scopes KX G ?pva5 ?pvl5 ?pvc5 ?pvk5) (Pv.defIn Lw.B_value_of KX G ?pva6 ?pvl6 ?pvc6 ?pvk6) (Pv.defIn Lw.B_first_foreign KX G ?pva7 ?pvl7 ?pvc7 ?pvk7) (Pv.defIn Lw.B_need_text KX G ?pva8 ?pvl8 ?pvc8 ?pvk8) (Pv.defIn Lw.B_text_of KX G ?pva9 ?pvl9 ?pvc9 ?pvk9) (Pv.defIn Lw.B_truth_of KX G ?pva10 ?pvl10 ?pvc10 ?pvk10) (Pv.defIn Lw.B_rows_of KX G ?pva11 ?pvl11 ?pvc11 ?pvk11) (Pv.defIn Lw.B__law_found KX G ?pva12 ?pvl12 ?pvc12 ?pvk12) (Pv.defIn Lw.B__law_foreign KX G ?pva13 ?pvl13 ?pvc13 ?pvk13) (Pv.defIn Lw.B__law_due KX G ?pva14 ?pvl14 ?pvc14 ?pvk14) (Pv.defIn Lw.B__law_is_the_very KX G ?pva15 ?pvl15 ?pvc15 ?pvk15) (Pv.defIn Lw.B_law KX G ?pva16 ?pvl16 ?pvc16 ?pvk16) ?pvzg ?pvzb (Lw.xok (w := w) KX G (Pv.exI_of KX G ?pvxn0 ?pvxf0 ?pvxl0 ?pvxc0 ?pvxk0 ?pvxe0 ?pvxb Lw.Bx_NoValue Lw.Sx_NoValue Lw.ix_NoValue rfl) (Pv.exI_of KX G ?pvxn1 ?pvxf1 ?pvxl1 ?pvxc1 ?pvxk1 ?pvxe1 ?pvxb Lw.Bx_NoSign Lw.Sx_NoSign Lw.ix_NoSign rfl) (Pv.exI_of KX G ?pvxn2 ?pvxf2 ?pvxl2 ?pvxc2 ?pvxk2 ?pvxe2 ?pvxb Lw.Bx_NoKind Lw.Sx_NoKind Lw.ix_NoKind rfl) ?pvxq ?pvxv ?pvxs ?pvxf)
    (case pva0 => k_is); (case pvl0 => k_is); (case pvc0 => k_is); (case pvk0 => k_is); (case pva1 => k_is); (case pvl1 => k_is); (case pvc1 => k_is); (case pvk1 => k_is)
    (case pva2 => k_is); (case pvl2 => k_is); (case pvc2 => k_is); (case pvk2 => k_is); (case pva3 => k_is); (case pvl3 => k_is); (case pvc3 => k_is); (case pvk3 => k_is)
    (case pva4 => k_is); (case pvl4 => k_is); (case pvc4 => k_is); (case pvk4 => k_is); (case pva5 => k_is); (case pvl5 => k_is); (case pvc5 => k_is); (case pvk5 => k_is)
    (case pva6 => k_is); (case pvl6 => k_is); (case pvc6 => k_is); (case pvk6 => k_is); (case pva7 => k_is); (case pvl7 => k_is); (case pvc7 => k_is); (case pvk7 => k_is)
    (case pva8 => k_is); (case pvl8 => k_is); (case pvc8 => k_is); (case pvk8 => k_is); (case pva9 => k_is); (case pvl9 => k_is); (case pvc9 => k_is); (case pvk9 => k_is)
    (case pva10 => k_is); (case pvl10 => k_is); (case pvc10 => k_is); (case pvk10 => k_is); (case pva11 => k_is); (case pvl11 => k_is); (case pvc11 => k_is); (case pvk11 => k_is)
    (case pva12 => k_is); (case pvl12 => k_is); (case pvc12 => k_is); (case pvk12 => k_is); (case pva13 => k_is); (case pvl13 => k_is); (case pvc13 => k_is); (case pvk13 => k_is)
    (case pva14 => k_is); (case pvl14 => k_is); (case pvc14 => k_is); (case pvk14 => k_is); (case pva15 => k_is); (case pvl15 => k_is); (case pvc15 => k_is); (case pvk15 => k_is)
    (case pva16 => k_is); (case pvl16 => k_is); (case pvc16 => k_is); (case pvk16 => k_is); (case pvzg => kernel_rfl); (case pvzb => kernel_rfl); (case pvxq => kernel_rfl); (case pvxv => kernel_rfl)
    (case pvxn0 => k_is); (case pvxf0 => k_is); (case pvxl0 => k_is); (case pvxc0 => k_is); (case pvxk0 => k_is); (case pvxe0 => kernel_rfl); (case pvxn1 => k_is); (case pvxf1 => k_is)
    (case pvxl1 => k_is); (case pvxc1 => k_is); (case pvxk1 => k_is); (case pvxe1 => kernel_rfl); (case pvxn2 => k_is); (case pvxf2 => k_is); (case pvxl2 => k_is); (case pvxc2 => k_is)
    (case pvxk2 => k_is); (case pvxe2 => kernel_rfl); (case pvxb => kernel_rfl); (case pvxs => kernel_rfl); (case pvxf => kernel_rfl)
