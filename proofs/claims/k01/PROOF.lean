import PyProof.Rows.All
import Wide.All
import OpenK.AllK
import Wide.FinOn
import HandS.ForMost
import HandS.ForExc
import HandS.Zip
import HandS.Wide
import HandS.TupMul
import HandS.TupAny
import HandS.TupLe
import HandS.IsInst
import HandS.Style
import HandS.Conv
import HandS.TupLen
import KE.DataEq
import KE.KxIndex
import KE.KSortTupG
import HandS.Sort
import HandS.SortRule
import KE.SortData
import HandS.More
import PySem.Challenge.RW_deltamill_k01_whole_corners_add_up
set_option Elab.async false
set_option linter.all false
set_option maxRecDepth 100000
set_option maxHeartbeats 4000000
/-! DL0: values by their contents (D), what stands for what (Den), slots (Sl), states (Rel), steps (Tr). -/
namespace DL
open PySem PySem.Spec PyProof.Rows L2

def Ex (H H' : Hp) : Prop := ∀ a o, H a = some o → H' a = some o
theorem Ex.refl (H : Hp) : Ex H H := fun _ _ h => h
theorem Ex.trans {H H1 H2 : Hp} (a : Ex H H1) (b : Ex H1 H2) : Ex H H2 := fun x o h => b x o (a x o h)
theorem Ex.new {H : Hp} {p : Addr} {o : HO} (h : H p = none) : Ex H (upd H p o) := fun a u e => by
  rw [upd_ne (ne_of_none e h)]; exact e
theorem Ex.free {H H' : Hp} (e : Ex H H') {p : Addr} (h : H' p = none) : H p = none := by
  cases q : H p with
  | none => rfl
  | some o => rw [e p o q] at h; cases h
theorem Ex.rd {H H' : Hp} {a : Addr} {u : HO} (e : Ex H H') (h : Rd H a u) : Rd H' a u := by
  rcases h with h | ⟨o, h⟩
  · exact .inl (e a _ h)
  · exact .inr ⟨o, e a _ h⟩
theorem Ex.l {K : PySem.W.Frag} {H H' : Hp} {a : Addr} {xs : List V} (e : Ex H H') (h : SqL K H a xs) : SqL K H' a xs := by
  rcases h with h | h
  · exact .inl (e.rd h)
  · exact .inr h
theorem Ex.t {K : PySem.W.Frag} {H H' : Hp} {a : Addr} {xs : List V} (e : Ex H H') (h : SqT K H a xs) : SqT K H' a xs := by
  rcases h with h | h
  · exact .inl (e.rd h)
  · exact .inr h
theorem Ex.upd2 {S H : Hp} {p : Addr} {o : HO} (e : Ex S H) (h : H p = none) : Ex (upd S p o) (upd H p o) := fun a u q => by
  by_cases ha : a = p
  · subst ha; rw [upd_same] at q ⊢; exact q
  · rw [upd_ne ha] at q ⊢; exact e a u q

/-- a value by its contents -/
inductive D where
  | non | bl (b : Bool) | int (i : Int) | str (s : Str) | ty (n : String) | ref (a : Addr)
  | tup (xs : List D) | lst (xs : List D)
  /-- a list that is only read (the script) -/
  | rol (xs : List D)
  | dT (ks : List (List Key)) (vs : List D)
  | dK (ks : List Key) (vs : List D)
  | obj (C : Addr) (ns : List Str) (vs : List D)

mutual
inductive Den (K : PySem.W.Frag) (H : Hp) : V → D → Prop
  | non : Den K H .non .non
  | bl (b : Bool) : Den K H (.bl b) (.bl b)
  | int (i : Int) : Den K H (.int i) (.int i)
  | str (x : Str) : Den K H (.str x) (.str x)
  | ty (n : String) : Den K H (.ty n) (.ty n)
  | ref (a : Addr) : Den K H (.ref a) (.ref a)
  | tup {a : Addr} {xs : List V} {ds : List D} : H a = some (.tup xs) → Dens K H xs ds → Den K H (.ref a) (.tup ds)
  | lst {a : Addr} {xs : List V} {ds : List D} : H a = some (.lst xs) → Dens K H xs ds → Den K H (.ref a) (.lst ds)
  | rol {a : Addr} {xs : List V} {ds : List D} : SqL K H a xs → Dens K H xs ds → Den K H (.ref a) (.rol ds)
  | dT {a : Addr} {kvs : List (List Key × V)} {ks : List (List Key)} {ds : List D} : Rd H a (.dT kvs) → ks = kvs.map (·.1) → Dens K H (kvs.map (·.2)) ds → Den K H (.ref a) (.dT ks ds)
  | dK {a : Addr} {kvs : List (Key × V)} {ks : List Key} {ds : List D} : Rd H a (.dK kvs) → ks = kvs.map (·.1) → Dens K H (kvs.map (·.2)) ds → Den K H (.ref a) (.dK ks ds)
  | obj {a C dx : Addr} {fs : List (Str × V)} {ns : List Str} {ds : List D} : H a = some (.ins C dx fs) → ns = fs.map (·.1) → Dens K H (fs.map (·.2)) ds → Den K H (.ref a) (.obj C ns ds)
inductive Dens (K : PySem.W.Frag) (H : Hp) : List V → List D → Prop
  | nil : Dens K H [] []
  | cons {v : V} {vs : List V} {d : D} {ds : List D} : Den K H v d → Dens K H vs ds → Dens K H (v :: vs) (d :: ds)
end

section
variable {K : PySem.W.Frag} {H H' : Hp}
mutual
theorem Den.mono (e : Ex H H') : ∀ {v : V} {d : D}, Den K H v d → Den K H' v d
  | _, _, .non => .non
  | _, _, .bl b => .bl b
  | _, _, .int i => .int i
  | _, _, .str x => .str x
  | _, _, .ty n => .ty n
  | _, _, .ref a => .ref a
  | _, _, .tup h t => .tup (e _ _ h) (Dens.mono e t)
  | _, _, .lst h t => .lst (e _ _ h) (Dens.mono e t)
  | _, _, .rol h t => .rol (e.l h) (Dens.mono e t)
  | _, _, .dT h q t => .dT (e.rd h) q (Dens.mono e t)
  | _, _, .dK h q t => .dK (e.rd h) q (Dens.mono e t)
  | _, _, .obj h q t => .obj (e _ _ h) q (Dens.mono e t)
theorem Dens.mono (e : Ex H H') : ∀ {vs : List V} {ds : List D}, Dens K H vs ds → Dens K H' vs ds
  | _, _, .nil => .nil
  | _, _, .cons h t => .cons (Den.mono e h) (Dens.mono e t)
end
theorem Dens.length : ∀ {vs : List V} {ds : List D}, Dens K H vs ds → vs.length = ds.length
  | _, _, .nil => rfl
  | _, _, .cons _ t => by rw [List.length_cons, List.length_cons, Dens.length t]
theorem Dens.get : ∀ {vs : List V} {ds : List D} {i : Nat} {d : D}, Dens K H vs ds → ds[i]? = some d → ∃ v, vs[i]? = some v ∧ Den K H v d
  | _, _, _, _, .nil, e => by simp at e
  | _, _, 0, _, .cons h _, e => by simp at e; subst e; exact ⟨_, rfl, h⟩
  | _, _, i + 1, d, .cons _ t, e => by
    obtain ⟨v, h1, h2⟩ := Dens.get (i := i) (d := d) t (by simpa using e)
    exact ⟨v, by simpa using h1, h2⟩
theorem Dens.getV : ∀ {vs : List V} {ds : List D} {i : Nat} {v : V}, Dens K H vs ds → vs[i]? = some v → ∃ d, ds[i]? = some d ∧ Den K H v d
  | _, _, _, _, .nil, e => by simp at e
  | _, _, 0, _, .cons h _, e => by simp at e; subst e; exact ⟨_, rfl, h⟩
  | _, _, i + 1, v, .cons _ t, e => by
    obtain ⟨d, h1, h2⟩ := Dens.getV (i := i) (v := v) t (by simpa using e)
    exact ⟨d, by simpa using h1, h2⟩
theorem Dens.append : ∀ {vs ws : List V} {ds es : List D}, Dens K H vs ds → Dens K H ws es → Dens K H (vs ++ ws) (ds ++ es)
  | _, _, _, _, .nil, s => s
  | _, _, _, _, .cons h t, s => .cons h (Dens.append t s)
theorem Dens.take : ∀ {vs : List V} {ds : List D} (n : Nat), Dens K H vs ds → Dens K H (vs.take n) (ds.take n)
  | _, _, 0, _ => .nil
  | _, _, _ + 1, .nil => .nil
  | _, _, n + 1, .cons h t => .cons h (Dens.take n t)
theorem Dens.drop : ∀ {vs : List V} {ds : List D} (n : Nat), Dens K H vs ds → Dens K H (vs.drop n) (ds.drop n)
  | _, _, 0, r => r
  | _, _, _ + 1, .nil => .nil
  | _, _, n + 1, .cons _ t => Dens.drop n t
theorem Dens.set {v : V} {d : D} (r : Den K H v d) : ∀ {vs : List V} {ds : List D} (i : Nat), Dens K H vs ds → Dens K H (vs.set i v) (ds.set i d)
  | _, _, _, .nil => .nil
  | _, _, 0, .cons _ t => .cons r t
  | _, _, i + 1, .cons q t => .cons q (Dens.set r i t)
theorem Dens.one {v : V} {d : D} (h : Den K H v d) : Dens K H [v] [d] := .cons h .nil
theorem Dens.ints : ∀ ns : List Int, Dens K H (ns.map V.int) (ns.map D.int)
  | [] => .nil
  | n :: ns => .cons (.int n) (Dens.ints ns)
theorem Dens.ints_inv : ∀ {ns : List Int} {vs : List V}, Dens K H vs (ns.map D.int) → vs = ns.map V.int
  | [], _, .nil => rfl
  | n :: ns, _, .cons h t => by cases h; rw [Dens.ints_inv t]; rfl
theorem Dens.snoc {vs : List V} {ds : List D} {v : V} {d : D} (t : Dens K H vs ds) (h : Den K H v d) : Dens K H (vs ++ [v]) (ds ++ [d]) := t.append (.one h)
end

/-! ### slots -/
inductive Sl where
  | non | val (d : D) | own (d : D)

/-- an object by its contents -/
def HOD (K : PySem.W.Frag) (S : Hp) : HO → D → Prop
  | .lst vs, .lst ds => Dens K S vs ds
  | .dT kvs, .dT ks ds => ks = kvs.map (·.1) ∧ Dens K S (kvs.map (·.2)) ds
  | .dK kvs, .dK ks ds => ks = kvs.map (·.1) ∧ Dens K S (kvs.map (·.2)) ds
  | .ins C _ fs, .obj C' ns ds => C = C' ∧ ns = fs.map (·.1) ∧ Dens K S (fs.map (·.2)) ds
  | _, _ => False
theorem HOD.mono {K : PySem.W.Frag} {S S' : Hp} (e : Ex S S') {o : HO} {d : D} (h : HOD K S o d) : HOD K S' o d := by
  unfold HOD at h ⊢
  split at h
  · exact h.mono e
  · exact ⟨h.1, h.2.mono e⟩
  · exact ⟨h.1, h.2.mono e⟩
  · exact ⟨h.1, h.2.1, h.2.2.mono e⟩
  · exact h.elim
theorem HOD.den {K : PySem.W.Frag} {S : Hp} {o : HO} {d : D} {p : Addr} (h : HOD K S o d) (hp : S p = some o) : Den K S (.ref p) d := by
  unfold HOD at h
  split at h
  · exact .lst hp h
  · exact .dT (.inl hp) h.1 h.2
  · exact .dK (.inl hp) h.1 h.2
  · obtain ⟨e, n, q⟩ := h
    subst e
    exact .obj hp n q
  · exact h.elim

theorem HOD.notup {K : PySem.W.Frag} {S : Hp} {xs : List V} {d : D} (h : HOD K S (.tup xs) d) : False := by
  cases d <;> exact h

structure Rel (K : PySem.W.Frag) (fi : List Nat) (fa : Nat → Addr) (σ : L2.St) (H S : Hp) (ρ : List Sl) : Prop where
  ex : Ex S H
  len : ρ.length = σ.length
  val : ∀ (i : Nat) (d : D), ρ[i]? = some (.val d) → ∃ v, σ[i]? = some (some v) ∧ Den K S v d
  own : ∀ (i : Nat) (d : D), ρ[i]? = some (.own d) → ∃ p o, σ[i]? = some (some (.ref p)) ∧ S p = none ∧ H p = some o ∧ HOD K S o d
  dis : ∀ (i j : Nat) (d e : D) (p : Addr), ρ[i]? = some (.own d) → ρ[j]? = some (.own e) → σ[i]? = some (some (.ref p)) → σ[j]? = some (some (.ref p)) → i = j
  fix : ∀ i ∈ fi, σ[i]? = some (some (.ref (fa i)))

def Owned (σ : L2.St) (ρ : List Sl) (a : Addr) : Prop := ∃ (i : Nat) (d : D), ρ[i]? = some (.own d) ∧ σ[i]? = some (some (.ref a))

structure Tr (σ : L2.St) (H S : Hp) (ρ : List Sl) (σ' : L2.St) (H' S' : Hp) (ρ' : List Sl) : Prop where
  exS : Ex S S'
  keep : ∀ a o, H a = some o → ¬ Owned σ ρ a → H' a = some o
  owned : ∀ a, Owned σ' ρ' a → Owned σ ρ a ∨ H a = none
  new : ∀ a, S' a ≠ none → S a ≠ none ∨ H a = none ∨ Owned σ ρ a ∨ ∃ xs, H a = some (.tup xs)
  dom : ∀ a, H' a = none → H a = none

section
variable {σ σ' σ'' : L2.St} {H H' H'' S S' S'' : Hp} {ρ ρ' ρ'' : List Sl}
theorem Tr.refl (σ : L2.St) (H S : Hp) (ρ : List Sl) : Tr σ H S ρ σ H S ρ := ⟨Ex.refl S, fun _ _ h _ => h, fun _ h => .inl h, fun _ h => .inl h, fun _ h => h⟩
theorem Tr.trans (a : Tr σ H S ρ σ' H' S' ρ') (b : Tr σ' H' S' ρ' σ'' H'' S'' ρ'') : Tr σ H S ρ σ'' H'' S'' ρ'' where
  exS := a.exS.trans b.exS
  keep := fun x o h n => b.keep x o (a.keep x o h n) fun q => (a.owned x q).elim n fun z => by rw [z] at h; cases h
  owned := fun x q => (b.owned x q).elim (a.owned x) fun z => .inr (a.dom x z)
  new := fun x h => by
    rcases b.new x h with z | z | z | ⟨xs, z⟩
    · exact a.new x z
    · exact .inr (.inl (a.dom x z))
    · rcases a.owned x z with y | y
      · exact .inr (.inr (.inl y))
      · exact .inr (.inl y)
    · by_cases ho : Owned σ ρ x
      · exact .inr (.inr (.inl ho))
      · cases hx : H x with
        | none => exact .inr (.inl rfl)
        | some o =>
          have := a.keep x o hx ho
          rw [z] at this
          cases this
          exact .inr (.inr (.inr ⟨xs, rfl⟩))
  dom := fun x h => a.dom x (b.dom x h)
end

/-- growth: new objects alone -/
structure Gr (S H S' H' : Hp) : Prop where
  s : Ex S S'
  h : Ex H H'
  sh : Ex S' H'
  new : ∀ a, S' a ≠ none → S a ≠ none ∨ H a = none ∨ ∃ xs, H a = some (.tup xs)
section
variable {S H S' H' S'' H'' : Hp}
theorem Gr.refl (e : Ex S H) : Gr S H S H := ⟨Ex.refl S, Ex.refl H, e, fun _ h => .inl h⟩
theorem Gr.trans (a : Gr S H S' H') (b : Gr S' H' S'' H'') : Gr S H S'' H'' := ⟨a.s.trans b.s, a.h.trans b.h, b.sh, fun x h => by
  rcases b.new x h with z | z | ⟨xs, z⟩
  · exact a.new x z
  · exact .inr (.inl (a.h.free z))
  · cases hx : H x with
    | none => exact .inr (.inl rfl)
    | some o =>
      have := a.h x o hx
      rw [z] at this
      cases this
      exact .inr (.inr ⟨xs, rfl⟩)⟩
theorem Gr.one {p : Addr} {o : HO} (e : Ex S H) (h : H p = none) : Gr S H (upd S p o) (upd H p o) :=
  ⟨Ex.new (e.free h), Ex.new h, e.upd2 h, fun a q => by
    by_cases ha : a = p
    · subst ha; exact .inr (.inl h)
    · rw [upd_ne ha] at q; exact .inl q⟩
/-- an object that the stable heap does not take in -/
theorem Gr.hid {p : Addr} {o : HO} (e : Ex S H) (h : H p = none) : Gr S H S (upd H p o) := ⟨Ex.refl S, Ex.new h, e.trans (Ex.new h), fun _ q => .inl q⟩
end

section
variable {K : PySem.W.Frag} {fi : List Nat} {fa : Nat → Addr} {σ : L2.St} {H S H' S' : Hp} {ρ : List Sl}
theorem Rel.grow (r : Rel K fi fa σ H S ρ) (g : Gr S H S' H') : Rel K fi fa σ H' S' ρ where
  ex := g.sh
  len := r.len
  val := fun i d h => by
    obtain ⟨v, e, q⟩ := r.val i d h
    exact ⟨v, e, q.mono g.s⟩
  own := fun i d h => by
    obtain ⟨p, o, e, hs, hp, q⟩ := r.own i d h
    refine ⟨p, o, e, ?_, g.h p o hp, q.mono g.s⟩
    cases z : S' p with
    | none => rfl
    | some u =>
      rcases g.new p (by rw [z]; intro q; cases q) with y | y | ⟨xs, y⟩
      · exact absurd hs y
      · rw [hp] at y; cases y
      · rw [hp] at y; cases y; exact q.notup.elim
  dis := r.dis
  fix := r.fix
theorem Gr.tr (g : Gr S H S' H') : Tr σ H S ρ σ H' S' ρ := ⟨g.s, fun a o h _ => g.h a o h, fun _ h => .inl h, fun a h => (g.new a h).elim .inl fun z => .inr (z.elim .inl fun y => .inr (.inr y)), fun a h => g.h.free h⟩
end

/-! ### judgements -/
abbrev FE := List Sl → (D → List Sl → Prop) → Prop
abbrev FT := List Sl → (Bool → List Sl → Prop) → Prop
abbrev FA := List Sl → (List D → List Sl → Prop) → Prop
inductive Fl where
  | nx (ρ : List Sl) | bk (ρ : List Sl) | ct (ρ : List Sl) | rt (d : D) (ρ : List Sl)
  /-- a new object is handed back -/
  | rf (d : D) (ρ : List Sl)
abbrev FS := List Sl → (Fl → Prop) → Prop

section
variable (K : PySem.W.Frag) (fi : List Nat) (fa : Nat → Addr)
def OkE (te : TE) (f : FE) : Prop := ∀ (σ : L2.St) (H S : Hp) (ρ : List Sl) (P : D → List Sl → Prop) (Q : VK), Rel K fi fa σ H S ρ → f ρ P →
  (∀ v H' S' d ρ', P d ρ' → Rel K fi fa σ H' S' ρ' → Tr σ H S ρ σ H' S' ρ' → Den K S' v d → Q v H') → te σ H Q
/-- new since, or owned then -/
def Nw (σ : L2.St) (ρ : List Sl) (H : Hp) (a : Addr) : Prop := H a = none ∨ Owned σ ρ a
/-- such an object, not in the stable heap, no slot's -/
def Fresh (σ : L2.St) (H S : Hp) (ρ : List Sl) (W : Addr → Prop) (v : V) (d : D) : Prop := ∃ p o, v = .ref p ∧ W p ∧ S p = none ∧ ¬ Owned σ ρ p ∧ H p = some o ∧ HOD K S o d
def OkF (te : TE) (f : FE) : Prop := ∀ (σ : L2.St) (H S : Hp) (ρ : List Sl) (P : D → List Sl → Prop) (Q : VK), Rel K fi fa σ H S ρ → f ρ P →
  (∀ v H' S' d ρ', P d ρ' → Rel K fi fa σ H' S' ρ' → Tr σ H S ρ σ H' S' ρ' → Fresh K σ H' S' ρ' (Nw σ ρ H) v d → Q v H') → te σ H Q
def OkT (tt : TT) (f : FT) : Prop := ∀ (σ : L2.St) (H S : Hp) (ρ : List Sl) (P : Bool → List Sl → Prop) (Q : Bool → Hp → Prop), Rel K fi fa σ H S ρ → f ρ P →
  (∀ b H' S' ρ', P b ρ' → Rel K fi fa σ H' S' ρ' → Tr σ H S ρ σ H' S' ρ' → Q b H') → tt σ H Q
def OkA (ta : TA) (f : FA) : Prop := ∀ (σ : L2.St) (H S : Hp) (ρ : List Sl) (P : List D → List Sl → Prop) (Q : List V → Hp → Prop), Rel K fi fa σ H S ρ → f ρ P →
  (∀ vs H' S' ds ρ', P ds ρ' → Rel K fi fa σ H' S' ρ' → Tr σ H S ρ σ H' S' ρ' → Dens K S' vs ds → Q vs H') → ta σ H Q
/-- what is known behind a statement -/
def Beh (σ : L2.St) (H S : Hp) (ρ : List Sl) (P : Fl → Prop) (E : Ends) : Prop :=
  (∀ σ' H' S' ρ', P (.nx ρ') → Rel K fi fa σ' H' S' ρ' → Tr σ H S ρ σ' H' S' ρ' → E.nx σ' H') ∧
  (∀ σ' H' S' ρ', P (.bk ρ') → Rel K fi fa σ' H' S' ρ' → Tr σ H S ρ σ' H' S' ρ' → E.bk σ' H') ∧
  (∀ σ' H' S' ρ', P (.ct ρ') → Rel K fi fa σ' H' S' ρ' → Tr σ H S ρ σ' H' S' ρ' → E.ct σ' H') ∧
  (∀ v d σ' H' S' ρ', P (.rt d ρ') → Rel K fi fa σ' H' S' ρ' → Tr σ H S ρ σ' H' S' ρ' → Den K S' v d → E.rt v H') ∧
  (∀ v d σ' H' S' ρ', P (.rf d ρ') → Rel K fi fa σ' H' S' ρ' → Tr σ H S ρ σ' H' S' ρ' → Fresh K σ' H' S' ρ' (Nw σ ρ H) v d → E.rt v H')
def OkS (ts : TS) (f : FS) : Prop := ∀ (σ : L2.St) (H S : Hp) (ρ : List Sl) (P : Fl → Prop) (E : Ends), Rel K fi fa σ H S ρ → f ρ P → Beh K fi fa σ H S ρ P E → ts E σ H
end

section
variable (X : Cx) (fi : List Nat) (fa : Nat → Addr)
def PED (e : Expr) (f : FE) : Prop := ∃ t, PE X e t ∧ OkE X.K fi fa t f
def PEF (e : Expr) (f : FE) : Prop := ∃ t, PE X e t ∧ OkF X.K fi fa t f
def PTD (e : Expr) (f : FT) : Prop := ∃ t, PT X e t ∧ OkT X.K fi fa t f
def PAD (es : List Expr) (f : FA) : Prop := ∃ t, PA X es t ∧ OkA X.K fi fa t f
def PSD (st : Stmt) (f : FS) : Prop := ∃ t, PS X st t ∧ OkS X.K fi fa t f
def PSsD (st : List Stmt) (f : FS) : Prop := ∃ t, PSs X st t ∧ OkS X.K fi fa t f
end
end DL

/-! DL1: names, constants, operators, tests, arguments, displays, statements. -/
namespace DL
open PySem PySem.Spec PyProof.Rows L2

section
variable {K : PySem.W.Frag} {fi : List Nat} {fa : Nat → Addr} {σ : L2.St} {H S : Hp} {ρ : List Sl}
/-- an object becomes stable -/
theorem Rel.take {p : Addr} {o : HO} (r : Rel K fi fa σ H S ρ) (hp : H p = some o) (hs : S p = none) (ho : ¬ Owned σ ρ p) : Rel K fi fa σ H (upd S p o) ρ where
  ex := fun a u h => by
    by_cases ha : a = p
    · subst ha; rw [upd_same] at h; cases h; exact hp
    · rw [upd_ne ha] at h; exact r.ex a u h
  len := r.len
  val := fun i d h => by
    obtain ⟨v, e, q⟩ := r.val i d h
    exact ⟨v, e, q.mono (Ex.new hs)⟩
  own := fun i d h => by
    obtain ⟨q, u, e, h1, h2, h3⟩ := r.own i d h
    refine ⟨q, u, e, ?_, h2, h3.mono (Ex.new hs)⟩
    rw [upd_ne (fun z => ho ⟨i, d, h, by rw [e, z]⟩)]; exact h1
  dis := r.dis
  fix := r.fix
theorem Tr.take {p : Addr} {o : HO} (hs : S p = none) (h0 : Owned σ ρ p) : Tr σ H S ρ σ H (upd S p o) ρ :=
  ⟨Ex.new hs, fun _ _ h _ => h, fun _ h => .inl h, fun a h => by
    by_cases ha : a = p
    · subst ha; exact .inr (.inr (.inl h0))
    · rw [upd_ne ha] at h; exact .inl h, fun _ h => h⟩
theorem get_set_eq {α : Type} {l : List α} {i : Nat} {x y : α} (h : (l.set i x)[i]? = some y) : y = x := by
  rw [List.getElem?_set] at h
  rw [if_pos rfl] at h
  split at h
  · exact (Option.some.inj h).symm
  · cases h
theorem get_set_ne {α : Type} {l : List α} {i j : Nat} {x : α} (h : j ≠ i) : (l.set i x)[j]? = l[j]? := List.getElem?_set_ne (Ne.symm h)
/-- one slot's knowledge is replaced by a value's -/
theorem Rel.setVal {i : Nat} {v : V} {d : D} (r : Rel K fi fa σ H S ρ) (hv : σ[i]? = some (some v)) (hd : Den K S v d) : Rel K fi fa σ H S (ρ.set i (.val d)) where
  ex := r.ex
  len := by rw [List.length_set]; exact r.len
  val := fun j e h => by
    by_cases hj : j = i
    · subst hj
      have := get_set_eq h
      cases this
      exact ⟨v, hv, hd⟩
    · rw [get_set_ne hj] at h; exact r.val j e h
  own := fun j e h => by
    by_cases hj : j = i
    · subst hj
      have := get_set_eq h
      cases this
    · rw [get_set_ne hj] at h; exact r.own j e h
  dis := fun j k e f p h1 h2 => by
    have hj : j ≠ i := fun z => by subst z; have := get_set_eq h1; cases this
    have hk : k ≠ i := fun z => by subst z; have := get_set_eq h2; cases this
    rw [get_set_ne hj] at h1
    rw [get_set_ne hk] at h2
    exact r.dis j k e f p h1 h2
  fix := r.fix
theorem owned_set_val {i : Nat} {d : D} {a : Addr} (h : Owned σ (ρ.set i (.val d)) a) : Owned σ ρ a := by
  obtain ⟨j, e, h1, h2⟩ := h
  have hj : j ≠ i := fun z => by subst z; have := get_set_eq h1; cases this
  rw [get_set_ne hj] at h1
  exact ⟨j, e, h1, h2⟩
theorem owned_set_non {i : Nat} {a : Addr} (h : Owned σ (ρ.set i .non) a) : Owned σ ρ a := by
  obtain ⟨j, e, h1, h2⟩ := h
  have hj : j ≠ i := fun z => by subst z; have := get_set_eq h1; cases this
  rw [get_set_ne hj] at h1
  exact ⟨j, e, h1, h2⟩
end

section
variable {X : Cx} {fi : List Nat} {fa : Nat → Addr} {e a b : Expr} {f fx fy : FE} {pos : Pos}

/-- a new object as a value -/
theorem Tr.takeNew {K : PySem.W.Frag} {σ σ' : L2.St} {H S H' S' : Hp} {ρ ρ' : List Sl} {p : Addr} {o : HO} (t : Tr σ H S ρ σ' H' S' ρ') (h0 : Nw σ ρ H p) (hs : S' p = none) : Tr σ H S ρ σ' H' (upd S' p o) ρ' :=
  ⟨t.exS.trans (Ex.new hs), t.keep, t.owned, fun a q => by
    by_cases ha : a = p
    · subst ha; exact .inr (h0.imp id .inl)
    · rw [upd_ne ha] at q; exact t.new a q, t.dom⟩
theorem PEF.val (h : PEF X fi fa e f) : PED X fi fa e f := by
  obtain ⟨t, pe, ok⟩ := h
  refine ⟨t, pe, fun σ H S ρ P Q r hf k => ok σ H S ρ P Q r hf fun v H' S' d ρ' hP r' tr ⟨p, o, ev, h0, hs, no, hp, hd⟩ => ?_⟩
  subst ev
  exact k _ H' (upd S' p o) d ρ' hP (r'.take hp hs no) (tr.takeNew (K := X.K) h0 hs) ((hd.mono (Ex.new hs)).den upd_same)

/-! ### names, constants -/
def fVar (i : Nat) : FE := fun ρ P => match ρ[i]? with
  | some (.val d) => P d ρ
  | some (.own d) => P d (ρ.set i (.val d))
  | _ => False
theorem ok_var (K : PySem.W.Frag) (i : Nat) : OkE K fi fa (tVar i) (fVar i) := fun σ H S ρ P Q r hf k => by
  unfold fVar at hf
  split at hf
  · rename_i d hd
    obtain ⟨v, e, q⟩ := r.val i d hd
    exact ⟨v, e, k v H S d ρ hf r (Tr.refl σ H S ρ) q⟩
  · rename_i d hd
    obtain ⟨p, o, e, hs, hp, ho⟩ := r.own i d hd
    have den : Den K (upd S p o) (.ref p) d := (ho.mono (Ex.new hs)).den upd_same
    have r' : Rel K fi fa σ H (upd S p o) (ρ.set i (.val d)) := by
      refine ⟨fun a u h => ?_, by rw [List.length_set]; exact r.len, fun j e' h => ?_, fun j e' h => ?_, fun j l e1 e2 q h1 h2 => ?_, r.fix⟩
      · by_cases ha : a = p
        · subst ha; rw [upd_same] at h; cases h; exact hp
        · rw [upd_ne ha] at h; exact r.ex a u h
      · by_cases hj : j = i
        · subst hj
          have := get_set_eq h
          cases this
          exact ⟨_, e, den⟩
        · rw [get_set_ne hj] at h
          obtain ⟨v, e1, q1⟩ := r.val j e' h
          exact ⟨v, e1, q1.mono (Ex.new hs)⟩
      · have hj : j ≠ i := fun z => by subst z; have := get_set_eq h; cases this
        rw [get_set_ne hj] at h
        obtain ⟨q, u, e1, h1, h2, h3⟩ := r.own j e' h
        refine ⟨q, u, e1, ?_, h2, h3.mono (Ex.new hs)⟩
        have : q ≠ p := fun z => hj (r.dis j i e' d p h hd (by rw [e1, z]) e)
        rw [upd_ne this]; exact h1
      · have hj : j ≠ i := fun z => by subst z; have := get_set_eq h1; cases this
        have hl : l ≠ i := fun z => by subst z; have := get_set_eq h2; cases this
        rw [get_set_ne hj] at h1
        rw [get_set_ne hl] at h2
        exact r.dis j l e1 e2 q h1 h2
    refine ⟨_, e, k _ H _ d _ hf r' ⟨Ex.new hs, fun _ _ h _ => h, fun a h => .inl (owned_set_val h), fun a h => ?_, fun _ h => h⟩ den⟩
    by_cases ha : a = p
    · subst ha; exact .inr (.inr (.inl ⟨i, d, hd, e⟩))
    · rw [upd_ne ha] at h; exact .inl h
  · exact hf.elim
theorem pd_v (i : Nat) {x : Str} (hN : X.N[i]? = some x := by rfl) (hv : Vis X.env.scope x := by first | exact Or.inl rfl | exact Or.inr (Or.inl rfl) | exact Or.inr (Or.inr rfl)) (hd : (x == ("__debug__" : Str)) = false := by decide)
    (hcd : (x == ("__classdict__" : Str)) = false := by decide) : PED X fi fa (.Name x pos) (fVar i) := ⟨_, pv i hN hv hd hcd, ok_var X.K i⟩
def fC (d : D) : FE := fun ρ P => P d ρ
theorem ok_c {K : PySem.W.Frag} {v : V} {d : D} (h : ∀ S, Den K S v d) : OkE K fi fa (tC v) (fC d) := fun σ H S ρ P Q r hf k => k v H S d ρ hf r (Tr.refl σ H S ρ) (h S)
theorem pd_int {i j} : PED X fi fa (.Constant (.int i) j pos) (fC (.int i)) := ⟨_, pe_int, ok_c fun _ => .int i⟩
theorem pd_bl {i j} : PED X fi fa (.Constant (.bool i) j pos) (fC (.bl i)) := ⟨_, pe_bl, ok_c fun _ => .bl i⟩
theorem pd_non {j} : PED X fi fa (.Constant .none j pos) (fC .non) := ⟨_, pe_non, ok_c fun _ => .non⟩
theorem pd_str {i j} : PED X fi fa (.Constant (.str i) j pos) (fC (.str i)) := ⟨_, pe_str, ok_c fun _ => .str i⟩
/-- a module's int constant -/
theorem pd_globI {x : Str} {i : Int} {t : Tok} (hg : Gl X x) (hm : X.mg x = some (.int i t)) (hd : (x == ("__debug__" : Str)) = false := by decide) : PED X fi fa (.Name x pos) (fC (.int i)) := ⟨_, pe_glob (v := .int i) hg hm ⟨t, rfl⟩ hd, ok_c fun _ => .int i⟩
theorem pd_globR {x : Str} {a : Addr} (hg : Gl X x) (hm : X.mg x = some (.ref a)) (hd : (x == ("__debug__" : Str)) = false := by decide) : PED X fi fa (.Name x pos) (fC (.ref a)) := ⟨_, pe_glob (v := .ref a) hg hm rfl hd, ok_c fun _ => .ref a⟩
theorem pd_ty {x : Str} {n : String} (hg : Gl X x) (hm : X.mg x = none) (hv : bootBuiltins x = some (.type n) := by decide +kernel) (hn : x ≠ "__name__" := by decide) (hd : (x == ("__debug__" : Str)) = false := by decide) : PED X fi fa (.Name x pos) (fC (.ty n)) :=
  ⟨_, pe_bltn hg hm hv (v := .ty n) rfl hn hd, ok_c fun _ => .ty n⟩

/-! ### operators -/
def OpD (X : Cx) (o : Value → Value → Sem Value) (g : D → D → (D → Prop) → Prop) : Prop := ∃ r : R2, OpR X o r ∧ ∀ (x y : V) (dx dy : D) (S H : Hp) (P : D → Prop) (Q : VK), Ex S H → Den X.K S x dx → Den X.K S y dy → g dx dy P →
  (∀ v S' H' d, P d → Gr S H S' H' → Den X.K S' v d → Q v H') → r x y H Q
def fOp (g : D → D → (D → Prop) → Prop) (fx fy : FE) : FE := fun ρ P => fx ρ fun x ρ1 => fy ρ1 fun y ρ2 => g x y fun z => P z ρ2
theorem ok_op {o : Value → Value → Sem Value} {g : D → D → (D → Prop) → Prop} {r : R2} {tx ty : TE}
    (hr : ∀ (x y : V) (dx dy : D) (S H : Hp) (P : D → Prop) (Q : VK), Ex S H → Den X.K S x dx → Den X.K S y dy → g dx dy P → (∀ v S' H' d, P d → Gr S H S' H' → Den X.K S' v d → Q v H') → r x y H Q)
    (hx : OkE X.K fi fa tx fx) (hy : OkE X.K fi fa ty fy) : OkE X.K fi fa (tOp r tx ty) (fOp g fx fy) := fun σ H S ρ P Q rr hf k =>
  hx σ H S ρ _ _ rr hf fun v H1 S1 d ρ1 hf1 r1 t1 d1 => hy σ H1 S1 ρ1 _ _ r1 hf1 fun u H2 S2 d' ρ2 hf2 r2 t2 d2 =>
    hr v u d d' S2 H2 _ Q r2.ex (d1.mono t2.exS) d2 hf2 fun z S3 H3 dz hP g3 dd => k z H3 S3 dz ρ2 hP (r2.grow g3) ((t1.trans t2).trans g3.tr) dd
theorem pd_op {op : Operator} {g : D → D → (D → Prop) → Prop} (ho : OpD X (binaryOp op) g) (ha : PED X fi fa a fx) (hb : PED X fi fa b fy) : PED X fi fa (.BinOp a op b pos) (fOp g fx fy) := by
  obtain ⟨r, h1, h2⟩ := ho
  obtain ⟨tx, px, ox⟩ := ha
  obtain ⟨ty, py, oy⟩ := hb
  exact ⟨_, pe_op h1 px py, ok_op (o := binaryOp op) h2 ox oy⟩
theorem pd_cmp {op : CmpOp} {g : D → D → (D → Prop) → Prop} (ho : OpD X (compareOp op) g) (ha : PED X fi fa a fx) (hb : PED X fi fa b fy) (hm : behindInMarks op b = false := by first | exact nomark _ | rfl) : PED X fi fa (.Compare a [op] [b] pos) (fOp g fx fy) := by
  obtain ⟨r, h1, h2⟩ := ho
  obtain ⟨tx, px, ox⟩ := ha
  obtain ⟨ty, py, oy⟩ := hb
  exact ⟨_, pe_cmpR h1 px py hm, ok_op (o := compareOp op) h2 ox oy⟩
/-- what a bool is asked -/
def asB (d : D) (P : Bool → Prop) : Prop := match d with
  | .bl b => P b
  | _ => False
def fTst (f : FE) : FT := fun ρ P => f ρ fun d ρ1 => asB d fun b => P b ρ1
theorem asB_inv {d : D} {P : Bool → Prop} (h : asB d P) : ∃ b, d = .bl b ∧ P b := by
  unfold asB at h
  split at h
  · exact ⟨_, rfl, h⟩
  · exact h.elim
theorem den_bl {K : PySem.W.Frag} {S : Hp} {v : V} {b : Bool} (h : Den K S v (.bl b)) : v = .bl b := by cases h; rfl
theorem den_int {K : PySem.W.Frag} {S : Hp} {v : V} {i : Int} (h : Den K S v (.int i)) : v = .int i := by cases h; rfl
theorem den_str {K : PySem.W.Frag} {S : Hp} {v : V} {i : Str} (h : Den K S v (.str i)) : v = .str i := by cases h; rfl
theorem den_ty {K : PySem.W.Frag} {S : Hp} {v : V} {i : String} (h : Den K S v (.ty i)) : v = .ty i := by cases h; rfl
theorem den_non {K : PySem.W.Frag} {S : Hp} {v : V} (h : Den K S v .non) : v = .non := by cases h; rfl
theorem den_tup {K : PySem.W.Frag} {S : Hp} {v : V} {ds : List D} (h : Den K S v (.tup ds)) : ∃ a xs, v = .ref a ∧ S a = some (.tup xs) ∧ Dens K S xs ds := by cases h with | tup h t => exact ⟨_, _, rfl, h, t⟩
theorem den_lst {K : PySem.W.Frag} {S : Hp} {v : V} {ds : List D} (h : Den K S v (.lst ds)) : ∃ a xs, v = .ref a ∧ S a = some (.lst xs) ∧ Dens K S xs ds := by cases h with | lst h t => exact ⟨_, _, rfl, h, t⟩
theorem den_rol {K : PySem.W.Frag} {S : Hp} {v : V} {ds : List D} (h : Den K S v (.rol ds)) : ∃ a xs, v = .ref a ∧ SqL K S a xs ∧ Dens K S xs ds := by cases h with | rol h t => exact ⟨_, _, rfl, h, t⟩
theorem den_dT {K : PySem.W.Frag} {S : Hp} {v : V} {ks : List (List Key)} {ds : List D} (h : Den K S v (.dT ks ds)) : ∃ a kvs, v = .ref a ∧ Rd S a (.dT kvs) ∧ ks = kvs.map (·.1) ∧ Dens K S (kvs.map (·.2)) ds := by cases h with | dT h q t => exact ⟨_, _, rfl, h, q, t⟩
theorem den_dK {K : PySem.W.Frag} {S : Hp} {v : V} {ks : List Key} {ds : List D} (h : Den K S v (.dK ks ds)) : ∃ a kvs, v = .ref a ∧ Rd S a (.dK kvs) ∧ ks = kvs.map (·.1) ∧ Dens K S (kvs.map (·.2)) ds := by cases h with | dK h q t => exact ⟨_, _, rfl, h, q, t⟩
theorem den_obj {K : PySem.W.Frag} {S : Hp} {v : V} {C : Addr} {ns : List Str} {ds : List D} (h : Den K S v (.obj C ns ds)) : ∃ a dx fs, v = .ref a ∧ S a = some (.ins C dx fs) ∧ ns = fs.map (·.1) ∧ Dens K S (fs.map (·.2)) ds := by cases h with | obj h q t => exact ⟨_, _, _, rfl, h, q, t⟩
theorem pt_cmpD {op : CmpOp} {g : D → D → (D → Prop) → Prop} (ho : OpD X (compareOp op) g) (ha : PED X fi fa a fx) (hb : PED X fi fa b fy) (hm : behindInMarks op b = false := by first | exact nomark _ | rfl) : PTD X fi fa (.Compare a [op] [b] pos) (fTst (fOp g fx fy)) := by
  obtain ⟨r, h1, h2⟩ := ho
  obtain ⟨tx, px, ox⟩ := ha
  obtain ⟨ty, py, oy⟩ := hb
  refine ⟨_, pt_cmpR h1 px py hm, fun σ H S ρ P Q rr hf k => ok_op (o := compareOp op) h2 ox oy σ H S ρ _ _ rr hf fun v H1 S1 d ρ1 hq r1 t1 d1 => ?_⟩
  obtain ⟨c, rfl, hp⟩ := asB_inv hq
  exact ⟨c, den_bl d1, k c H1 S1 ρ1 hp r1 t1⟩
/-- an expression that gives a bool, as a test -/
theorem pt_valD (h : PED X fi fa e f) (he : ∀ whole, isTrue e X.env whole = (do let v ← whole; standAt e.pos; holding [v] (truthy v)) := by intro _; rfl) : PTD X fi fa e (fTst f) := by
  obtain ⟨t, pe, ok⟩ := h
  refine ⟨_, pt_val pe he, fun σ H S ρ P Q rr hf k => ok σ H S ρ _ _ rr hf fun v H1 S1 d ρ1 hq r1 t1 d1 => ?_⟩
  obtain ⟨c, rfl, hp⟩ := asB_inv hq
  exact ⟨c, den_bl d1, k c H1 S1 ρ1 hp r1 t1⟩

/-! ### and, or, not -/
def PWD (X : Cx) (fi : List Nat) (fa : Nat → Addr) (e : Expr) (f : FT) : Prop := ∃ t, PW X e t ∧ OkT X.K fi fa t f
theorem PWD.pt {t : FT} (h : PWD X fi fa e t) : PTD X fi fa e t := let ⟨u, p, o⟩ := h; ⟨u, p.pt, o⟩
variable {ft fu : FT} {rest : List Expr}
def fAnd (t u : FT) : FT := fun ρ P => t ρ fun b ρ1 => if b = true then u ρ1 P else P false ρ1
def fOr (t u : FT) : FT := fun ρ P => t ρ fun b ρ1 => if b = true then P true ρ1 else u ρ1 P
def fNot (t : FT) : FT := fun ρ P => t ρ fun b ρ1 => P (!b) ρ1
theorem pwd_and1 (h : PTD X fi fa a ft) : PWD X fi fa (.BoolOp .And [a] pos) ft := let ⟨u, p, o⟩ := h; ⟨u, pw_and1 p, o⟩
theorem pwd_or1 (h : PTD X fi fa a ft) : PWD X fi fa (.BoolOp .Or [a] pos) ft := let ⟨u, p, o⟩ := h; ⟨u, pw_or1 p, o⟩
theorem pwd_and (h1 : PTD X fi fa a ft) (h2 : PWD X fi fa (.BoolOp .And (b :: rest) pos) fu) : PWD X fi fa (.BoolOp .And (a :: b :: rest) pos) (fAnd ft fu) := by
  obtain ⟨t, pt, ot⟩ := h1
  obtain ⟨u, pu, ou⟩ := h2
  refine ⟨_, pw_and pt pu, fun σ H S ρ P Q rr hf k => ot σ H S ρ _ _ rr hf fun c H1 S1 ρ1 hq r1 t1 => ?_⟩
  cases c with
  | true => exact iteT (ou σ H1 S1 ρ1 P Q r1 (by simpa using hq) fun c H2 S2 ρ2 hp r2 t2 => k c H2 S2 ρ2 hp r2 (t1.trans t2))
  | false => exact iteF (k false H1 S1 ρ1 (by simpa using hq) r1 t1)
theorem pwd_or (h1 : PTD X fi fa a ft) (h2 : PWD X fi fa (.BoolOp .Or (b :: rest) pos) fu) : PWD X fi fa (.BoolOp .Or (a :: b :: rest) pos) (fOr ft fu) := by
  obtain ⟨t, pt, ot⟩ := h1
  obtain ⟨u, pu, ou⟩ := h2
  refine ⟨_, pw_or pt pu, fun σ H S ρ P Q rr hf k => ot σ H S ρ _ _ rr hf fun c H1 S1 ρ1 hq r1 t1 => ?_⟩
  cases c with
  | false => exact iteF (ou σ H1 S1 ρ1 P Q r1 (by simpa using hq) fun c H2 S2 ρ2 hp r2 t2 => k c H2 S2 ρ2 hp r2 (t1.trans t2))
  | true => exact iteT (k true H1 S1 ρ1 (by simpa using hq) r1 t1)
theorem pt_notD (h : PTD X fi fa a ft) : PTD X fi fa (.UnaryOp .Not a pos) (fNot ft) := by
  obtain ⟨t, pt, ot⟩ := h
  exact ⟨_, pt_not pt, fun σ H S ρ P Q rr hf k => ot σ H S ρ _ _ rr hf fun c H1 S1 ρ1 hq r1 t1 => k (!c) H1 S1 ρ1 hq r1 t1⟩
def fAndV (f g : FE) : FE := fun ρ P => f ρ fun d ρ1 => asB d fun b => if b = true then g ρ1 P else P (.bl false) ρ1
def fOrV (f g : FE) : FE := fun ρ P => f ρ fun d ρ1 => asB d fun b => if b = true then P (.bl true) ρ1 else g ρ1 P
def fNotV (f : FE) : FE := fun ρ P => f ρ fun d ρ1 => asB d fun b => P (.bl (!b)) ρ1
theorem pd_one {op} (h : PED X fi fa a fx) : PED X fi fa (.BoolOp op [a] pos) fx := let ⟨u, p, o⟩ := h; ⟨u, pe_one p, o⟩
theorem pd_and (h1 : PED X fi fa a fx) (h2 : PED X fi fa (.BoolOp .And (b :: rest) pos) fy) : PED X fi fa (.BoolOp .And (a :: b :: rest) pos) (fAndV fx fy) := by
  obtain ⟨t, pt, ot⟩ := h1
  obtain ⟨u, pu, ou⟩ := h2
  refine ⟨_, pe_and pt pu, fun σ H S ρ P Q rr hf k => ot σ H S ρ _ _ rr hf fun v H1 S1 d ρ1 hq r1 t1 d1 => ?_⟩
  obtain ⟨c, rfl, hp⟩ := asB_inv hq
  refine ⟨c, den_bl d1, ?_⟩
  cases c with
  | true => exact iteT (ou σ H1 S1 ρ1 P Q r1 (by simpa using hp) fun v H2 S2 d ρ2 hp r2 t2 d2 => k v H2 S2 d ρ2 hp r2 (t1.trans t2) d2)
  | false => exact iteF (k _ H1 S1 _ ρ1 (by simpa using hp) r1 t1 (.bl false))
theorem pd_or (h1 : PED X fi fa a fx) (h2 : PED X fi fa (.BoolOp .Or (b :: rest) pos) fy) : PED X fi fa (.BoolOp .Or (a :: b :: rest) pos) (fOrV fx fy) := by
  obtain ⟨t, pt, ot⟩ := h1
  obtain ⟨u, pu, ou⟩ := h2
  refine ⟨_, pe_or pt pu, fun σ H S ρ P Q rr hf k => ot σ H S ρ _ _ rr hf fun v H1 S1 d ρ1 hq r1 t1 d1 => ?_⟩
  obtain ⟨c, rfl, hp⟩ := asB_inv hq
  refine ⟨c, den_bl d1, ?_⟩
  cases c with
  | false => exact iteF (ou σ H1 S1 ρ1 P Q r1 (by simpa using hp) fun v H2 S2 d ρ2 hp r2 t2 d2 => k v H2 S2 d ρ2 hp r2 (t1.trans t2) d2)
  | true => exact iteT (k _ H1 S1 _ ρ1 (by simpa using hp) r1 t1 (.bl true))
theorem pd_not (h1 : PED X fi fa a fx) : PED X fi fa (.UnaryOp .Not a pos) (fNotV fx) := by
  obtain ⟨t, pt, ot⟩ := h1
  refine ⟨_, pe_not pt, fun σ H S ρ P Q rr hf k => ot σ H S ρ _ _ rr hf fun v H1 S1 d ρ1 hq r1 t1 d1 => ?_⟩
  obtain ⟨c, rfl, hp⟩ := asB_inv hq
  exact ⟨c, den_bl d1, k _ H1 S1 _ ρ1 hp r1 t1 (.bl _)⟩
def fIf (t : FT) (f g : FE) : FE := fun ρ P => t ρ fun b ρ1 => if b = true then f ρ1 P else g ρ1 P
theorem pd_ifExp {c : Expr} (h0 : PTD X fi fa c ft) (h1 : PED X fi fa a fx) (h2 : PED X fi fa b fy) : PED X fi fa (.IfExp c a b pos) (fIf ft fx fy) := by
  obtain ⟨t, pt, ot⟩ := h0
  obtain ⟨tx, px, ox⟩ := h1
  obtain ⟨ty, py, oy⟩ := h2
  refine ⟨_, pe_ifExp pt px py, fun σ H S ρ P Q rr hf k => ot σ H S ρ _ _ rr hf fun c H1 S1 ρ1 hq r1 t1 => ?_⟩
  cases c with
  | true => exact iteT (ox σ H1 S1 ρ1 P Q r1 (by simpa using hq) fun v H2 S2 d ρ2 hp r2 t2 d2 => k v H2 S2 d ρ2 hp r2 (t1.trans t2) d2)
  | false => exact iteF (oy σ H1 S1 ρ1 P Q r1 (by simpa using hq) fun v H2 S2 d ρ2 hp r2 t2 d2 => k v H2 S2 d ρ2 hp r2 (t1.trans t2) d2)
def UnD (X : Cx) (o : Value → Sem Value) (g : D → (D → Prop) → Prop) : Prop := ∃ r, UnR X o r ∧ ∀ (x : V) (dx : D) (S H : Hp) (P : D → Prop) (Q : VK), Ex S H → Den X.K S x dx → g dx P →
  (∀ v S' H' d, P d → Gr S H S' H' → Den X.K S' v d → Q v H') → r x H Q
def fUn (g : D → (D → Prop) → Prop) (fx : FE) : FE := fun ρ P => fx ρ fun x ρ1 => g x fun z => P z ρ1
theorem pd_un {op : UnaryOp} {g : D → (D → Prop) → Prop} (ho : UnD X (unaryOp op) g) (ha : PED X fi fa a fx) : PED X fi fa (.UnaryOp op a pos) (fUn g fx) := by
  obtain ⟨r, h1, h2⟩ := ho
  obtain ⟨tx, px, ox⟩ := ha
  exact ⟨_, pe_un h1 px, fun σ H S ρ P Q rr hf k => ox σ H S ρ _ _ rr hf fun v H1 S1 d ρ1 hf1 r1 t1 d1 =>
    h2 v d S1 H1 _ Q r1.ex d1 hf1 fun z S3 H3 dz hP g3 dd => k z H3 S3 dz ρ1 hP (r1.grow g3) (t1.trans g3.tr) dd⟩

/-! ### argument lists, built-ins, displays -/
variable {es : List Expr} {fs : FA}
def fNil : FA := fun ρ P => P [] ρ
def fCons (f : FE) (fs : FA) : FA := fun ρ P => f ρ fun d ρ1 => fs ρ1 fun ds ρ2 => P (d :: ds) ρ2
theorem pad_nil : PAD X fi fa [] fNil := ⟨_, pa_nil, fun σ H S ρ P Q r hf k => k [] H S [] ρ hf r (Tr.refl σ H S ρ) .nil⟩
theorem pad_cons (h : PED X fi fa e f) (hr : PAD X fi fa es fs) (hs : starEach (e :: es) X.env = (false, eval e X.env) :: starEach es X.env := by rfl) : PAD X fi fa (e :: es) (fCons f fs) := by
  obtain ⟨t, p, o⟩ := h
  obtain ⟨u, q, w⟩ := hr
  exact ⟨_, pa_cons p q hs, fun σ H S ρ P Q r hf k => o σ H S ρ _ _ r hf fun v H1 S1 d ρ1 hf1 r1 t1 d1 => w σ H1 S1 ρ1 _ _ r1 hf1 fun vs H2 S2 ds ρ2 hf2 r2 t2 d2 => k _ H2 S2 _ ρ2 hf2 r2 (t1.trans t2) (.cons (d1.mono t2.exS) d2)⟩
def fTup (fs : FA) : FE := fun ρ P => fs ρ fun ds ρ1 => ds.length ≤ 100000 ∧ P (.tup ds) ρ1
def fLst (fs : FA) : FE := fun ρ P => fs ρ fun ds ρ1 => ds.length ≤ 100000 ∧ P (.lst ds) ρ1
theorem sz_of {n : Nat} (h : n ≤ 100000) : n ≤ sizeLine := Nat.le_trans h (by decide)
theorem sz_lt {n : Nat} (h : n < 100000) : n < sizeLine := Nat.lt_of_lt_of_le h (by decide)
theorem pd_tup {x1} (h : PAD X fi fa es fs) : PED X fi fa (.Tuple es x1 pos) (fTup fs) := by
  obtain ⟨u, q, w⟩ := h
  refine ⟨_, pe_tup q, fun σ H S ρ P Q r hf k => w σ H S ρ _ _ r hf fun vs H1 S1 ds ρ1 hf1 r1 t1 d1 => ⟨sz_of (by rw [d1.length]; exact hf1.1), fun p hp => ?_⟩⟩
  have g := Gr.one (o := .tup vs) r1.ex hp
  exact k _ _ _ _ ρ1 hf1.2 (r1.grow g) (t1.trans g.tr) (.tup upd_same (d1.mono g.s))
theorem ok_new {σ : L2.St} {H S H1 S1 : Hp} {ρ ρ1 : List Sl} {p : Addr} {o : HO} {d : D} {K : PySem.W.Frag} (t1 : Tr σ H S ρ σ H1 S1 ρ1) (r1 : Rel K fi fa σ H1 S1 ρ1) (hp : H1 p = none) (hd : HOD K S1 o d) :
    Rel K fi fa σ (upd H1 p o) S1 ρ1 ∧ Tr σ H S ρ σ (upd H1 p o) S1 ρ1 ∧ Fresh K σ (upd H1 p o) S1 ρ1 (Nw σ ρ H) (.ref p) d := by
  have g : Gr S1 H1 S1 (upd H1 p o) := Gr.hid r1.ex hp
  refine ⟨r1.grow g, t1.trans g.tr, p, o, rfl, .inl (t1.dom p hp), r1.ex.free hp, fun ⟨i, e, h1, h2⟩ => ?_, upd_same, hd⟩
  obtain ⟨q, u, e1, _, e2, _⟩ := r1.own i e h1
  rw [h2] at e1
  cases e1
  rw [hp] at e2
  cases e2
theorem pf_lst (h : PAD X fi fa es fs) : PEF X fi fa (.List es pos) (fLst fs) := by
  obtain ⟨u, q, w⟩ := h
  refine ⟨_, pe_lst q, fun σ H S ρ P Q r hf k => w σ H S ρ _ _ r hf fun vs H1 S1 ds ρ1 hf1 r1 t1 d1 => ⟨sz_of (by rw [d1.length]; exact hf1.1), fun p hp => ?_⟩⟩
  obtain ⟨a1, a2, a3⟩ := ok_new (o := .lst vs) (d := .lst ds) t1 r1 hp d1
  exact k _ _ _ _ ρ1 hf1.2 a1 a2 a3
theorem pd_lst (h : PAD X fi fa es fs) : PED X fi fa (.List es pos) (fLst fs) := (pf_lst h).val
/-- a built-in called on values -/
def CallD (X : Cx) (c : Value) (g : List D → (D → Prop) → Prop) : Prop := ∃ r, CallR X c r ∧ ∀ (xs : List V) (ds : List D) (S H : Hp) (P : D → Prop) (Q : VK), Ex S H → Dens X.K S xs ds → g ds P →
  (∀ v S' H' d, P d → Gr S H S' H' → Den X.K S' v d → Q v H') → r xs H Q
/-- .. whose answer is a new object -/
def CallF (X : Cx) (c : Value) (g : List D → (D → Prop) → Prop) : Prop := ∃ r, CallR X c r ∧ ∀ (xs : List V) (ds : List D) (S H : Hp) (P : D → Prop) (Q : VK), Ex S H → Dens X.K S xs ds → g ds P →
  (∀ p S' H' o d, P d → H p = none → Gr S H S' H' → S' p = none → H' p = some o → HOD X.K S' o d → Q (.ref p) H') → r xs H Q
def fCall (g : List D → (D → Prop) → Prop) (fs : FA) : FE := fun ρ P => fs ρ fun ds ρ1 => g ds fun d => P d ρ1
variable {x : Str} {p : Pos} {g : List D → (D → Prop) → Prop} {id T : String}
theorem pd_b (hc : CallD X (.builtin id) g) (hg : Gl X x) (hm : X.mg x = none) (ha : PAD X fi fa (e :: es) fs) (hv : bootBuiltins x = some (.builtin id) := by decide +kernel) (hn : x ≠ "__name__" := by decide) (hdb : (x == ("__debug__" : Str)) = false := by decide)
    (he : starEach (e :: es) X.env = (false, eval e X.env) :: starEach es X.env := by rfl) (hpl : (backTo pos (starEach es X.env)).any (·.1) = false := by rfl) : PED X fi fa (.Call (.Name x p) (e :: es) [] pos) (fCall g fs) := by
  obtain ⟨r, h1, h2⟩ := hc
  obtain ⟨u, q, w⟩ := ha
  exact ⟨_, pe_callB h1 hg hm hv q hn hdb he hpl, fun σ H S ρ P Q rr hf k => w σ H S ρ _ _ rr hf fun vs H1 S1 ds ρ1 hf1 r1 t1 d1 =>
    h2 vs ds S1 H1 _ Q r1.ex d1 hf1 fun v S2 H2 d hP g2 dd => k v H2 S2 d ρ1 hP (r1.grow g2) (t1.trans g2.tr) dd⟩
theorem pd_t (hc : CallD X (.type T) g) (hg : Gl X x) (hm : X.mg x = none) (ha : PAD X fi fa (e :: es) fs) (hv : bootBuiltins x = some (.type T) := by decide +kernel) (hn : x ≠ "__name__" := by decide) (hdb : (x == ("__debug__" : Str)) = false := by decide)
    (he : starEach (e :: es) X.env = (false, eval e X.env) :: starEach es X.env := by rfl) (hpl : (backTo pos (starEach es X.env)).any (·.1) = false := by rfl) : PED X fi fa (.Call (.Name x p) (e :: es) [] pos) (fCall g fs) := by
  obtain ⟨r, h1, h2⟩ := hc
  obtain ⟨u, q, w⟩ := ha
  exact ⟨_, pe_callTy h1 hg hm hv q hn hdb he hpl, fun σ H S ρ P Q rr hf k => w σ H S ρ _ _ rr hf fun vs H1 S1 ds ρ1 hf1 r1 t1 d1 =>
    h2 vs ds S1 H1 _ Q r1.ex d1 hf1 fun v S2 H2 d hP g2 dd => k v H2 S2 d ρ1 hP (r1.grow g2) (t1.trans g2.tr) dd⟩
theorem fresh_of {K : PySem.W.Frag} {σ : L2.St} {H0 H S H1 S1 : Hp} {ρ0 ρ : List Sl} {q : Addr} {o : HO} {d : D} (r : Rel K fi fa σ H S ρ) (t : Tr σ H0 S1 ρ0 σ H S ρ) (h0 : H q = none) (S2 H2 : Hp) (hs : S2 q = none) (h2 : H2 q = some o) (hd : HOD K S2 o d) : Fresh K σ H2 S2 ρ (Nw σ ρ0 H0) (.ref q) d := by
  refine ⟨q, o, rfl, .inl (t.dom q h0), hs, fun ⟨i, e, e1, e2⟩ => ?_, h2, hd⟩
  obtain ⟨q', u, e3, _, e4, _⟩ := r.own i e e1
  rw [e2] at e3
  cases e3
  rw [h0] at e4
  cases e4
theorem pf_b (hc : CallF X (.builtin id) g) (hg : Gl X x) (hm : X.mg x = none) (ha : PAD X fi fa (e :: es) fs) (hv : bootBuiltins x = some (.builtin id) := by decide +kernel) (hn : x ≠ "__name__" := by decide) (hdb : (x == ("__debug__" : Str)) = false := by decide)
    (he : starEach (e :: es) X.env = (false, eval e X.env) :: starEach es X.env := by rfl) (hpl : (backTo pos (starEach es X.env)).any (·.1) = false := by rfl) : PEF X fi fa (.Call (.Name x p) (e :: es) [] pos) (fCall g fs) := by
  obtain ⟨r, h1, h2⟩ := hc
  obtain ⟨u, q, w⟩ := ha
  exact ⟨_, pe_callB h1 hg hm hv q hn hdb he hpl, fun σ H S ρ P Q rr hf k => w σ H S ρ _ _ rr hf fun vs H1 S1 ds ρ1 hf1 r1 t1 d1 =>
    h2 vs ds S1 H1 _ Q r1.ex d1 hf1 fun p S2 H2 o d hP h0 g2 hs hh dd => k _ H2 S2 d ρ1 hP (r1.grow g2) (t1.trans g2.tr) (fresh_of (H1 := H1) r1 t1 h0 S2 H2 hs hh dd)⟩
theorem pf_t (hc : CallF X (.type T) g) (hg : Gl X x) (hm : X.mg x = none) (ha : PAD X fi fa (e :: es) fs) (hv : bootBuiltins x = some (.type T) := by decide +kernel) (hn : x ≠ "__name__" := by decide) (hdb : (x == ("__debug__" : Str)) = false := by decide)
    (he : starEach (e :: es) X.env = (false, eval e X.env) :: starEach es X.env := by rfl) (hpl : (backTo pos (starEach es X.env)).any (·.1) = false := by rfl) : PEF X fi fa (.Call (.Name x p) (e :: es) [] pos) (fCall g fs) := by
  obtain ⟨r, h1, h2⟩ := hc
  obtain ⟨u, q, w⟩ := ha
  exact ⟨_, pe_callTy h1 hg hm hv q hn hdb he hpl, fun σ H S ρ P Q rr hf k => w σ H S ρ _ _ rr hf fun vs H1 S1 ds ρ1 hf1 r1 t1 d1 =>
    h2 vs ds S1 H1 _ Q r1.ex d1 hf1 fun p S2 H2 o d hP h0 g2 hs hh dd => k _ H2 S2 d ρ1 hP (r1.grow g2) (t1.trans g2.tr) (fresh_of (H1 := H1) r1 t1 h0 S2 H2 hs hh dd)⟩
/-- a name's own object, handed on; the name is forgotten -/
def fVarF (i : Nat) : FE := fun ρ P => match ρ[i]? with
  | some (.own d) => P d (ρ.set i .non)
  | _ => False
theorem pf_v (i : Nat) {x : Str} (hN : X.N[i]? = some x := by rfl) (hv : Vis X.env.scope x := by first | exact Or.inl rfl | exact Or.inr (Or.inl rfl) | exact Or.inr (Or.inr rfl)) (hd : (x == ("__debug__" : Str)) = false := by decide)
    (hcd : (x == ("__classdict__" : Str)) = false := by decide) : PEF X fi fa (.Name x pos) (fVarF i) := by
  refine ⟨_, pv i hN hv hd hcd, fun σ H S ρ P Q r hf k => ?_⟩
  unfold fVarF at hf
  split at hf
  · rename_i d hd
    obtain ⟨p, o, e, hs, hp, ho⟩ := r.own i d hd
    have r' : Rel X.K fi fa σ H S (ρ.set i .non) := by
      refine ⟨r.ex, by rw [List.length_set]; exact r.len, fun j e' h => ?_, fun j e' h => ?_, fun j l e1 e2 q h1 h2 => ?_, r.fix⟩
      · have hj : j ≠ i := fun z => by subst z; have := get_set_eq h; cases this
        rw [get_set_ne hj] at h
        exact r.val j e' h
      · have hj : j ≠ i := fun z => by subst z; have := get_set_eq h; cases this
        rw [get_set_ne hj] at h
        exact r.own j e' h
      · have hj : j ≠ i := fun z => by subst z; have := get_set_eq h1; cases this
        have hl : l ≠ i := fun z => by subst z; have := get_set_eq h2; cases this
        rw [get_set_ne hj] at h1
        rw [get_set_ne hl] at h2
        exact r.dis j l e1 e2 q h1 h2
    refine ⟨_, e, k _ H S d _ hf r' ⟨Ex.refl S, fun _ _ h _ => h, fun a h => .inl (owned_set_non h), fun a h => .inl h, fun _ h => h⟩ ⟨p, o, rfl, .inr ⟨i, d, hd, e⟩, hs, fun ⟨j, e', h1, h2⟩ => ?_, hp, ho⟩⟩
    have hj : j ≠ i := fun z => by subst z; have := get_set_eq h1; cases this
    rw [get_set_ne hj] at h1
    exact hj (r.dis j i e' d p h1 hd h2 e)
  · exact hf.elim
end
end DL

/-! DL2: statements, targets, loops, comprehensions. -/
namespace DL
open PySem PySem.Spec PyProof.Rows L2

/-! ### one reading for all contexts -/
section
variable (K : PySem.W.Frag) (fi : List Nat) (fa : Nat → Addr)
def uE (f : FE) : TE := fun σ H Q => ∃ (S : Hp) (ρ : List Sl) (P : D → List Sl → Prop), Rel K fi fa σ H S ρ ∧ f ρ P ∧ ∀ v H' S' d ρ', P d ρ' → Rel K fi fa σ H' S' ρ' → Tr σ H S ρ σ H' S' ρ' → Den K S' v d → Q v H'
def uT (f : FT) : TT := fun σ H Q => ∃ (S : Hp) (ρ : List Sl) (P : Bool → List Sl → Prop), Rel K fi fa σ H S ρ ∧ f ρ P ∧ ∀ b H' S' ρ', P b ρ' → Rel K fi fa σ H' S' ρ' → Tr σ H S ρ σ H' S' ρ' → Q b H'
end
section
variable {X : Cx} {fi : List Nat} {fa : Nat → Addr} {e a b : Expr} {f fx fy : FE} {ft : FT} {pos : Pos}
theorem PED.uni (h : PED X fi fa e f) : PE X e (uE X.K fi fa f) := by
  obtain ⟨t, p, ok⟩ := h
  refine ⟨fun pins s σ H Q I hw => p.run pins s σ H Q I ?_⟩
  obtain ⟨S, ρ, P, r, hf, k⟩ := hw
  exact ok σ H S ρ P Q r hf k
theorem PTD.uni (h : PTD X fi fa e ft) : PT X e (uT X.K fi fa ft) := by
  obtain ⟨t, p, ok⟩ := h
  refine ⟨fun pins s σ H Q I hw => p.run pins s σ H Q I ?_⟩
  obtain ⟨S, ρ, P, r, hf, k⟩ := hw
  exact ok σ H S ρ P Q r hf k

/-! ### a scalar is reckoned and nothing is changed: what the def owns is read only -/
def frz : Sl → Sl
  | .own d => .val d
  | s => s
def scalD : D → Bool
  | .non => true | .bl _ => true | .int _ => true | .str _ => true | .ty _ => true | _ => false
def fPure (f : FE) : FE := fun ρ P => f (ρ.map frz) fun d _ => scalD d = true ∧ P d ρ
theorem den_scal {K : PySem.W.Frag} {S S' : Hp} {v : V} {d : D} (h : Den K S v d) (hs : scalD d = true) : Den K S' v d := by
  cases h with
  | non => exact .non
  | bl b => exact .bl b
  | int i => exact .int i
  | str x => exact .str x
  | ty n => exact .ty n
  | ref a => cases hs
  | tup _ _ => cases hs
  | lst _ _ => cases hs
  | rol _ _ => cases hs
  | dT _ _ _ => cases hs
  | dK _ _ _ => cases hs
  | obj _ _ _ => cases hs
/-- the stable heap with all that the slots own -/
noncomputable def allS (σ : L2.St) (ρ : List Sl) (S H : Hp) : Hp := fun a => open Classical in if Owned σ ρ a then H a else S a
theorem rel_frz {K : PySem.W.Frag} {σ : L2.St} {H S : Hp} {ρ : List Sl} (r : Rel K fi fa σ H S ρ) : Rel K fi fa σ H (allS σ ρ S H) (ρ.map frz) := by
  have e1 : Ex S (allS σ ρ S H) := fun a o h => by
    unfold allS
    by_cases ho : Owned σ ρ a
    · rw [if_pos ho]; exact r.ex a o h
    · rw [if_neg ho]; exact h
  refine ⟨fun a o h => ?_, by rw [List.length_map]; exact r.len, fun i d h => ?_, fun i d h => ?_, fun i j d e p h => ?_, r.fix⟩
  · unfold allS at h
    by_cases ho : Owned σ ρ a
    · rw [if_pos ho] at h; exact h
    · rw [if_neg ho] at h; exact r.ex a o h
  · rw [List.getElem?_map] at h
    cases hρ : ρ[i]? with
    | none => rw [hρ] at h; cases h
    | some s =>
      rw [hρ] at h
      cases s with
      | non => cases h
      | val d' =>
        cases h
        obtain ⟨v, q1, q2⟩ := r.val i d hρ
        exact ⟨v, q1, q2.mono e1⟩
      | own d' =>
        cases h
        obtain ⟨p, o, q1, q2, q3, q4⟩ := r.own i d hρ
        refine ⟨_, q1, (q4.mono e1).den ?_⟩
        unfold allS
        rw [if_pos ⟨i, d, hρ, q1⟩]; exact q3
  · rw [List.getElem?_map] at h
    cases hρ : ρ[i]? with
    | none => rw [hρ] at h; cases h
    | some s => rw [hρ] at h; cases s <;> cases h
  · rw [List.getElem?_map] at h
    cases hρ : ρ[i]? with
    | none => rw [hρ] at h; cases h
    | some s => rw [hρ] at h; cases s <;> cases h
theorem no_owned {σ : L2.St} {ρ : List Sl} {a : Addr} (h : Owned σ (ρ.map frz) a) : False := by
  obtain ⟨i, d, h, _⟩ := h
  rw [List.getElem?_map] at h
  cases hρ : ρ[i]? with
  | none => rw [hρ] at h; cases h
  | some s => rw [hρ] at h; cases s <;> cases h
theorem pd_pure (h : PED X fi fa e f) : PED X fi fa e (fPure f) := by
  obtain ⟨t, p, ok⟩ := h
  refine ⟨t, p, fun σ H S ρ P Q r hf k => ok σ H (allS σ ρ S H) (ρ.map frz) _ Q (rel_frz r) hf fun v H' S' d ρ' ⟨hs, hP⟩ r' tr den => ?_⟩
  have g : Gr S H S H' := ⟨Ex.refl S, fun a o h => tr.keep a o h no_owned, fun a o h => tr.keep a o (r.ex a o h) no_owned, fun _ h => .inl h⟩
  exact k v H' S d ρ hP (r.grow g) g.tr (den_scal den hs)
def fPureT (f : FT) : FT := fun ρ P => f (ρ.map frz) fun b _ => P b ρ
theorem pt_pure (h : PTD X fi fa e ft) : PTD X fi fa e (fPureT ft) := by
  obtain ⟨t, p, ok⟩ := h
  refine ⟨t, p, fun σ H S ρ P Q r hf k => ok σ H (allS σ ρ S H) (ρ.map frz) _ Q (rel_frz r) hf fun v H' S' ρ' hP r' tr => ?_⟩
  have g : Gr S H S H' := ⟨Ex.refl S, fun a o h => tr.keep a o h no_owned, fun a o h => tr.keep a o (r.ex a o h) no_owned, fun _ h => .inl h⟩
  exact k v H' S ρ hP (r.grow g) g.tr
end

/-! ### stores to slots -/
section
variable {K : PySem.W.Frag} {fi : List Nat} {fa : Nat → Addr} {σ : L2.St} {H S : Hp} {ρ : List Sl}
theorem Rel.storeVal {i : Nat} {v : V} {d : D} (r : Rel K fi fa σ H S ρ) (hd : Den K S v d) (hi : i ∉ fi) : Rel K fi fa (σ.set i (some v)) H S (ρ.set i (.val d)) where
  ex := r.ex
  len := by rw [List.length_set, List.length_set]; exact r.len
  val := fun j e h => by
    by_cases hj : j = i
    · subst hj
      have := get_set_eq h
      cases this
      refine ⟨v, ?_, hd⟩
      have hl : j < ρ.length := by
        have := (List.getElem?_eq_some_iff.mp h).1
        rw [List.length_set] at this; exact this
      rw [List.getElem?_set_self (by rw [← r.len]; exact hl)]
    · rw [get_set_ne hj] at h
      rw [get_set_ne hj]; exact r.val j e h
  own := fun j e h => by
    have hj : j ≠ i := fun z => by subst z; have := get_set_eq h; cases this
    rw [get_set_ne hj] at h
    rw [get_set_ne hj]; exact r.own j e h
  dis := fun j k e f p h1 h2 h3 h4 => by
    have hj : j ≠ i := fun z => by subst z; have := get_set_eq h1; cases this
    have hk : k ≠ i := fun z => by subst z; have := get_set_eq h2; cases this
    rw [get_set_ne hj] at h1 h3
    rw [get_set_ne hk] at h2 h4
    exact r.dis j k e f p h1 h2 h3 h4
  fix := fun j hj => by
    have : j ≠ i := fun z => hi (z ▸ hj)
    rw [get_set_ne this]; exact r.fix j hj
theorem Tr.storeVal {i : Nat} {v : V} {d : D} : Tr σ H S ρ (σ.set i (some v)) H S (ρ.set i (.val d)) :=
  ⟨Ex.refl S, fun _ _ h _ => h, fun a ⟨j, e, h1, h2⟩ => by
    have hj : j ≠ i := fun z => by subst z; have := get_set_eq h1; cases this
    rw [get_set_ne hj] at h1 h2
    exact .inl ⟨j, e, h1, h2⟩, fun _ h => .inl h, fun _ h => h⟩
theorem Rel.storeOwn {i : Nat} {v : V} {d : D} {W : Addr → Prop} (r : Rel K fi fa σ H S ρ) (hd : Fresh K σ H S ρ W v d) (hi : i ∉ fi) : Rel K fi fa (σ.set i (some v)) H S (ρ.set i (.own d)) := by
  obtain ⟨p, o, rfl, h0, hs, no, hp, ho⟩ := hd
  refine ⟨r.ex, by rw [List.length_set, List.length_set]; exact r.len, fun j e h => ?_, fun j e h => ?_, fun j k e f q h1 h2 h3 h4 => ?_, fun j hj => ?_⟩
  · have hj : j ≠ i := fun z => by subst z; have := get_set_eq h; cases this
    rw [get_set_ne hj] at h
    rw [get_set_ne hj]; exact r.val j e h
  · by_cases hj : j = i
    · subst hj
      have := get_set_eq h
      cases this
      have hl : j < ρ.length := by
        have := (List.getElem?_eq_some_iff.mp h).1
        rw [List.length_set] at this; exact this
      exact ⟨p, o, List.getElem?_set_self (by rw [← r.len]; exact hl), hs, hp, ho⟩
    · rw [get_set_ne hj] at h
      rw [get_set_ne hj]; exact r.own j e h
  · by_cases hj : j = i
    · by_cases hk : k = i
      · rw [hj, hk]
      · subst hj
        rw [get_set_ne hk] at h2 h4
        have : some (some (V.ref q)) = some (some (V.ref p)) := by
          rw [← h3]
          have hl : j < σ.length := by
            have := (List.getElem?_eq_some_iff.mp h3).1
            rw [List.length_set] at this; exact this
          exact List.getElem?_set_self hl
        cases this
        exact (no ⟨k, f, h2, h4⟩).elim
    · by_cases hk : k = i
      · subst hk
        rw [get_set_ne hj] at h1 h3
        have : some (some (V.ref q)) = some (some (V.ref p)) := by
          rw [← h4]
          have hl : k < σ.length := by
            have := (List.getElem?_eq_some_iff.mp h4).1
            rw [List.length_set] at this; exact this
          exact List.getElem?_set_self hl
        cases this
        exact (no ⟨j, e, h1, h3⟩).elim
      · rw [get_set_ne hj] at h1 h3
        rw [get_set_ne hk] at h2 h4
        exact r.dis j k e f q h1 h2 h3 h4
  · have : j ≠ i := fun z => hi (z ▸ hj)
    rw [get_set_ne this]; exact r.fix j hj
theorem Tr.storeOwn {i : Nat} {v : V} {d : D} {σ0 : L2.St} {H0 S0 : Hp} {ρ0 : List Sl} (t : Tr σ0 H0 S0 ρ0 σ H S ρ) (hd : Fresh K σ H S ρ (Nw σ0 ρ0 H0) v d) : Tr σ0 H0 S0 ρ0 (σ.set i (some v)) H S (ρ.set i (.own d)) :=
  ⟨t.exS, t.keep, fun a ⟨j, e, h1, h2⟩ => by
    by_cases hj : j = i
    · subst hj
      obtain ⟨p, o, rfl, h0, _⟩ := hd
      have hl : j < σ.length := by
        have := (List.getElem?_eq_some_iff.mp h2).1
        rw [List.length_set] at this; exact this
      rw [List.getElem?_set_self hl] at h2
      cases h2
      exact h0.symm
    · rw [get_set_ne hj] at h1 h2
      exact t.owned a ⟨j, e, h1, h2⟩, t.new, t.dom⟩
/-- an owned object is changed -/
theorem Rel.upd {i : Nat} {p : Addr} {o' : HO} {d d' : D} (r : Rel K fi fa σ H S ρ) (hi : ρ[i]? = some (.own d)) (hp : σ[i]? = some (some (.ref p))) (ho : HOD K S o' d') : Rel K fi fa σ (upd H p o') S (ρ.set i (.own d')) := by
  have sp : S p = none := by
    obtain ⟨q, o, e, hs, _⟩ := r.own i d hi
    rw [hp] at e; cases e; exact hs
  refine ⟨fun a u h => ?_, by rw [List.length_set]; exact r.len, fun j e h => ?_, fun j e h => ?_, fun j k e f q h1 h2 h3 h4 => ?_, r.fix⟩
  · have : a ≠ p := fun z => by subst z; rw [sp] at h; cases h
    rw [upd_ne this]; exact r.ex a u h
  · have hj : j ≠ i := fun z => by subst z; have := get_set_eq h; cases this
    rw [get_set_ne hj] at h
    exact r.val j e h
  · by_cases hj : j = i
    · subst hj
      have := get_set_eq h
      cases this
      exact ⟨p, o', hp, sp, upd_same, ho⟩
    · rw [get_set_ne hj] at h
      obtain ⟨q, u, e1, e2, e3, e4⟩ := r.own j e h
      have : q ≠ p := fun z => hj (r.dis j i e d p h hi (by rw [e1, z]) hp)
      exact ⟨q, u, e1, e2, by rw [upd_ne this]; exact e3, e4⟩
  · have o1 : ∃ e', ρ[j]? = some (.own e') := by
      by_cases hj : j = i
      · subst hj; exact ⟨d, hi⟩
      · rw [get_set_ne hj] at h1; exact ⟨e, h1⟩
    have o2 : ∃ e', ρ[k]? = some (.own e') := by
      by_cases hk : k = i
      · subst hk; exact ⟨d, hi⟩
      · rw [get_set_ne hk] at h2; exact ⟨f, h2⟩
    obtain ⟨e1, g1⟩ := o1
    obtain ⟨e2, g2⟩ := o2
    exact r.dis j k e1 e2 q g1 g2 h3 h4
theorem Tr.upd {i : Nat} {p : Addr} {o' : HO} {d d' : D} (hi : ρ[i]? = some (.own d)) (hp : σ[i]? = some (some (.ref p))) : Tr σ H S ρ σ (L2.upd H p o') S (ρ.set i (.own d')) :=
  ⟨Ex.refl S, fun a o h n => by
    have : a ≠ p := fun z => by subst z; exact n ⟨i, d, hi, hp⟩
    rw [upd_ne this]; exact h, fun a ⟨j, e, h1, h2⟩ => by
    by_cases hj : j = i
    · subst hj; exact .inl ⟨j, d, hi, h2⟩
    · rw [get_set_ne hj] at h1; exact .inl ⟨j, e, h1, h2⟩, fun _ h => .inl h, fun a h => by
    by_cases ha : a = p
    · subst ha; rw [upd_same] at h; cases h
    · rw [upd_ne ha] at h; exact h⟩
theorem fresh_lt {i j : Nat} (h : fi.contains i = false) : i ∉ fi := fun z => by
  have : fi.contains i = true := List.contains_iff_mem.mpr z
  rw [h] at this; cases this
end

/-! ### statements -/
section
variable {X : Cx} {fi : List Nat} {fa : Nat → Addr} {e a b : Expr} {f fx fy : FE} {ft : FT} {pos : Pos} {st : Stmt} {sts : List Stmt} {F G : FS}
section
variable {K : PySem.W.Frag} {σ σ1 : L2.St} {H S H1 S1 : Hp} {ρ ρ1 : List Sl} {P : Fl → Prop} {E : Ends}
theorem Fresh.back {σ' : L2.St} {H' S' : Hp} {ρ' : List Sl} {v : V} {d : D} (h : Fresh K σ' H' S' ρ' (Nw σ1 ρ1 H1) v d) (t : Tr σ H S ρ σ1 H1 S1 ρ1) : Fresh K σ' H' S' ρ' (Nw σ ρ H) v d := by
  obtain ⟨p, o, e, h0, r⟩ := h
  exact ⟨p, o, e, h0.elim (fun z => .inl (t.dom p z)) fun z => (t.owned p z).symm, r⟩
theorem Beh.after (k : Beh K fi fa σ H S ρ P E) (t : Tr σ H S ρ σ1 H1 S1 ρ1) : Beh K fi fa σ1 H1 S1 ρ1 P E :=
  ⟨fun σ' H' S' ρ' hP r' t' => k.1 σ' H' S' ρ' hP r' (t.trans t'), fun σ' H' S' ρ' hP r' t' => k.2.1 σ' H' S' ρ' hP r' (t.trans t'), fun σ' H' S' ρ' hP r' t' => k.2.2.1 σ' H' S' ρ' hP r' (t.trans t'),
    fun v d σ' H' S' ρ' hP r' t' hd => k.2.2.2.1 v d σ' H' S' ρ' hP r' (t.trans t') hd, fun v d σ' H' S' ρ' hP r' t' hd => k.2.2.2.2 v d σ' H' S' ρ' hP r' (t.trans t') (hd.back t)⟩
end
def fNext : FS := fun ρ P => P (.nx ρ)
def andThen (F : FS) (P : Fl → Prop) : Fl → Prop
  | .nx ρ => F ρ P
  | fl => P fl
def fSeq (F G : FS) : FS := fun ρ P => F ρ (andThen G P)
theorem pssd_nil : PSsD X fi fa [] fNext := ⟨_, pss_nil, fun σ H S ρ P E r hf k => k.1 σ H S ρ hf r (Tr.refl _ _ _ _)⟩
theorem pssd_cons (h1 : PSD X fi fa st F) (h2 : PSsD X fi fa sts G) : PSsD X fi fa (st :: sts) (fSeq F G) := by
  obtain ⟨t, p, ok⟩ := h1
  obtain ⟨u, q, ok2⟩ := h2
  refine ⟨_, pss_cons p q, fun σ H S ρ P E r hf k => ok σ H S ρ _ _ r hf ⟨fun σ' H' S' ρ' hP r' t' => ok2 σ' H' S' ρ' P E r' hP (k.after t'), ?_, ?_, ?_, ?_⟩⟩
  · exact fun σ' H' S' ρ' hP r' t' => k.2.1 σ' H' S' ρ' hP r' t'
  · exact fun σ' H' S' ρ' hP r' t' => k.2.2.1 σ' H' S' ρ' hP r' t'
  · exact fun v d σ' H' S' ρ' hP r' t' hd => k.2.2.2.1 v d σ' H' S' ρ' hP r' t' hd
  · exact fun v d σ' H' S' ρ' hP r' t' hd => k.2.2.2.2 v d σ' H' S' ρ' hP r' t' hd
theorem pssd_one (h1 : PSD X fi fa st F) : PSsD X fi fa [st] F := by
  obtain ⟨t, p, ok⟩ := h1
  exact ⟨_, pss_one p, ok⟩
def fBrk : FS := fun ρ P => P (.bk ρ)
def fCnt : FS := fun ρ P => P (.ct ρ)
theorem psd_pass : PSD X fi fa (.Pass pos) fNext := ⟨_, ps_pass, fun σ H S ρ P E r hf k => k.1 σ H S ρ hf r (Tr.refl _ _ _ _)⟩
theorem psd_break : PSD X fi fa (.Break pos) fBrk := ⟨_, ps_break, fun σ H S ρ P E r hf k => k.2.1 σ H S ρ hf r (Tr.refl _ _ _ _)⟩
theorem psd_cont : PSD X fi fa (.Continue pos) fCnt := ⟨_, ps_continue, fun σ H S ρ P E r hf k => k.2.2.1 σ H S ρ hf r (Tr.refl _ _ _ _)⟩
theorem psd_doc {x j pos pos'} : PSD X fi fa (.Expr (.Constant (.str x) j pos) pos') fNext := ⟨_, ps_doc, fun σ H S ρ P E r hf k => k.1 σ H S ρ hf r (Tr.refl _ _ _ _)⟩
def fDrop (f : FE) : FS := fun ρ P => f ρ fun _ ρ1 => P (.nx ρ1)
theorem psd_expr (h : PED X fi fa e f) (hs : swapsWith e none pos.line X.env = pure false := by rfl) : PSD X fi fa (.Expr e pos) (fDrop f) := by
  obtain ⟨t, p, ok⟩ := h
  exact ⟨_, ps_expr p hs, fun σ H S ρ P E r hf k => ok σ H S ρ _ _ r hf fun v H' S' d ρ' hP r' t' _ => k.1 σ H' S' ρ' hP r' t'⟩
def fRet (f : FE) : FS := fun ρ P => f ρ fun d ρ1 => P (.rt d ρ1)
def fRetF (f : FE) : FS := fun ρ P => f ρ fun d ρ1 => P (.rf d ρ1)
theorem psd_ret (h : PED X fi fa e f) : PSD X fi fa (.Return (some e) pos) (fRet f) := by
  obtain ⟨t, p, ok⟩ := h
  exact ⟨_, ps_ret p, fun σ H S ρ P E r hf k => ok σ H S ρ _ _ r hf fun v H' S' d ρ' hP r' t' hd => k.2.2.2.1 v d σ H' S' ρ' hP r' t' hd⟩
theorem psd_retF (h : PEF X fi fa e f) : PSD X fi fa (.Return (some e) pos) (fRetF f) := by
  obtain ⟨t, p, ok⟩ := h
  exact ⟨_, ps_ret p, fun σ H S ρ P E r hf k => ok σ H S ρ _ _ r hf fun v H' S' d ρ' hP r' t' hd => k.2.2.2.2 v d σ H' S' ρ' hP r' t' hd⟩
def fRetN : FS := fun ρ P => P (.rt .non ρ)
theorem psd_retN : PSD X fi fa (.Return none pos) fRetN := ⟨_, ps_retN, fun σ H S ρ P E r hf k => k.2.2.2.1 _ _ σ H S ρ hf r (Tr.refl _ _ _ _) .non⟩
def fIfS (t : FT) (F G : FS) : FS := fun ρ P => t ρ fun b ρ1 => if b = true then F ρ1 P else G ρ1 P
theorem psd_if {c : Expr} {u v : List Stmt} (h0 : PTD X fi fa c ft) (h1 : PSsD X fi fa u F) (h2 : PSsD X fi fa v G) : PSD X fi fa (.If c u v pos) (fIfS ft F G) := by
  obtain ⟨t, p, ok⟩ := h0
  obtain ⟨t1, p1, ok1⟩ := h1
  obtain ⟨t2, p2, ok2⟩ := h2
  refine ⟨_, ps_if p p1 p2, fun σ H S ρ P E r hf k => ok σ H S ρ _ _ r hf fun c H' S' ρ' hP r' t' => ?_⟩
  cases c with
  | true => exact iteT (ok1 σ H' S' ρ' P E r' (by simpa using hP) (k.after t'))
  | false => exact iteF (ok2 σ H' S' ρ' P E r' (by simpa using hP) (k.after t'))
def fSet (i : Nat) (f : FE) : FS := fun ρ P => f ρ fun d ρ1 => P (.nx (ρ1.set i (.val d)))
def fSetF (i : Nat) (f : FE) : FS := fun ρ P => f ρ fun d ρ1 => P (.nx (ρ1.set i (.own d)))
theorem psd_set (i : Nat) {x : Str} {pos' : Pos} (h : PED X fi fa e f) (hN : X.N.Nodup) (hi : X.N[i]? = some x := by rfl) (hx : Loc X.env.scope x := by first | exact Or.inl rfl | exact Or.inr rfl) (hf : fi.contains i = false := by rfl) (hs : swapsWith e (some (.Name x pos')) pos.line X.env = pure false := by rfl)
    (hfn : X.fn x = true ∨ X.env.scope.names.lookup x = some .local := by first | exact .inl rfl | exact .inr rfl) : PSD X fi fa (.Assign [.Name x pos'] e pos) (fSet i f) := by
  obtain ⟨t, p, ok⟩ := h
  exact ⟨_, ps_set hN hi hx p hs hfn, fun σ H S ρ P E r h k => ok σ H S ρ _ _ r h fun v H' S' d ρ' hP r' t' hd => k.1 _ H' S' _ hP (r'.storeVal hd (fresh_lt (j := 0) hf)) (t'.trans Tr.storeVal)⟩
theorem psd_setF (i : Nat) {x : Str} {pos' : Pos} (h : PEF X fi fa e f) (hN : X.N.Nodup) (hi : X.N[i]? = some x := by rfl) (hx : Loc X.env.scope x := by first | exact Or.inl rfl | exact Or.inr rfl) (hf : fi.contains i = false := by rfl) (hs : swapsWith e (some (.Name x pos')) pos.line X.env = pure false := by rfl)
    (hfn : X.fn x = true ∨ X.env.scope.names.lookup x = some .local := by first | exact .inl rfl | exact .inr rfl) : PSD X fi fa (.Assign [.Name x pos'] e pos) (fSetF i f) := by
  obtain ⟨t, p, ok⟩ := h
  exact ⟨_, ps_set hN hi hx p hs hfn, fun σ H S ρ P E r h k => ok σ H S ρ _ _ r h fun v H' S' d ρ' hP r' t' hd => k.1 _ H' S' _ hP (r'.storeOwn hd (fresh_lt (j := 0) hf)) (t'.storeOwn hd)⟩

/-! ### targets -/
abbrev FG := D → List Sl → (List Sl → Prop) → Prop
abbrev FGs := List D → List Sl → (List Sl → Prop) → Prop
def SameBut (ws : List Nat) (σ σ' : L2.St) : Prop := σ'.length = σ.length ∧ ∀ j, j ∉ ws → σ'[j]? = σ[j]?
def OkG (K : PySem.W.Frag) (fi : List Nat) (fa : Nat → Addr) (ws : List Nat) (g : TG) (f : FG) : Prop := ∀ (σ : L2.St) (H S : Hp) (ρ : List Sl) (v : V) (d : D) (P : List Sl → Prop) (Q : L2.St → Hp → Prop), Rel K fi fa σ H S ρ → Den K S v d → f d ρ P →
  (∀ σ' H' S' ρ', P ρ' → Rel K fi fa σ' H' S' ρ' → Tr σ H S ρ σ' H' S' ρ' → SameBut ws σ σ' → Q σ' H') → g v σ H Q
def OkGs (K : PySem.W.Frag) (fi : List Nat) (fa : Nat → Addr) (ws : List Nat) (g : TGs) (f : FGs) : Prop := ∀ (σ : L2.St) (H S : Hp) (ρ : List Sl) (vs : List V) (ds : List D) (P : List Sl → Prop) (Q : L2.St → Hp → Prop), Rel K fi fa σ H S ρ → Dens K S vs ds → f ds ρ P →
  (∀ σ' H' S' ρ', P ρ' → Rel K fi fa σ' H' S' ρ' → Tr σ H S ρ σ' H' S' ρ' → SameBut ws σ σ' → Q σ' H') → g vs σ H Q
def PGD (X : Cx) (fi : List Nat) (fa : Nat → Addr) (tg : Expr) (ws : List Nat) (f : FG) : Prop := ∃ g, PG X tg g ∧ OkG X.K fi fa ws g f
def PGsD (X : Cx) (fi : List Nat) (fa : Nat → Addr) (tg : List Expr) (ws : List Nat) (f : FGs) : Prop := ∃ g, PGs X tg g ∧ OkGs X.K fi fa ws g f
def gdName (i : Nat) : FG := fun d ρ P => P (ρ.set i (.val d))
theorem pgd_name (i : Nat) {x : Str} (hN : X.N.Nodup) (hi : X.N[i]? = some x := by rfl) (hx : Loc X.env.scope x := by first | exact Or.inl rfl | exact Or.inr rfl) (hf : fi.contains i = false := by rfl)
    (hfn : X.fn x = true ∨ X.env.scope.names.lookup x = some .local := by first | exact .inl rfl | exact .inr rfl) : PGD X fi fa (.Name x pos) [i] (gdName i) :=
  ⟨_, pg_name hN hi hx hfn, fun σ H S ρ v d P Q r hd hP k => k _ H S _ hP (r.storeVal hd (fresh_lt (j := 0) hf)) Tr.storeVal ⟨List.length_set, fun j hj => get_set_ne (fun z => hj (by simp [z]))⟩⟩
def gdNil : FGs := fun ds ρ P => ds = [] ∧ P ρ
def gdCons (f : FG) (fs : FGs) : FGs := fun ds ρ P => ∃ d r, ds = d :: r ∧ f d ρ fun ρ1 => fs r ρ1 P
theorem pgsd_nil : PGsD X fi fa [] [] gdNil := ⟨_, pgs_nil, fun σ H S ρ vs ds P Q r hd hP k => by
  obtain ⟨rfl, hP⟩ := hP
  cases hd
  exact ⟨rfl, k σ H S ρ hP r (Tr.refl _ _ _ _) ⟨rfl, fun _ _ => rfl⟩⟩⟩
theorem pgsd_cons {es : List Expr} {ws us : List Nat} {f : FG} {fs : FGs} (h1 : PGD X fi fa e ws f) (h2 : PGsD X fi fa es us fs)
    (hs : (assignEach (e :: es) X.env).map (·.2) = assign e X.env :: (assignEach es X.env).map (·.2) := by rfl) : PGsD X fi fa (e :: es) (ws ++ us) (gdCons f fs) := by
  obtain ⟨g, p, ok⟩ := h1
  obtain ⟨gs, q, ok2⟩ := h2
  refine ⟨_, pgs_cons p q hs, fun σ H S ρ vs ds P Q r hd hP k => ?_⟩
  obtain ⟨d, rs, rfl, hP⟩ := hP
  cases hd with
  | cons h t =>
    refine ⟨_, _, rfl, ok σ H S ρ _ d _ _ r h hP fun σ' H' S' ρ' hP' r' t' sb => ok2 σ' H' S' ρ' _ rs P _ r' (t.mono t'.exS) hP' fun σ2 H2 S2 ρ2 hP2 r2 t2 sb2 => k σ2 H2 S2 ρ2 hP2 r2 (t'.trans t2) ⟨sb2.1.trans sb.1, fun j hj => ?_⟩⟩
    rw [List.mem_append] at hj
    rw [sb2.2 j (fun z => hj (.inr z)), sb.2 j (fun z => hj (.inl z))]
def gdTup (n : Nat) (fs : FGs) : FG := fun d ρ P => match d with
  | .tup ds => ds.length = n ∧ fs ds ρ P
  | _ => False
theorem pgd_tup {es : List Expr} {n k : Nat} {ws : List Nat} {fs : FGs} (hc : X.calm = true) (h : PGsD X fi fa es ws fs)
    (hn : (assignEach es X.env).length = n := by rfl) (hst : (assignEach es X.env).findIdx? (·.1) = none := by rfl) : PGD X fi fa (.Tuple es k pos) ws (gdTup n fs) := by
  obtain ⟨g, p, ok⟩ := h
  refine ⟨_, pg_tup hc p hn hst, fun σ H S ρ v d P Q r hd hP kk => ?_⟩
  unfold gdTup at hP
  split at hP
  · obtain ⟨a, xs, rfl, hS, hx⟩ := den_tup hd
    exact ⟨a, xs, rfl, SqT.of (r.ex _ _ hS), by rw [hx.length]; exact hP.1, ok σ H S ρ xs _ P Q r hx hP.2 kk⟩
  · exact hP.elim
end
end DL

/-! DL3: what is walked, for, comprehensions, defs and their calls. -/
namespace DL
open PySem PySem.Spec PyProof.Rows L2

/-! ### what is walked -/
abbrev FI := List Sl → (List D → List Sl → Prop) → Prop
def ItD (K : PySem.W.Frag) (J : It) (S : Hp) (ds : List D) : Prop := ∀ (i : Nat) (S' H' : Hp), Ex S S' → Ex S' H' →
  (ds.length ≤ i → J.stop i H') ∧ ∀ d, ds[i]? = some d → J.go i H' ∧ ∀ x H'', J.yld i H' x H'' → ∃ S'', Gr S' H' S'' H'' ∧ Den K S'' x d
def OkI (K : PySem.W.Frag) (fi : List Nat) (fa : Nat → Addr) (ti : TI) (f : FI) : Prop := ∀ (σ : L2.St) (H S : Hp) (ρ : List Sl) (P : List D → List Sl → Prop) (R : It → Hp → Prop), Rel K fi fa σ H S ρ → f ρ P →
  (∀ J H' S' ds ρ', P ds ρ' → Rel K fi fa σ H' S' ρ' → Tr σ H S ρ σ H' S' ρ' → ItD K J S' ds → R J H') → ti σ H R
def PID (X : Cx) (fi : List Nat) (fa : Nat → Addr) (tg e : Expr) (f : FI) : Prop := ∃ t, PI X tg e t ∧ OkI X.K fi fa t f

section
variable {X : Cx} {fi : List Nat} {fa : Nat → Addr} {e a b tg iter : Expr} {f fx fy : FE} {ft : FT} {pos : Pos} {st : Stmt} {sts : List Stmt} {F G : FS}
/-- the items of a list or a tuple -/
def seqD (d : D) (P : List D → Prop) : Prop := match d with
  | .lst ds => P ds
  | .tup ds => P ds
  | _ => False
def fSeqI (f : FE) : FI := fun ρ P => f ρ fun d ρ1 => seqD d fun ds => P ds ρ1
theorem itd_list {K : PySem.W.Frag} {S : Hp} {a : Addr} {xs : List V} {ds : List D} (h : SqL K S a xs) (hd : Dens K S xs ds) : ItD K (Itl K a) S ds := fun i S' H' e1 e2 =>
  ⟨fun hl => ⟨xs, (e1.trans e2).l h, by rw [hd.length]; exact hl⟩, fun d he => by
    obtain ⟨v, hv, den⟩ := hd.get he
    refine ⟨⟨xs, v, (e1.trans e2).l h, hv⟩, fun x H'' ⟨e, hx⟩ => ?_⟩
    subst e
    have := hx xs ((e1.trans e2).l h)
    rw [hv] at this
    cases this
    exact ⟨S', Gr.refl e2, den.mono e1⟩⟩
theorem itd_tup {K : PySem.W.Frag} {S : Hp} {a : Addr} {xs : List V} {ds : List D} (h : SqT K S a xs) (hd : Dens K S xs ds) : ItD K (Itt K a) S ds := fun i S' H' e1 e2 =>
  ⟨fun hl => ⟨xs, (e1.trans e2).t h, by rw [hd.length]; exact hl⟩, fun d he => by
    obtain ⟨v, hv, den⟩ := hd.get he
    refine ⟨⟨xs, v, (e1.trans e2).t h, hv⟩, fun x H'' ⟨e, hx⟩ => ?_⟩
    subst e
    have := hx xs ((e1.trans e2).t h)
    rw [hv] at this
    cases this
    exact ⟨S', Gr.refl e2, den.mono e1⟩⟩
def lstD (d : D) (P : List D → Prop) : Prop := match d with
  | .lst ds => P ds
  | .rol ds => P ds
  | _ => False
def tupD (d : D) (P : List D → Prop) : Prop := match d with
  | .tup ds => P ds
  | _ => False
theorem lstD_inv {d : D} {P : List D → Prop} (h : lstD d P) : ∃ ds, (d = .lst ds ∨ d = .rol ds) ∧ P ds := by
  unfold lstD at h
  split at h
  · exact ⟨_, .inl rfl, h⟩
  · exact ⟨_, .inr rfl, h⟩
  · exact h.elim
theorem den_lstR {K : PySem.W.Frag} {S : Hp} {v : V} {d : D} {ds : List D} (e : d = .lst ds ∨ d = .rol ds) (h : Den K S v d) : ∃ a xs, v = .ref a ∧ SqL K S a xs ∧ Dens K S xs ds := by
  rcases e with rfl | rfl
  · obtain ⟨a, xs, e, h1, h2⟩ := den_lst h
    exact ⟨a, xs, e, SqL.of h1, h2⟩
  · exact den_rol h
theorem tupD_inv {d : D} {P : List D → Prop} (h : tupD d P) : ∃ ds, d = .tup ds ∧ P ds := by
  unfold tupD at h
  split at h
  · exact ⟨_, rfl, h⟩
  · exact h.elim
def fLstI (f : FE) : FI := fun ρ P => f ρ fun d ρ1 => lstD d fun ds => P ds ρ1
def fTupI (f : FE) : FI := fun ρ P => f ρ fun d ρ1 => tupD d fun ds => P ds ρ1
theorem pid_l (h : PED X fi fa e f) : PID X fi fa tg e (fLstI f) := by
  obtain ⟨t, p, ok⟩ := h
  refine ⟨_, pi_list p, fun σ H S ρ P R r hf k => ok σ H S ρ _ _ r hf fun v H' S' d ρ' hP r' t' hd => ?_⟩
  obtain ⟨ds, ed, hP⟩ := lstD_inv hP
  obtain ⟨a, xs, rfl, h1, h2⟩ := den_lstR ed hd
  exact ⟨a, rfl, ⟨xs, r'.ex.l h1⟩, k _ H' S' _ ρ' hP r' t' (itd_list h1 h2)⟩
theorem pid_t (h : PED X fi fa e f) : PID X fi fa tg e (fTupI f) := by
  obtain ⟨t, p, ok⟩ := h
  refine ⟨_, pi_tup p, fun σ H S ρ P R r hf k => ok σ H S ρ _ _ r hf fun v H' S' d ρ' hP r' t' hd => ?_⟩
  obtain ⟨ds, rfl, hP⟩ := tupD_inv hP
  obtain ⟨a, xs, rfl, h1, h2⟩ := den_tup hd
  exact ⟨a, rfl, ⟨xs, SqT.of (r'.ex _ _ h1)⟩, k _ H' S' _ ρ' hP r' t' (itd_tup (SqT.of h1) h2)⟩
/-- range(n), range(a, b) -/
def rangeD (lo : Int) (n : Nat) : List D := (List.range n).map fun i => .int (lo + (i : Nat))
theorem itd_range {K : PySem.W.Frag} {S : Hp} {lo : Int} {n : Nat} : ItD K (Itr lo n) S (rangeD lo n) := fun i S' H' e1 e2 =>
  ⟨fun hl => by
    have : (rangeD lo n).length = n := by unfold rangeD; rw [List.length_map, List.length_range]
    show n ≤ i
    omega, fun d he => by
    unfold rangeD at he
    rw [List.getElem?_map] at he
    have hi : i < n := by
      cases q : (List.range n)[i]? with
      | none => rw [q] at he; cases he
      | some j =>
        have := (List.getElem?_eq_some_iff.mp q).1
        rw [List.length_range] at this; exact this
    rw [List.getElem?_range hi] at he
    cases he
    refine ⟨hi, fun x H'' ⟨e, hx⟩ => ?_⟩
    subst e
    subst hx
    exact ⟨S', Gr.refl e2, .int _⟩⟩
def intsD : List D → (List Int → Prop) → Prop
  | [], P => P []
  | .int i :: ds, P => intsD ds fun is => P (i :: is)
  | _, _ => False
theorem intsD_inv {K : PySem.W.Frag} {S : Hp} : ∀ {ds : List D} {P : List Int → Prop} {vs : List V}, intsD ds P → Dens K S vs ds → ∃ is, vs = is.map V.int ∧ ds = is.map D.int ∧ P is
  | [], P, _, h, .nil => ⟨[], rfl, rfl, h⟩
  | .int i :: ds, P, _, h, .cons h1 h2 => by
    obtain ⟨is, e1, e2, hp⟩ := intsD_inv (ds := ds) h h2
    cases h1
    exact ⟨i :: is, by rw [e1]; rfl, by rw [e2]; rfl, hp⟩
def fRng1 (fs : FA) : FI := fun ρ P => fs ρ fun ds ρ1 => match ds with
  | [.int j] => j ≤ 100000 ∧ -100000 ≤ j ∧ P (rangeD 0 j.toNat) ρ1
  | _ => False
def fRng2 (fs : FA) : FI := fun ρ P => fs ρ fun ds ρ1 => match ds with
  | [.int i, .int j] => (j ≤ 100000 ∧ -100000 ≤ j ∧ i ≤ 100000 ∧ -100000 ≤ i) ∧ P (rangeD i (j - i).toNat) ρ1
  | _ => False
theorem pid_range1 {p : Pos} {fs : FA} (hg : Gl X "range") (hm : X.mg "range" = none) (ha : PAD X fi fa [a] fs) (hs : starEach [a] X.env = [(false, eval a X.env)] := by rfl) : PID X fi fa tg (.Call (.Name "range" p) [a] [] pos) (fRng1 fs) := by
  obtain ⟨t, q, ok⟩ := ha
  refine ⟨_, pi_range1 hg hm q hs, fun σ H S ρ P R r hf k => ok σ H S ρ _ _ r hf fun vs H' S' ds ρ' hP r' t' hd => ?_⟩
  split at hP
  · rename_i j
    cases hd with
    | cons h1 h2 =>
      cases h2
      cases h1
      exact ⟨j, rfl, by omega, by omega, k _ H' S' _ ρ' hP.2.2 r' t' itd_range⟩
  · exact hP.elim
theorem pid_range2 {p : Pos} {fs : FA} (hg : Gl X "range") (hm : X.mg "range" = none) (ha : PAD X fi fa [a, b] fs) (hs : starEach [a, b] X.env = [(false, eval a X.env), (false, eval b X.env)] := by rfl) (hs2 : starEach [b] X.env = [(false, eval b X.env)] := by rfl) :
    PID X fi fa tg (.Call (.Name "range" p) [a, b] [] pos) (fRng2 fs) := by
  obtain ⟨t, q, ok⟩ := ha
  refine ⟨_, pi_range2 hg hm q hs hs2, fun σ H S ρ P R r hf k => ok σ H S ρ _ _ r hf fun vs H' S' ds ρ' hP r' t' hd => ?_⟩
  split at hP
  · rename_i i j
    cases hd with
    | cons h1 h2 =>
      cases h2 with
      | cons h2 h3 =>
        cases h3
        cases h1
        cases h2
        exact ⟨i, j, rfl, ⟨by omega, by omega, by omega, by omega⟩, k _ H' S' _ ρ' hP.2 r' t' itd_range⟩
  · exact hP.elim
/-- zip of two lists or two tuples -/
def zipD : List D → List D → List D
  | x :: xs, y :: ys => .tup [x, y] :: zipD xs ys
  | _, _ => []
theorem zipD_len : ∀ xs ys : List D, (zipD xs ys).length = min xs.length ys.length
  | [], _ => by simp [zipD]
  | _ :: _, [] => by simp [zipD]
  | x :: xs, y :: ys => by
    rw [zipD, List.length_cons, zipD_len xs ys, List.length_cons, List.length_cons]
    omega
theorem zipD_get : ∀ (xs ys : List D) (i : Nat) (d : D), (zipD xs ys)[i]? = some d → ∃ x y, xs[i]? = some x ∧ ys[i]? = some y ∧ d = .tup [x, y]
  | [], _, i, d, h => by simp [zipD] at h
  | _ :: _, [], i, d, h => by simp [zipD] at h
  | x :: xs, y :: ys, 0, d, h => by
    simp [zipD] at h
    exact ⟨x, y, rfl, rfl, h.symm⟩
  | x :: xs, y :: ys, i + 1, d, h => by
    have := zipD_get xs ys i d (by simpa [zipD] using h)
    simpa using this
theorem itd_zipL {K : PySem.W.Frag} {S : Hp} {a b : Addr} {xs ys : List V} {ds es : List D} (h : SqL K S a xs) (hd : Dens K S xs ds) (h' : SqL K S b ys) (hd' : Dens K S ys es) : ItD K (Itz K a b) S (zipD ds es) := fun i S' H' e1 e2 => by
  refine ⟨fun hl => ⟨xs, ys, (e1.trans e2).l h, (e1.trans e2).l h', ?_⟩, fun d he => ?_⟩
  · rw [zipD_len] at hl
    rw [hd.length, hd'.length]
    omega
  · obtain ⟨x, y, hx, hy, rfl⟩ := zipD_get _ _ _ _ he
    obtain ⟨v, hv, den⟩ := hd.get hx
    obtain ⟨u, hu, den'⟩ := hd'.get hy
    refine ⟨⟨xs, ys, v, u, (e1.trans e2).l h, (e1.trans e2).l h', hv, hu⟩, fun z H'' hz => ?_⟩
    obtain ⟨T, v', u', rfl, hT, rfl, f1, f2⟩ := hz
    have q1 := f1 xs ((e1.trans e2).l h)
    have q2 := f2 ys ((e1.trans e2).l h')
    rw [hv] at q1
    rw [hu] at q2
    cases q1
    cases q2
    have g := Gr.one (o := .tup [v, u]) e2 hT
    exact ⟨_, g, .tup upd_same (.cons (den.mono (e1.trans g.s)) (.cons (den'.mono (e1.trans g.s)) .nil))⟩
theorem itd_zipT {K : PySem.W.Frag} {S : Hp} {a b : Addr} {xs ys : List V} {ds es : List D} (h : SqT K S a xs) (hd : Dens K S xs ds) (h' : SqT K S b ys) (hd' : Dens K S ys es) : ItD K (RZ.ItzT K a b) S (zipD ds es) := fun i S' H' e1 e2 => by
  refine ⟨fun hl => ⟨xs, ys, (e1.trans e2).t h, (e1.trans e2).t h', ?_⟩, fun d he => ?_⟩
  · rw [zipD_len] at hl
    rw [hd.length, hd'.length]
    omega
  · obtain ⟨x, y, hx, hy, rfl⟩ := zipD_get _ _ _ _ he
    obtain ⟨v, hv, den⟩ := hd.get hx
    obtain ⟨u, hu, den'⟩ := hd'.get hy
    refine ⟨⟨xs, ys, v, u, (e1.trans e2).t h, (e1.trans e2).t h', hv, hu⟩, fun z H'' hz => ?_⟩
    obtain ⟨T, v', u', rfl, hT, rfl, f1, f2⟩ := hz
    have q1 := f1 xs ((e1.trans e2).t h)
    have q2 := f2 ys ((e1.trans e2).t h')
    rw [hv] at q1
    rw [hu] at q2
    cases q1
    cases q2
    have g := Gr.one (o := .tup [v, u]) e2 hT
    exact ⟨_, g, .tup upd_same (.cons (den.mono (e1.trans g.s)) (.cons (den'.mono (e1.trans g.s)) .nil))⟩
def fZip (fs : FA) : FI := fun ρ P => fs ρ fun ds ρ1 => match ds with
  | [.lst xs, .lst ys] => P (zipD xs ys) ρ1
  | [.tup xs, .tup ys] => P (zipD xs ys) ρ1
  | _ => False
theorem pid_zip {p tpos : Pos} {elts : List Expr} {kk : Nat} {fs : FA} (hg : Gl X "zip") (hm : X.mg "zip" = none) (ha : PAD X fi fa [a, b] fs)
    (hs : starEach [a, b] X.env = (false, eval a X.env) :: starEach [b] X.env := by rfl) (hpl : (backTo pos (starEach [b] X.env)).any (·.1) = false := by rfl) : PID X fi fa (.Tuple elts kk tpos) (.Call (.Name "zip" p) [a, b] [] pos) (fZip fs) := by
  obtain ⟨t, q, ok⟩ := ha
  refine ⟨_, RZ.pi_zipA hg hm q hs hpl, fun σ H S ρ P R r hf k => ok σ H S ρ _ _ r hf fun vs H' S' ds ρ' hP r' t' hd => ?_⟩
  split at hP
  · cases hd with
    | cons h1 h2 =>
      cases h2 with
      | cons h2 h3 =>
        cases h3
        obtain ⟨a, xs, rfl, g1, g2⟩ := den_lst h1
        obtain ⟨b, ys, rfl, g3, g4⟩ := den_lst h2
        exact ⟨a, b, xs, ys, rfl, .inl ⟨SqL.of (r'.ex _ _ g1), SqL.of (r'.ex _ _ g3), k _ H' S' _ ρ' hP r' t' (itd_zipL (SqL.of g1) g2 (SqL.of g3) g4)⟩⟩
  · cases hd with
    | cons h1 h2 =>
      cases h2 with
      | cons h2 h3 =>
        cases h3
        obtain ⟨a, xs, rfl, g1, g2⟩ := den_tup h1
        obtain ⟨b, ys, rfl, g3, g4⟩ := den_tup h2
        exact ⟨a, b, xs, ys, rfl, .inr ⟨SqT.of (r'.ex _ _ g1), SqT.of (r'.ex _ _ g3), k _ H' S' _ ρ' hP r' t' (itd_zipT (SqT.of g1) g2 (SqT.of g3) g4)⟩⟩
  · exact hP.elim

/-! ### for -/
def lpK (k : List Sl → (Fl → Prop) → Prop) (P : Fl → Prop) : Fl → Prop
  | .nx ρ => k ρ P
  | .ct ρ => k ρ P
  | .bk ρ => P (.nx ρ)
  | fl => P fl
def forGo (g : FG) (B : FS) : List D → List Sl → (Fl → Prop) → Prop
  | [], ρ, P => P (.nx ρ)
  | d :: ds, ρ, P => g d ρ fun ρ1 => B ρ1 (lpK (forGo g B ds) P)
def fFor (i : FI) (g : FG) (B : FS) : FS := fun ρ P => i ρ fun ds ρ1 => forGo g B ds ρ1 P
theorem psd_for {body : List Stmt} {fit : FI} {ws : List Nat} {g : FG} {B : FS} (hp : PassesOwn (model X.prog X.w) X.A X.env X.xe) (hc : X.calm = true) (hi : PID X fi fa tg iter fit) (hg : PGD X fi fa tg ws g) (hb : PSsD X fi fa body B)
    (hs : ∀ x, foldedSetIterable iter X.env x = pure x := by intro _; rfl) : PSD X fi fa (.For tg iter body [] pos) (fFor fit g B) := by
  obtain ⟨ti, p1, o1⟩ := hi
  obtain ⟨tg', p2, o2⟩ := hg
  obtain ⟨tb, p3, o3⟩ := hb
  refine ⟨_, ps_for hp hc p1 p2 p3 hs, fun σ H S ρ P E r hf k => o1 σ H S ρ _ _ r hf fun J H1 S1 ds ρ1 hP r1 t1 it => ?_⟩
  refine ⟨fun i m σ' H' => ∃ S' ρ', m = ds.length - i ∧ i ≤ ds.length ∧ Rel X.K fi fa σ' H' S' ρ' ∧ Tr σ H1 S1 ρ1 σ' H' S' ρ' ∧ forGo g B (ds.drop i) ρ' P, ⟨_, S1, ρ1, rfl, Nat.zero_le _, r1, Tr.refl _ _ _ _, by rw [List.drop_zero]; exact hP⟩, ?_⟩
  rintro i m σ' H' ⟨S', ρ', rfl, hi, r', t', w⟩
  obtain ⟨stop, go⟩ := it i S' H' t'.exS r'.ex
  by_cases hlt : i < ds.length
  · have hd : ds.drop i = ds[i] :: ds.drop (i + 1) := List.drop_eq_getElem_cons hlt
    rw [hd] at w
    obtain ⟨g1, g2⟩ := go ds[i] (List.getElem?_eq_getElem hlt)
    refine .inr ⟨g1, fun σ2 H2 => ∃ S2 ρ2, Rel X.K fi fa σ2 H2 S2 ρ2 ∧ Tr σ H1 S1 ρ1 σ2 H2 S2 ρ2 ∧ forGo g B (ds.drop (i + 1)) ρ2 P, fun σ2 H2 ⟨S2, ρ2, r2, t2, w2⟩ => ⟨ds.length - (i + 1), by omega, S2, ρ2, rfl, hlt, r2, t2, w2⟩, fun x H'' hy => ?_⟩
    obtain ⟨S'', gr, den⟩ := g2 x H'' hy
    refine o2 σ' H'' S'' ρ' x _ _ _ (r'.grow gr) den w fun σ3 H3 S3 ρ3 hP3 r3 t3 _ => ?_
    have T3 := (t'.trans gr.tr).trans t3
    refine o3 σ3 H3 S3 ρ3 _ _ r3 hP3 ⟨?_, ?_, ?_, ?_, ?_⟩
    · exact fun σ4 H4 S4 ρ4 h4 r4 t4 => ⟨S4, ρ4, r4, T3.trans t4, h4⟩
    · exact fun σ4 H4 S4 ρ4 h4 r4 t4 => k.1 σ4 H4 S4 ρ4 h4 r4 ((t1.trans T3).trans t4)
    · exact fun σ4 H4 S4 ρ4 h4 r4 t4 => ⟨S4, ρ4, r4, T3.trans t4, h4⟩
    · exact fun v d σ4 H4 S4 ρ4 h4 r4 t4 hd => k.2.2.2.1 v d σ4 H4 S4 ρ4 h4 r4 ((t1.trans T3).trans t4) hd
    · exact fun v d σ4 H4 S4 ρ4 h4 r4 t4 hd => k.2.2.2.2 v d σ4 H4 S4 ρ4 h4 r4 ((t1.trans T3).trans t4) (hd.back (t1.trans T3))
  · have hl : ds.length ≤ i := Nat.le_of_not_lt hlt
    rw [List.drop_eq_nil_of_le hl] at w
    exact .inl ⟨stop hl, k.1 σ' H' S' ρ' w r' (t1.trans t')⟩
end
end DL

/-! DL4: comprehensions; defs and their calls. -/
namespace DL
open PySem PySem.Spec PyProof.Rows L2

/-! ### comprehensions -/
def wipeS (ρ : List Sl) : List Nat → List Sl
  | [] => ρ
  | v :: vs => (wipeS ρ vs).set v .non
section
variable {K : PySem.W.Frag} {fi : List Nat} {fa : Nat → Addr} {σ : L2.St} {H S : Hp} {ρ : List Sl}
theorem Rel.storeNon {i : Nat} (r : Rel K fi fa σ H S ρ) (hi : i ∉ fi) : Rel K fi fa (σ.set i none) H S (ρ.set i .non) where
  ex := r.ex
  len := by rw [List.length_set, List.length_set]; exact r.len
  val := fun j e h => by
    have hj : j ≠ i := fun z => by subst z; have := get_set_eq h; cases this
    rw [get_set_ne hj] at h
    rw [get_set_ne hj]; exact r.val j e h
  own := fun j e h => by
    have hj : j ≠ i := fun z => by subst z; have := get_set_eq h; cases this
    rw [get_set_ne hj] at h
    rw [get_set_ne hj]; exact r.own j e h
  dis := fun j k e f p h1 h2 h3 h4 => by
    have hj : j ≠ i := fun z => by subst z; have := get_set_eq h1; cases this
    have hk : k ≠ i := fun z => by subst z; have := get_set_eq h2; cases this
    rw [get_set_ne hj] at h1 h3
    rw [get_set_ne hk] at h2 h4
    exact r.dis j k e f p h1 h2 h3 h4
  fix := fun j hj => by
    have : j ≠ i := fun z => hi (z ▸ hj)
    rw [get_set_ne this]; exact r.fix j hj
theorem Tr.storeNon {i : Nat} : Tr σ H S ρ (σ.set i none) H S (ρ.set i .non) :=
  ⟨Ex.refl S, fun _ _ h _ => h, fun a ⟨j, e, h1, h2⟩ => by
    have hj : j ≠ i := fun z => by subst z; have := get_set_eq h1; cases this
    rw [get_set_ne hj] at h1 h2
    exact .inl ⟨j, e, h1, h2⟩, fun _ h => .inl h, fun _ h => h⟩
theorem Rel.wipe (r : Rel K fi fa σ H S ρ) : ∀ vs : List Nat, (∀ i ∈ vs, i ∉ fi) → Rel K fi fa (wipe σ vs) H S (wipeS ρ vs)
  | [], _ => r
  | v :: vs, h => (Rel.wipe r vs fun i hi => h i (List.mem_cons_of_mem _ hi)).storeNon (h v List.mem_cons_self)
theorem Tr.wipe : ∀ vs : List Nat, Tr σ H S ρ (wipe σ vs) H S (wipeS ρ vs)
  | [] => Tr.refl _ _ _ _
  | v :: vs => (Tr.wipe vs).trans Tr.storeNon
theorem wipe_get {i : Nat} : ∀ {vs : List Nat}, i ∉ vs → (wipe σ vs)[i]? = σ[i]?
  | [], _ => rfl
  | v :: vs, h => by
    show ((L2.wipe σ vs).set v none)[i]? = σ[i]?
    rw [get_set_ne (fun z => h (by rw [z]; exact List.mem_cons_self)), wipe_get fun z => h (List.mem_cons_of_mem _ z)]
theorem wipeS_get {i : Nat} : ∀ {vs : List Nat}, i ∈ vs → ∀ s, (wipeS ρ vs)[i]? = some s → s = .non
  | [], h, _, _ => nomatch h
  | v :: vs, h, s, e => by
    by_cases hi : i = v
    · subst hi; exact get_set_eq e
    · have e' : (wipeS ρ vs)[i]? = some s := by
        have : ((wipeS ρ vs).set v .non)[i]? = some s := e
        rw [get_set_ne hi] at this; exact this
      exact wipeS_get ((List.mem_cons.mp h).resolve_left hi) s e'
theorem Rel.unwipe {vs : List Nat} {σ' : L2.St} (hl : σ'.length = σ.length) (hg : ∀ i, i ∉ vs → σ'[i]? = σ[i]?) (hf : ∀ i ∈ vs, i ∉ fi) (r : Rel K fi fa σ' H S (wipeS ρ vs)) : Rel K fi fa σ H S (wipeS ρ vs) where
  ex := r.ex
  len := by rw [r.len, hl]
  val := fun j e h => by
    have hj : j ∉ vs := fun z => by have := wipeS_get z _ h; cases this
    rw [← hg j hj]; exact r.val j e h
  own := fun j e h => by
    have hj : j ∉ vs := fun z => by have := wipeS_get z _ h; cases this
    rw [← hg j hj]; exact r.own j e h
  dis := fun j k e f p h1 h2 h3 h4 => by
    have hj : j ∉ vs := fun z => by have := wipeS_get z _ h1; cases this
    have hk : k ∉ vs := fun z => by have := wipeS_get z _ h2; cases this
    rw [← hg j hj] at h3
    rw [← hg k hk] at h4
    exact r.dis j k e f p h1 h2 h3 h4
  fix := fun j hj => by
    have : j ∉ vs := fun z => hf j z hj
    rw [← hg j this]; exact r.fix j hj
theorem Tr.unwipe {vs : List Nat} {σ0 σ' : L2.St} {H0 S0 : Hp} {ρ0 : List Sl} (hg : ∀ i, i ∉ vs → σ'[i]? = σ[i]?) (t : Tr σ0 H0 S0 ρ0 σ' H S (wipeS ρ vs)) : Tr σ0 H0 S0 ρ0 σ H S (wipeS ρ vs) :=
  ⟨t.exS, t.keep, fun a ⟨j, e, h1, h2⟩ => by
    have hj : j ∉ vs := fun z => by have := wipeS_get z _ h1; cases this
    rw [← hg j hj] at h2
    exact t.owned a ⟨j, e, h1, h2⟩, t.new, t.dom⟩
theorem wipe_ext {σ' : L2.St} {vs : List Nat} (hl : σ'.length = σ.length) (h : ∀ j, j ∉ vs → σ'[j]? = σ[j]?) : wipe σ' vs = wipe σ vs := by
  apply List.ext_getElem?
  intro i
  by_cases hi : i ∈ vs
  · have : ∀ τ : L2.St, ∀ vs : List Nat, i ∈ vs → (wipe τ vs)[i]? = if i < τ.length then some none else none := by
      intro τ vs
      induction vs with
      | nil => intro h; cases h
      | cons v vs ih =>
        intro hm
        show ((wipe τ vs).set v none)[i]? = _
        by_cases hv : i = v
        · subst hv
          rw [List.getElem?_set]
          rw [if_pos rfl, wipe_length]
        · rw [get_set_ne hv]
          exact ih ((List.mem_cons.mp hm).resolve_left hv)
    rw [this σ' vs hi, this σ vs hi, hl]
  · rw [wipe_get hi, wipe_get hi, h i hi]
/-- a hidden object changes -/
theorem Rel.hid {p : Addr} {o : HO} (r : Rel K fi fa σ H S ρ) (hs : S p = none) (no : ¬ Owned σ ρ p) : Rel K fi fa σ (L2.upd H p o) S ρ where
  ex := fun a u h => by
    have : a ≠ p := fun z => by subst z; rw [hs] at h; cases h
    rw [upd_ne this]; exact r.ex a u h
  len := r.len
  val := r.val
  own := fun i d h => by
    obtain ⟨q, u, e1, e2, e3, e4⟩ := r.own i d h
    have : q ≠ p := fun z => no ⟨i, d, h, by rw [e1, z]⟩
    exact ⟨q, u, e1, e2, by rw [upd_ne this]; exact e3, e4⟩
  dis := r.dis
  fix := r.fix
theorem Tr.hid {p : Addr} {o : HO} {σ0 : L2.St} {H0 S0 : Hp} {ρ0 : List Sl} (t : Tr σ0 H0 S0 ρ0 σ H S ρ) (h0 : H0 p = none) : Tr σ0 H0 S0 ρ0 σ (L2.upd H p o) S ρ :=
  ⟨t.exS, fun a u h n => by
    have : a ≠ p := fun z => by subst z; rw [h0] at h; cases h
    rw [upd_ne this]; exact t.keep a u h n, t.owned, t.new, fun a h => by
    by_cases ha : a = p
    · subst ha; exact h0
    · rw [upd_ne ha] at h; exact t.dom a h⟩
/-- a hidden object stays through a step -/
theorem Tr.hides {p : Addr} {o : HO} {σ' : L2.St} {H' S' : Hp} {ρ' : List Sl} (t : Tr σ H S ρ σ' H' S' ρ') (hp : H p = some o) (hs : S p = none) (no : ¬ Owned σ ρ p) (nt : ∀ xs, o ≠ .tup xs) : H' p = some o ∧ S' p = none ∧ ¬ Owned σ' ρ' p := by
  refine ⟨t.keep p o hp no, ?_, fun h => (t.owned p h).elim no fun z => by rw [hp] at z; cases z⟩
  cases z : S' p with
  | none => rfl
  | some u =>
    rcases t.new p (by rw [z]; intro q; cases q) with y | y | y | ⟨xs, y⟩
    · exact absurd hs y
    · rw [hp] at y; cases y
    · exact absurd y no
    · rw [hp] at y; cases y; exact absurd rfl (nt xs)
end

def PTsD (X : Cx) (fi : List Nat) (fa : Nat → Addr) (ifs : List Expr) (f : FT) : Prop := ∃ t, PTs X ifs t ∧ OkT X.K fi fa t f
def fYes : FT := fun ρ P => P true ρ
section
variable {X : Cx} {fi : List Nat} {fa : Nat → Addr} {e a b tg iter elt : Expr} {ifs : List Expr} {f fe fx fy : FE} {ft : FT} {pos : Pos} {g : FG} {fit : FI}
theorem ptsd_nil : PTsD X fi fa [] fYes := ⟨_, pts_nil, fun σ H S ρ P Q r hf k => k true H S ρ hf r (Tr.refl _ _ _ _)⟩
theorem ptsd_one (h : PTD X fi fa e ft) : PTsD X fi fa [e] ft := let ⟨t, p, o⟩ := h; ⟨_, pts_one p, o⟩
theorem PTsD.uni (h : PTsD X fi fa ifs ft) : PTs X ifs (uT X.K fi fa ft) := by
  obtain ⟨t, p, ok⟩ := h
  refine ⟨fun pins s σ H Q I hw => p.run pins s σ H Q I ?_⟩
  obtain ⟨S, ρ, P, r, hf, k⟩ := hw
  exact ok σ H S ρ P Q r hf k
def uG (K : PySem.W.Frag) (fi : List Nat) (fa : Nat → Addr) (ws : List Nat) (f : FG) : TG := fun v σ H Q => ∃ (S : Hp) (ρ : List Sl) (d : D) (P : List Sl → Prop), Rel K fi fa σ H S ρ ∧ Den K S v d ∧ f d ρ P ∧
  ∀ σ' H' S' ρ', P ρ' → Rel K fi fa σ' H' S' ρ' → Tr σ H S ρ σ' H' S' ρ' → SameBut ws σ σ' → Q σ' H'
theorem PGD.uni {ws : List Nat} (h : PGD X fi fa tg ws g) : PG X tg (uG X.K fi fa ws g) := by
  obtain ⟨t, p, ok⟩ := h
  refine ⟨fun pins s σ H v u Q I rv hw => p.run pins s σ H v u Q I rv ?_⟩
  obtain ⟨S, ρ, d, P, r, hd, hf, k⟩ := hw
  exact ok σ H S ρ v d P Q r hd hf k
/-- [fe for .. in .. if ft]; vs: the comprehension's own slots -/
def lcGo (g : FG) (t : FT) (fe : FE) (vs : List Nat) : List D → List D → List Sl → (List D → List Sl → Prop) → Prop
  | [], acc, ρ, P => P acc ρ
  | d :: ds, acc, ρ, P => g d ρ fun ρ1 => t ρ1 fun b ρ2 => if b = true then fe ρ2 fun x ρ3 => acc.length < 100000 ∧ lcGo g t fe vs ds (acc ++ [x]) (wipeS ρ3 vs) P else lcGo g t fe vs ds acc (wipeS ρ2 vs) P
def fLc (i : FI) (g : FG) (t : FT) (fe : FE) (vs : List Nat) : FE := fun ρ P => i ρ fun ds ρ1 => lcGo g t fe vs ds [] (wipeS ρ1 vs) fun acc ρ2 => P (.lst acc) ρ2
theorem ok_lc {K : PySem.W.Frag} {ti : TI} {ws vs : List Nat} (hi : OkI K fi fa ti fit) (hv : ∀ i ∈ vs, i ∉ fi) (hw : ∀ i ∈ ws, i ∈ vs) : OkF K fi fa (tLc ti (uG K fi fa ws g) (uT K fi fa ft) (uE K fi fa fe) vs) (fLc fit g ft fe vs) := by
  intro σ H S ρ P Q r hf k
  refine hi σ H S ρ _ _ r hf fun J H1 S1 ds ρ1 hP r1 t1 it Dd hD => ?_
  have same : ∀ i, i ∉ vs → (wipe σ vs)[i]? = σ[i]? := fun i hi => wipe_get hi
  refine ⟨fun i m H' => ∃ S' ρ' acc dacc, m = ds.length - i ∧ i ≤ ds.length ∧ Rel K fi fa (wipe σ vs) H' S' (wipeS ρ' vs) ∧ Tr σ H1 S1 ρ1 (wipe σ vs) H' S' (wipeS ρ' vs) ∧ H' Dd = some (.lst acc) ∧ S' Dd = none ∧ ¬ Owned (wipe σ vs) (wipeS ρ' vs) Dd ∧ Dens K S' acc dacc ∧
    lcGo g ft fe vs (ds.drop i) dacc (wipeS ρ' vs) (fun acc ρ2 => P (.lst acc) ρ2), ⟨_, S1, ρ1, [], [], rfl, Nat.zero_le _, ?_⟩, ?_⟩
  · have g0 : Gr S1 H1 S1 (upd H1 Dd (.lst [])) := Gr.hid r1.ex hD
    have rw0 := (r1.grow g0).wipe vs hv
    refine ⟨rw0, (g0.tr (ρ := ρ1) (σ := σ)).trans (Tr.wipe vs), upd_same, r1.ex.free hD, fun ⟨i, d, h1, h2⟩ => ?_, .nil, by rw [List.drop_zero]; exact hP⟩
    obtain ⟨q, u, e1, e2, e3, e4⟩ := (r1.wipe vs hv).own i d h1
    rw [h2] at e1
    cases e1
    rw [hD] at e3
    cases e3
  · rintro i m H' ⟨S', ρ', acc, dacc, rfl, hi', r', t', hDd, hSd, nOd, hacc, w⟩
    obtain ⟨stop, go⟩ := it i S' H' t'.exS r'.ex
    by_cases hlt : i < ds.length
    · have hd : ds.drop i = ds[i] :: ds.drop (i + 1) := List.drop_eq_getElem_cons hlt
      rw [hd] at w
      obtain ⟨g1, g2⟩ := go ds[i] (List.getElem?_eq_getElem hlt)
      refine .inr ⟨g1, fun H2 => ∃ S2 ρ2 acc2 dacc2, Rel K fi fa (wipe σ vs) H2 S2 (wipeS ρ2 vs) ∧ Tr σ H1 S1 ρ1 (wipe σ vs) H2 S2 (wipeS ρ2 vs) ∧ H2 Dd = some (.lst acc2) ∧ S2 Dd = none ∧ ¬ Owned (wipe σ vs) (wipeS ρ2 vs) Dd ∧ Dens K S2 acc2 dacc2 ∧
        lcGo g ft fe vs (ds.drop (i + 1)) dacc2 (wipeS ρ2 vs) (fun acc ρ2 => P (.lst acc) ρ2), fun H2 ⟨S2, ρ2, acc2, dacc2, h⟩ => ⟨ds.length - (i + 1), by omega, S2, ρ2, acc2, dacc2, rfl, hlt, h⟩, fun x H'' hy => ?_⟩
      obtain ⟨S'', gr, den⟩ := g2 x H'' hy
      have T2 := t'.trans (gr.tr (σ := wipe σ vs) (ρ := wipeS ρ' vs))
      obtain ⟨k1, k2, k3⟩ := (gr.tr (σ := wipe σ vs) (ρ := wipeS ρ' vs)).hides hDd hSd nOd (fun _ => HO.noConfusion)
      refine ⟨S'', wipeS ρ' vs, ds[i], _, r'.grow gr, den, w, fun σ3 H3 S3 ρ3 hP3 r3 t3 sb => ?_⟩
      have hsame3 : ∀ j, j ∉ vs → σ3[j]? = (wipe σ vs)[j]? := fun j hj => sb.2 j fun z => hj (hw j z)
      have e3 : wipe σ3 vs = wipe σ vs := by
        rw [wipe_ext sb.1 hsame3]
        exact wipe_ext (wipe_length σ vs) same
      obtain ⟨l1, l2, l3⟩ := t3.hides k1 k2 k3 (fun _ => HO.noConfusion)
      refine ⟨e3, S3, ρ3, _, r3, hP3, fun b H4 S4 ρ4 hP4 r4 t4 => ?_⟩
      obtain ⟨m1, m2, m3⟩ := t4.hides l1 l2 l3 (fun _ => HO.noConfusion)
      cases b with
      | true =>
        refine iteT ⟨S4, ρ4, _, r4, by simpa using hP4, fun y H5 S5 d5 ρ5 hP5 r5 t5 den5 => ?_⟩
        obtain ⟨n1, n2, n3⟩ := t5.hides m1 m2 m3 (fun _ => HO.noConfusion)
        have ex5 : Ex S' S5 := ((gr.s.trans t3.exS).trans t4.exS).trans t5.exS
        refine ⟨acc, n1, sz_lt (by rw [hacc.length]; exact hP5.1), S5, ρ5, acc ++ [y], dacc ++ [d5], ?_, ?_, upd_same, n2, ?_, (hacc.mono ex5).snoc den5, hP5.2⟩
        · have := (r5.hid (o := .lst (acc ++ [y])) n2 n3).wipe vs hv
          rw [e3] at this; exact this
        · have t := (((T2.trans t3).trans t4).trans t5).hid (p := Dd) (o := .lst (acc ++ [y])) hD
          have := t.trans (Tr.wipe vs)
          rw [e3] at this; exact this
        · intro h
          have hh : Owned (wipe σ3 vs) (wipeS ρ5 vs) Dd := by rw [e3]; exact h
          exact ((Tr.wipe (σ := σ3) (H := H5) (S := S5) (ρ := ρ5) vs).owned Dd hh).elim n3 fun z => by rw [n1] at z; cases z
      | false =>
        refine iteF ⟨S4, ρ4, acc, dacc, ?_, ?_, m1, m2, ?_, hacc.mono ((gr.s.trans t3.exS).trans t4.exS), by simpa using hP4⟩
        · have := r4.wipe vs hv
          rw [e3] at this; exact this
        · have := ((T2.trans t3).trans t4).trans (Tr.wipe vs)
          rw [e3] at this; exact this
        · intro h
          have hh : Owned (wipe σ3 vs) (wipeS ρ4 vs) Dd := by rw [e3]; exact h
          exact ((Tr.wipe (σ := σ3) (H := H4) (S := S4) (ρ := ρ4) vs).owned Dd hh).elim m3 fun z => by rw [m1] at z; cases z
    · have hl : ds.length ≤ i := Nat.le_of_not_lt hlt
      rw [List.drop_eq_nil_of_le hl] at w
      have r2 := Rel.unwipe (wipe_length σ vs) same hv r'
      have t2 := Tr.unwipe same t'
      refine .inl ⟨stop hl, k _ H' S' _ _ w r2 (t1.trans t2) ⟨Dd, _, rfl, .inl (t1.dom Dd hD), hSd, fun h => ?_, hDd, hacc⟩⟩
      exact (t2.owned Dd h).elim (fun ⟨j, d, h1, h2⟩ => by
        obtain ⟨q, u, e1, e2, e3, e4⟩ := r1.own j d h1
        rw [h2] at e1
        cases e1
        rw [hD] at e3
        cases e3) fun z => by
        obtain ⟨j, d, h1, h2⟩ := h
        have hj : j ∉ vs := fun z => by have := wipeS_get z _ h1; cases this
        exact nOd ⟨j, d, h1, by rw [same j hj]; exact h2⟩
theorem notin_of {fi vs : List Nat} (h : vs.all (fun i => !fi.contains i) = true) : ∀ i ∈ vs, i ∉ fi := fun i hi z => by
  have := List.all_eq_true.mp h i hi
  rw [List.contains_iff_mem.mpr z] at this
  cases this
theorem allin_of {ws vs : List Nat} (h : ws.all (fun i => vs.contains i) = true) : ∀ i ∈ ws, i ∈ vs := fun i hi => List.contains_iff_mem.mp (List.all_eq_true.mp h i hi)
abbrev Blk (X : Cx) (s : Shared) (H : Hp) (scope : Scope) (cl : List (Str × Addr)) (C : Addr) (fp : List Addr) : Cx := X.blk s H scope (compEnvC scope cl C X.env) fp
theorem pf_lc {scope : Scope} (own : List (Str × Nat)) {ws : List Nat} (hN : X.N.Nodup) (hi : PID X fi fa tg iter fit) (ok : BlkOk X.N X.env.scope scope own)
    (hg : ∀ (s : Shared) (H : Hp) (C : Addr) (cl : List (Str × Addr)) (fp : List Addr), PGD (Blk X s H scope cl C fp) fi fa tg ws g)
    (ht : ∀ (s : Shared) (H : Hp) (C : Addr) (cl : List (Str × Addr)) (fp : List Addr), PTsD (Blk X s H scope cl C fp) fi fa ifs ft)
    (he : ∀ (s : Shared) (H : Hp) (C : Addr) (cl : List (Str × Addr)) (fp : List Addr), PED (Blk X s H scope cl C fp) fi fa elt fe)
    (hc : X.calm = true := by rfl) (hs : ∀ x, foldedSetIterable iter X.env x = pure x := by intro _; rfl) (hv : (own.map (·.2)).all (fun i => !fi.contains i) = true := by rfl) (hw : ws.all (fun i => (own.map (·.2)).contains i) = true := by rfl) :
    PEF X fi fa (.ListComp elt [⟨tg, iter, ifs, 0⟩] scope pos) (fLc fit g ft fe (own.map (·.2))) := by
  obtain ⟨ti, p, oi⟩ := hi
  refine ⟨_, pe_lc (g := uG X.K fi fa ws g) (tt := uT X.K fi fa ft) (te := uE X.K fi fa fe) hc hN p ok (fun s H C cl fp => (hg s H C cl fp).uni) (fun s H C cl fp => (ht s H C cl fp).uni) (fun s H C cl fp => (he s H C cl fp).uni) hs, ?_⟩
  exact ok_lc oi (notin_of hv) (allin_of hw)
end
end DL

/-! DL5: defs and their calls. -/
namespace DL
open PySem PySem.Spec PyProof.Rows L2

/-! ### promises by contents -/
/-- what a def is worth on the contents of its arguments -/
abbrev GD := List D → (D → Prop) → Prop
/-- a def that changes nothing -/
def spP (K : PySem.W.Frag) (n : Nat) (g : GD) : Sp := fun vs H Q _ => ∃ (S : Hp) (ds : List D) (P : D → Prop), ds.length = n ∧ Ex S H ∧ Dens K S vs ds ∧ g ds P ∧ ∀ v S' H' d, P d → Gr S H S' H' → Den K S' v d → Q v H'
/-- .. and hands back a new object -/
def spF (K : PySem.W.Frag) (n : Nat) (g : GD) : Sp := fun vs H Q _ => ∃ (S : Hp) (ds : List D) (P : D → Prop), ds.length = n ∧ Ex S H ∧ Dens K S vs ds ∧ g ds P ∧ ∀ p S' H' o d, P d → H p = none → Gr S H S' H' → S' p = none → H' p = some o → HOD K S' o d → Q (.ref p) H'
/-- a def whose first argument is an object that it changes -/
abbrev GI := D → List D → (D → D → Prop) → Prop
def spI (K : PySem.W.Frag) (n : Nat) (g : GI) : Sp := fun vs H Q _ => ∃ (S : Hp) (p : Addr) (ws : List V) (o : HO) (c : D) (ds : List D) (P : D → D → Prop), vs = .ref p :: ws ∧ ds.length = n ∧ Ex S H ∧ S p = none ∧ H p = some o ∧ HOD K S o c ∧ Dens K S ws ds ∧ g c ds P ∧
  ∀ v S' H' d c' o', P d c' → Ex S S' → Ex S' H' → (∀ a u, a ≠ p → H a = some u → H' a = some u) → (∀ a, S' a ≠ none → S a ≠ none ∨ H a = none ∨ ∃ xs, H a = some (.tup xs)) → H' p = some o' → S' p = none → HOD K S' o' c' → Den K S' v d → Q v H'

section
variable {X : Cx} {fi : List Nat} {fa : Nat → Addr} {e : Expr} {es : List Expr} {fs : FA} {pos p : Pos} {CX : CXT} {k n : Nat} {f : Addr} {fd : FuncData} {ps : List Str} {E : XK} {x : Str} {dvs : List V} {ds0 : List Value}
def fCallP (n : Nat) (g : GD) (fs : FA) : FE := fun ρ P => fs ρ fun ds ρ1 => ds.length = n ∧ g ds fun d => P d ρ1
theorem ok_callP {K : PySem.W.Frag} {g : GD} {ta : TA} (ha : OkA K fi fa ta fs) : OkE K fi fa (tCall (spP K n g) [] E ta) (fCallP n g fs) := fun σ H S ρ P Q r hf k => ha σ H S ρ _ _ r hf fun vs H1 S1 ds ρ1 hP r1 t1 hd => by
  refine ⟨S1, ds, _, hP.1, r1.ex, by rw [List.append_nil]; exact hd, hP.2, fun v S' H' d hp gr den => k v H' S' d ρ1 hp (r1.grow gr) (t1.trans gr.tr) den⟩
theorem ok_callF {K : PySem.W.Frag} {g : GD} {ta : TA} (ha : OkA K fi fa ta fs) : OkF K fi fa (tCall (spF K n g) [] E ta) (fCallP n g fs) := fun σ H S ρ P Q r hf k => ha σ H S ρ _ _ r hf fun vs H1 S1 ds ρ1 hP r1 t1 hd => by
  refine ⟨S1, ds, _, hP.1, r1.ex, by rw [List.append_nil]; exact hd, hP.2, fun p S' H' o d hp h0 gr hs ho hod => k _ H' S' d ρ1 hp (r1.grow gr) (t1.trans gr.tr) (fresh_of (H1 := H1) r1 t1 h0 S' H' hs ho hod)⟩
theorem pd_call {g : GD} (F : FnOk X.prog X.w X.K X.mg X.base CX k f fd ps (spP X.K n g)) (hr : Room k X.A) (hg : Gl X x) (hm : X.mg x = some (.ref f)) (hk : PySem.W.keepIn X.K (.ref f) = true) (hb : Binds X.K fd ps []) (hx : Passes CX X E)
    (ha : PAD X fi fa (e :: es) fs) (hdb : (x == ("__debug__" : Str)) = false := by decide) (he : starEach (e :: es) X.env = (false, eval e X.env) :: starEach es X.env := by rfl) (hpl : (backTo pos (starEach es X.env)).any (·.1) = false := by rfl) :
    PED X fi fa (.Call (.Name x p) (e :: es) [] pos) (fCallP n g fs) := by
  obtain ⟨t, q, ok⟩ := ha
  exact ⟨_, pe_call F hr hg hm hk hb .nil hx q hdb he hpl, ok_callP ok⟩
theorem pf_call {g : GD} (F : FnOk X.prog X.w X.K X.mg X.base CX k f fd ps (spF X.K n g)) (hr : Room k X.A) (hg : Gl X x) (hm : X.mg x = some (.ref f)) (hk : PySem.W.keepIn X.K (.ref f) = true) (hb : Binds X.K fd ps []) (hx : Passes CX X E)
    (ha : PAD X fi fa (e :: es) fs) (hdb : (x == ("__debug__" : Str)) = false := by decide) (he : starEach (e :: es) X.env = (false, eval e X.env) :: starEach es X.env := by rfl) (hpl : (backTo pos (starEach es X.env)).any (·.1) = false := by rfl) :
    PEF X fi fa (.Call (.Name x p) (e :: es) [] pos) (fCallP n g fs) := by
  obtain ⟨t, q, ok⟩ := ha
  exact ⟨_, pe_call F hr hg hm hk hb .nil hx q hdb he hpl, ok_callF ok⟩
/-- f(x, ..), x a name whose object f changes -/
def ownD (ρ : List Sl) (i : Nat) (P : D → Prop) : Prop := match ρ[i]? with
  | some (.own c) => P c
  | _ => False
theorem ownD_inv {ρ : List Sl} {i : Nat} {P : D → Prop} (h : ownD ρ i P) : ∃ c, ρ[i]? = some (.own c) ∧ P c := by
  unfold ownD at h
  split at h
  · exact ⟨_, by assumption, h⟩
  · exact h.elim
def fCallI (i n : Nat) (g : GI) (fs : FA) : FE := fun ρ P => ownD ρ i fun _ => fs ρ fun ds ρ1 => ds.length = n ∧ ownD ρ1 i fun c => g c ds fun d c' => P d (ρ1.set i (.own c'))
theorem ok_callI {K : PySem.W.Frag} {g : GI} {ta : TA} {i : Nat} (ha : OkA K fi fa ta fs) : OkE K fi fa (tCall (spI K n g) [] E (tCons (tVar i) ta)) (fCallI i n g fs) := fun σ H S ρ P Q r hf k => by
  obtain ⟨c0, h0, hf⟩ := ownD_inv hf
  obtain ⟨p, o, e1, e2, e3, e4⟩ := r.own i c0 h0
  refine ⟨_, e1, ha σ H S ρ _ _ r hf fun vs H1 S1 ds ρ1 hP r1 t1 hd => ?_⟩
  obtain ⟨hn, hP⟩ := hP
  obtain ⟨c, h1, hP⟩ := ownD_inv hP
  obtain ⟨p', o', q1, q2, q3, q4⟩ := r1.own i c h1
  rw [e1] at q1
  cases q1
  refine ⟨S1, p, vs, o', c, ds, _, by rw [List.append_nil], hn, r1.ex, q2, q3, q4, hd, hP, fun v S' H' d c' o2 hp exS exH keep new hp' hs' hod den => ?_⟩
  have T : Tr σ H1 S1 ρ1 σ H' S' (ρ1.set i (.own c')) := by
    refine ⟨exS, fun a u ha no => keep a u (fun z => by subst z; exact no ⟨i, c, h1, e1⟩) ha, fun a ⟨j, e, g1, g2⟩ => ?_, fun a ha => ?_, fun a ha => ?_⟩
    · by_cases hj : j = i
      · subst hj; exact .inl ⟨j, c, h1, g2⟩
      · rw [get_set_ne hj] at g1; exact .inl ⟨j, e, g1, g2⟩
    · rcases new a ha with z | z | z
      · exact .inl z
      · exact .inr (.inl z)
      · exact .inr (.inr (.inr z))
    · by_cases hap : a = p
      · subst hap; rw [hp'] at ha; cases ha
      · cases z : H1 a with
        | none => rfl
        | some u => rw [keep a u hap z] at ha; cases ha
  have R : Rel K fi fa σ H' S' (ρ1.set i (.own c')) := by
    refine ⟨exH, by rw [List.length_set]; exact r1.len, fun j e h => ?_, fun j e h => ?_, fun j l e1' e2' q g1 g2 g3 g4 => ?_, r1.fix⟩
    · have hj : j ≠ i := fun z => by subst z; have := get_set_eq h; cases this
      rw [get_set_ne hj] at h
      obtain ⟨w, w1, w2⟩ := r1.val j e h
      exact ⟨w, w1, w2.mono exS⟩
    · by_cases hj : j = i
      · subst hj
        have := get_set_eq h
        cases this
        exact ⟨p, o2, e1, hs', hp', hod⟩
      · rw [get_set_ne hj] at h
        obtain ⟨q, u, w1, w2, w3, w4⟩ := r1.own j e h
        have hqp : q ≠ p := fun z => hj (r1.dis j i e c p h h1 (by rw [w1, z]) e1)
        refine ⟨q, u, w1, ?_, keep q u hqp w3, w4.mono exS⟩
        cases z : S' q with
        | none => rfl
        | some y =>
          rcases new q (by rw [z]; intro hh; cases hh) with y1 | y1 | ⟨xs, y1⟩
          · exact absurd w2 y1
          · rw [w3] at y1; cases y1
          · rw [w3] at y1; cases y1; exact w4.notup.elim
    · have o1 : ∃ e', ρ1[j]? = some (.own e') := by
        by_cases hj : j = i
        · subst hj; exact ⟨c, h1⟩
        · rw [get_set_ne hj] at g1; exact ⟨e1', g1⟩
      have o2 : ∃ e', ρ1[l]? = some (.own e') := by
        by_cases hl : l = i
        · subst hl; exact ⟨c, h1⟩
        · rw [get_set_ne hl] at g2; exact ⟨e2', g2⟩
      obtain ⟨f1, y1⟩ := o1
      obtain ⟨f2, y2⟩ := o2
      exact r1.dis j l f1 f2 q y1 y2 g3 g4
  exact k v H' S' d _ hp R (t1.trans T) den
theorem pd_callI (i : Nat) {g : GI} {y : Str} {py : Pos} (F : FnOk X.prog X.w X.K X.mg X.base CX k f fd ps (spI X.K n g)) (hr : Room k X.A) (hg : Gl X x) (hm : X.mg x = some (.ref f)) (hk : PySem.W.keepIn X.K (.ref f) = true) (hb : Binds X.K fd ps []) (hx : Passes CX X E)
    (ha : PAD X fi fa es fs) (hN : X.N[i]? = some y := by rfl) (hv : Vis X.env.scope y := by first | exact Or.inl rfl | exact Or.inr (Or.inl rfl) | exact Or.inr (Or.inr rfl)) (hd : (y == ("__debug__" : Str)) = false := by decide)
    (hcd : (y == ("__classdict__" : Str)) = false := by decide) (hs : starEach (Expr.Name y py :: es) X.env = (false, eval (Expr.Name y py) X.env) :: starEach es X.env := by rfl)
    (hdb : (x == ("__debug__" : Str)) = false := by decide) (hpl : (backTo pos (starEach es X.env)).any (·.1) = false := by rfl) :
    PED X fi fa (.Call (.Name x p) (.Name y py :: es) [] pos) (fCallI i n g fs) := by
  obtain ⟨t, q, ok⟩ := ha
  exact ⟨_, pe_call F hr hg hm hk hb .nil hx (pa_cons (pv i hN hv hd hcd) q hs) hdb hs hpl, ok_callI ok⟩
end

/-! ### defs -/
section
variable {P : Program} {w : World} {K : PySem.W.Frag} {mg : Str → Option Value} {base : Heap} {x qual : Str} {st : Stmt} {f : Addr} {fd : FuncData} {N ps : List Str} {k : Nat}
theorem start_get {vs : List V} {i : Nat} {v : V} (h : vs[i]? = some v) : (L2.start N vs)[i]? = some (some v) := by
  unfold L2.start
  have hl : i < vs.length := (List.getElem?_eq_some_iff.mp h).1
  rw [List.getElem?_append_left (by rw [List.length_map]; exact hl), List.getElem?_map, h]
  rfl
theorem start_len {vs : List V} (h : vs.length ≤ N.length) : (L2.start N vs).length = N.length := by
  unfold L2.start
  rw [List.length_append, List.length_map, List.length_replicate]
  omega
/-- the slots at a def's entry -/
def sl0 (m : Nat) (ds : List D) : List Sl := ds.map Sl.val ++ List.replicate m .non
def slI (m : Nat) (c : D) (ds : List D) : List Sl := .own c :: (ds.map Sl.val ++ List.replicate m .non)
theorem sl0_val {m i : Nat} {ds : List D} {s : Sl} (h : (sl0 m ds)[i]? = some s) : (∃ d, s = .val d ∧ ds[i]? = some d) ∨ s = .non := by
  unfold sl0 at h
  by_cases hi : i < ds.length
  · rw [List.getElem?_append_left (by rw [List.length_map]; exact hi), List.getElem?_map] at h
    cases q : ds[i]? with
    | none => rw [q] at h; cases h
    | some d => rw [q] at h; cases h; exact .inl ⟨d, rfl, rfl⟩
  · rw [List.getElem?_append_right (by rw [List.length_map]; omega), List.getElem?_replicate] at h
    split at h
    · cases h; exact .inr rfl
    · cases h
theorem rel_start {H S : Hp} {vs : List V} {ds : List D} {fa : Nat → Addr} (e : Ex S H) (hd : Dens K S vs ds) (hl : ds.length ≤ N.length) : Rel K [] fa (L2.start N vs) H S (sl0 (N.length - ds.length) ds) where
  ex := e
  len := by
    rw [start_len (by rw [hd.length]; exact hl)]
    unfold sl0
    rw [List.length_append, List.length_map, List.length_replicate]
    omega
  val := fun i d h => by
    rcases sl0_val h with ⟨d', e1, e2⟩ | e1
    · cases e1
      obtain ⟨v, h1, h2⟩ := hd.get e2
      exact ⟨v, start_get h1, h2⟩
    · cases e1
  own := fun i d h => by
    rcases sl0_val h with ⟨d', e1, e2⟩ | e1 <;> cases e1
  dis := fun i j d e p h => by
    rcases sl0_val h with ⟨d', e1, e2⟩ | e1 <;> cases e1
  fix := fun i hi => nomatch hi
theorem slI_own {m i : Nat} {c : D} {ds : List D} {d : D} (h : (slI m c ds)[i]? = some (.own d)) : i = 0 ∧ d = c := by
  cases i with
  | zero => cases h; exact ⟨rfl, rfl⟩
  | succ i =>
    have h' : (sl0 m ds)[i]? = some (.own d) := h
    rcases sl0_val h' with ⟨d', e1, e2⟩ | e1 <;> cases e1
theorem rel_startI {H S : Hp} {p : Addr} {o : HO} {c : D} {vs : List V} {ds : List D} (e : Ex S H) (hs : S p = none) (hp : H p = some o) (ho : HOD K S o c) (hd : Dens K S vs ds) (hl : ds.length + 1 ≤ N.length) : Rel K [0] (fun _ => p) (L2.start N (.ref p :: vs)) H S (slI (N.length - (ds.length + 1)) c ds) where
  ex := e
  len := by
    rw [start_len (by rw [List.length_cons, hd.length]; exact hl)]
    unfold slI
    rw [List.length_cons, List.length_append, List.length_map, List.length_replicate]
    omega
  val := fun i d h => by
    cases i with
    | zero => cases h
    | succ i =>
      have h' : (sl0 (N.length - (ds.length + 1)) ds)[i]? = some (.val d) := h
      rcases sl0_val h' with ⟨d', e1, e2⟩ | e1
      · cases e1
        obtain ⟨v, h1, h2⟩ := hd.get e2
        exact ⟨v, start_get (by simpa using h1), h2⟩
      · cases e1
  own := fun i d h => by
    obtain ⟨rfl, rfl⟩ := slI_own h
    exact ⟨p, o, start_get rfl, hs, hp, ho⟩
  dis := fun i j d e q h1 h2 _ _ => by
    obtain ⟨rfl, _⟩ := slI_own h1
    obtain ⟨rfl, _⟩ := slI_own h2
    rfl
  fix := fun i hi => by
    have : i = 0 := by simpa using hi
    subst this
    exact start_get rfl
/-- what a body's end hands back -/
def retP (P : D → Prop) : Fl → Prop
  | .nx _ => P .non
  | .rt d _ => P d
  | .rf d _ => P d
  | _ => False
def retF (P : D → Prop) : Fl → Prop
  | .rf d _ => P d
  | _ => False
def retI (P : D → D → Prop) : Fl → Prop
  | .nx ρ => ownD ρ 0 fun c => P .non c
  | .rt d ρ => ownD ρ 0 fun c => P d c
  | .rf d ρ => ownD ρ 0 fun c => P d c
  | _ => False
theorem noOwn0 {σ : L2.St} {m : Nat} {ds : List D} {a : Addr} (h : Owned σ (sl0 m ds) a) : False := by
  obtain ⟨i, d, h, _⟩ := h
  rcases sl0_val h with ⟨d', e1, e2⟩ | e1 <;> cases e1
theorem Tr.gr {σ σ' : L2.St} {H S H' S' : Hp} {m : Nat} {ds : List D} {ρ' : List Sl} (t : Tr σ H S (sl0 m ds) σ' H' S' ρ') (e : Ex S' H') : Gr S H S' H' :=
  ⟨t.exS, fun a o h => t.keep a o h noOwn0, e, fun a h => (t.new a h).imp id fun z => z.imp id fun z => z.resolve_left noOwn0⟩
theorem take_gr {S H S' H' : Hp} {p : Addr} {o : HO} (g : Gr S H S' H') (h0 : H p = none) (hs : S' p = none) (hp : H' p = some o) : Gr S H (upd S' p o) H' :=
  ⟨g.s.trans (Ex.new hs), g.h, fun a u h => by
    by_cases ha : a = p
    · subst ha; rw [upd_same] at h; cases h; exact hp
    · rw [upd_ne ha] at h; exact g.sh a u h, fun a h => by
    by_cases ha : a = p
    · subst ha; exact .inr (.inl h0)
    · rw [upd_ne ha] at h; exact g.new a h⟩
/-- THE RULE for a def that changes nothing -/
theorem fn_pure (F : Fun K x qual st f fd) (S : FnScope N ps (defScope st)) (g : GD) (hn : ps.length ≤ N.length := by decide)
    (hb : ∀ (cdv : Value) (A : Around) (outer : List Env) (s : Shared) (H : Hp) (E : XK), Room k (A.deeper (envOfC qual (defScope st) s.heap.objs.size f cdv)) →
      ∃ B, PSsD (cxOf CX0 P w K mg base N qual (defScope st) f cdv A outer s H E).nox [] (fun _ => 0) (defBody st) B ∧ ∀ ds Pd, ds.length = ps.length → g ds Pd → B (sl0 (N.length - ps.length) ds) (retP Pd)) :
    FnOk P w K mg base CX0 (k + 1) f fd ps (spP K ps.length g) := by
  refine F.ok S (fun vs H Q E h => ?_) (fun cdv A outer s H vs Q E hr h => ?_)
  · obtain ⟨S, ds, Pd, hl, _, hd, _⟩ := h
    rw [hd.length, hl]
  · obtain ⟨S0, ds, Pd, hl, hex, hd, hg, k⟩ := h
    obtain ⟨B, ⟨t, pt, ok⟩, hB⟩ := hb cdv A outer s H E hr
    refine ⟨t, pt, ok _ H S0 _ (retP Pd) _ (rel_start (fa := fun _ => 0) hex hd (by rw [hl]; exact hn)) (by rw [hl]; exact hB ds Pd hl hg) ⟨?_, ?_, ?_, ?_, ?_⟩⟩
    · exact fun σ' H' S' ρ' hP r' t' => k .non S' H' .non hP (t'.gr r'.ex) .non
    · exact fun σ' H' S' ρ' hP r' t' => hP.elim
    · exact fun σ' H' S' ρ' hP r' t' => hP.elim
    · exact fun v d σ' H' S' ρ' hP r' t' den => k v S' H' d hP (t'.gr r'.ex) den
    · rintro v d σ' H' S' ρ' hP r' t' ⟨p, o, rfl, h0, hs, no, hp, hod⟩
      exact k _ _ H' d hP (take_gr (t'.gr r'.ex) (h0.resolve_right noOwn0) hs hp) ((hod.mono (Ex.new hs)).den upd_same)
theorem fn_fresh (F : Fun K x qual st f fd) (S : FnScope N ps (defScope st)) (g : GD) (hn : ps.length ≤ N.length := by decide)
    (hb : ∀ (cdv : Value) (A : Around) (outer : List Env) (s : Shared) (H : Hp) (E : XK), Room k (A.deeper (envOfC qual (defScope st) s.heap.objs.size f cdv)) →
      ∃ B, PSsD (cxOf CX0 P w K mg base N qual (defScope st) f cdv A outer s H E).nox [] (fun _ => 0) (defBody st) B ∧ ∀ ds Pd, ds.length = ps.length → g ds Pd → B (sl0 (N.length - ps.length) ds) (retF Pd)) :
    FnOk P w K mg base CX0 (k + 1) f fd ps (spF K ps.length g) := by
  refine F.ok S (fun vs H Q E h => ?_) (fun cdv A outer s H vs Q E hr h => ?_)
  · obtain ⟨S, ds, Pd, hl, _, hd, _⟩ := h
    rw [hd.length, hl]
  · obtain ⟨S0, ds, Pd, hl, hex, hd, hg, k⟩ := h
    obtain ⟨B, ⟨t, pt, ok⟩, hB⟩ := hb cdv A outer s H E hr
    refine ⟨t, pt, ok _ H S0 _ (retF Pd) _ (rel_start (fa := fun _ => 0) hex hd (by rw [hl]; exact hn)) (by rw [hl]; exact hB ds Pd hl hg) ⟨?_, ?_, ?_, ?_, ?_⟩⟩
    · exact fun σ' H' S' ρ' hP r' t' => hP.elim
    · exact fun σ' H' S' ρ' hP r' t' => hP.elim
    · exact fun σ' H' S' ρ' hP r' t' => hP.elim
    · exact fun v d σ' H' S' ρ' hP r' t' den => hP.elim
    · rintro v d σ' H' S' ρ' hP r' t' ⟨p, o, rfl, h0, hs, no, hp, hod⟩
      exact k p S' H' o d hP (h0.resolve_right noOwn0) (t'.gr r'.ex) hs hp hod
theorem fn_io (F : Fun K x qual st f fd) (S : FnScope N ps (defScope st)) (n : Nat) (g : GI) (hps : ps.length = n + 1 := by rfl) (hn : n + 1 ≤ N.length := by decide)
    (hb : ∀ (cdv : Value) (A : Around) (outer : List Env) (s : Shared) (H : Hp) (E : XK) (p : Addr), Room k (A.deeper (envOfC qual (defScope st) s.heap.objs.size f cdv)) →
      ∃ B, PSsD (cxOf CX0 P w K mg base N qual (defScope st) f cdv A outer s H E).nox [0] (fun _ => p) (defBody st) B ∧ ∀ c ds Pd, ds.length = n → g c ds Pd → B (slI (N.length - (n + 1)) c ds) (retI Pd)) :
    FnOk P w K mg base CX0 (k + 1) f fd ps (spI K n g) := by
  refine F.ok S (fun vs H Q E h => ?_) (fun cdv A outer s H vs Q E hr h => ?_)
  · obtain ⟨S, p, ws, o, c, ds, Pd, rfl, hl, _, _, _, _, hd, _⟩ := h
    rw [List.length_cons, hd.length, hl, hps]
  · obtain ⟨S0, p, ws, o, c, ds, Pd, rfl, hl, hex, hs, hp, ho, hd, hg, k⟩ := h
    obtain ⟨B, ⟨t, pt, ok⟩, hB⟩ := hb cdv A outer s H E p hr
    have r0 : Rel K [0] (fun _ => p) (L2.start N (.ref p :: ws)) H S0 (slI (N.length - (n + 1)) c ds) := by
      have := rel_startI (N := N) hex hs hp ho hd (by rw [hl]; exact hn)
      rw [hl] at this; exact this
    have onl : ∀ a, Owned (L2.start N (.ref p :: ws)) (slI (N.length - (n + 1)) c ds) a → a = p := fun a ⟨i, d, h1, h2⟩ => by
      obtain ⟨rfl, rfl⟩ := slI_own h1
      rw [start_get (vs := .ref p :: ws) rfl] at h2
      cases h2; rfl
    have fin : ∀ (σ' : L2.St) (H' S' : Hp) (ρ' : List Sl) (v : V) (d c' : D), ρ'[0]? = some (.own c') → Pd d c' → Rel K [0] (fun _ => p) σ' H' S' ρ' → Tr (L2.start N (.ref p :: ws)) H S0 (slI (N.length - (n + 1)) c ds) σ' H' S' ρ' →
        Den K S' v d → Q v H' := fun σ' H' S' ρ' v d c' h0 hP r' t' den => by
      obtain ⟨q, o', e1, e2, e3, e4⟩ := r'.own 0 c' h0
      have := r'.fix 0 (by simp)
      rw [e1] at this
      cases this
      refine k v S' H' d c' o' hP t'.exS r'.ex (fun a u ha h => t'.keep a u h fun z => ha (onl a z)) (fun a ha => ?_) e3 e2 e4 den
      rcases t'.new a ha with z | z | z | z
      · exact .inl z
      · exact .inr (.inl z)
      · have := onl a z
        subst this
        exact absurd e2 ha
      · exact .inr (.inr z)
    refine ⟨t, pt, ok _ H S0 _ (retI Pd) _ r0 (hB c ds Pd hl hg) ⟨?_, ?_, ?_, ?_, ?_⟩⟩
    · intro σ' H' S' ρ' hP r' t'
      obtain ⟨c', h0, hP⟩ := ownD_inv hP
      exact fin σ' H' S' ρ' _ _ c' h0 hP r' t' .non
    · exact fun σ' H' S' ρ' hP r' t' => hP.elim
    · exact fun σ' H' S' ρ' hP r' t' => hP.elim
    · intro v d σ' H' S' ρ' hP r' t' den
      obtain ⟨c', h0, hP⟩ := ownD_inv hP
      exact fin σ' H' S' ρ' v d c' h0 hP r' t' den
    · rintro v d σ' H' S' ρ' hP r' t' ⟨q, o', rfl, z0, zs, no, zp, hod⟩
      obtain ⟨c', h0, hP⟩ := ownD_inv hP
      exact fin σ' H' _ ρ' _ d c' h0 hP (r'.take zp zs no) (t'.takeNew (K := K) z0 zs) ((hod.mono (Ex.new zs)).den upd_same)
end
end DL

/-! DL6: operators, subscripts, built-ins by contents. -/
namespace DL
open PySem PySem.Spec PyProof.Rows L2

section
variable {X : Cx} {fi : List Nat} {fa : Nat → Addr} {e a b : Expr} {f fx fy : FE} {pos : Pos}

/-! ### arithmetic -/
def gAdd (x y : D) (P : D → Prop) : Prop := match x, y with
  | .int i, .int j => P (.int (i + j))
  | .tup xs, .tup ys => xs.length + ys.length ≤ 100000 ∧ P (.tup (xs ++ ys))
  | .lst xs, .lst ys => xs.length + ys.length ≤ 100000 ∧ P (.lst (xs ++ ys))
  | .str s, .str t => s.length + t.length ≤ 100000 ∧ P (.str (s ++ t))
  | _, _ => False
theorem od_add : OpD X (binaryOp .Add) gAdd := by
  refine ⟨_, OpR.or op_add (OpR.or op_catA (OpR.or op_cat op_add_str)), fun x y dx dy S H P Q ex hx hy hg k => ?_⟩
  unfold gAdd at hg
  split at hg
  · rw [den_int hx, den_int hy]
    exact .inl ⟨_, _, rfl, rfl, k _ S H _ hg (Gr.refl ex) (.int _)⟩
  · obtain ⟨p, xs, rfl, h1, h2⟩ := den_tup hx
    obtain ⟨q, ys, rfl, h3, h4⟩ := den_tup hy
    refine .inr (.inl ⟨p, q, xs, ys, rfl, rfl, SqT.of (ex _ _ h1), SqT.of (ex _ _ h3), sz_of (by rw [h2.length, h4.length]; exact hg.1), fun e => ?_, fun n e => ?_, fun n m t ht => ?_⟩)
    · subst e
      cases h2
      exact k _ S H _ hg.2 (Gr.refl ex) (.tup h3 h4)
    · subst e
      cases h4
      rw [List.append_nil] at hg
      exact k _ S H _ hg.2 (Gr.refl ex) (.tup h1 h2)
    · have g := Gr.one (o := .tup (xs ++ ys)) ex ht
      exact k _ _ _ _ hg.2 g (.tup upd_same ((h2.append h4).mono g.s))
  · obtain ⟨p, xs, rfl, h1, h2⟩ := den_lst hx
    obtain ⟨q, ys, rfl, h3, h4⟩ := den_lst hy
    refine .inr (.inr (.inl ⟨p, q, xs, ys, rfl, rfl, ex _ _ h1, ex _ _ h3, sz_of (by rw [h2.length, h4.length]; exact hg.1), fun t ht => ?_⟩))
    have g := Gr.one (o := .lst (xs ++ ys)) ex ht
    exact k _ _ _ _ hg.2 g (.lst upd_same ((h2.append h4).mono g.s))
  · rw [den_str hx, den_str hy]
    exact .inr (.inr (.inr ⟨_, _, rfl, rfl, sz_of hg.1, k _ S H _ hg.2 (Gr.refl ex) (.str _)⟩))
  · exact hg.elim
def gI (C : Int → Int → Prop) (h : Int → Int → D) (x y : D) (P : D → Prop) : Prop := match x, y with
  | .int i, .int j => C i j ∧ P (h i j)
  | _, _ => False
theorem od_int {o : Value → Value → Sem Value} {C : Int → Int → Prop} {h : Int → Int → Int} (ho : OpR X o (rI C fun i j => .int (h i j))) : OpD X o (gI C fun i j => .int (h i j)) := by
  refine ⟨_, ho, fun x y dx dy S H P Q ex hx hy hg k => ?_⟩
  unfold gI at hg
  split at hg
  · rw [den_int hx, den_int hy]
    exact ⟨_, _, rfl, rfl, hg.1, k _ S H _ hg.2 (Gr.refl ex) (.int _)⟩
  · exact hg.elim
theorem op_subC : OpR X (binaryOp .Sub) (rI (fun _ _ => True) fun i j => .int (i - j)) := fun pins s σ H x y v u Q I rx ry ⟨i, j, e1, e2, _, q⟩ => op_sub pins s σ H x y v u Q I rx ry ⟨i, j, e1, e2, q⟩
abbrev gSub := gI (fun _ _ => True) fun i j => .int (i - j)
abbrev gMod := gI (fun _ j => 0 < j) fun i j => .int (i % j)
abbrev gDiv := gI CDivW fun i j => .int (i / j)
abbrev gPow := gI CPow fun i j => .int (i ^ j.toNat)
theorem od_sub : OpD X (binaryOp .Sub) gSub := od_int op_subC
theorem od_mod : OpD X (binaryOp .Mod) gMod := od_int op_mod
theorem od_div : OpD X (binaryOp .FloorDiv) gDiv := od_int op_fdivW
theorem od_pow : OpD X (binaryOp .Pow) gPow := od_int op_pow
/-- products of ints; a tuple taken many times -/
theorem tuple_one (l : Addr) (items : Array Value) (n : Nat) (dd : Option Addr) (sl : Array (Option Value)) (u : Tok) :
    Meets (Builtin.«tuple.__mul__» ⟨[.ref l, .int 1 u], []⟩) (fun _ R s => s.heap.get? l = some { cls := .type "tuple", dict := dd, data := .seq items n, slots := sl } ∧ R (.ok (.ret (Value.ref l))) s) :=
  .of_wp fun prog w A R s h => by
    obtain ⟨hp, g, d, tk, os⟩ := s
    obtain ⟨hl, h⟩ := h
    have f1 := AutoSeq1.idx_int
    have c0 : (decide ((1 : Int) < -(2 ^ 63)) || decide ((1 : Int) ≥ 2 ^ 63)) = false := by decide
    have c1 : (items.isEmpty || (1 : Int) == 1) = true := by rw [show ((1 : Int) == 1) = true from rfl, Bool.or_true]
    wp_walk using wpAny_loadPart' hl
    repeat (first
      | (refine wpAny_ite_false (decide_eq_false (by rw [c0]; exact Bool.false_ne_true)) ?_; wp_walk using wpAny_loadPart' hl)
      | (refine wpAny_ite_true (decide_eq_true (by rw [c1])) ?_; wp_walk using wpAny_loadPart' hl))
    exact ⟨_, rfl, h⟩
theorem op_one : OpR X (binaryOp .Mult) (fun x y H Q => ∃ l xs, x = .ref l ∧ y = .int 1 ∧ SqT X.K H l xs ∧ Q (.ref l) H) := by
  intro pins s σ H x y v u Q I rx ry h
  obtain ⟨l, xs, rfl, rfl, hT, q⟩ := h
  cases rx
  obtain ⟨t, rfl⟩ := ry
  obtain ⟨its, r, ⟨⟨cls, dd, data, sl⟩, ho, hc, n, hd⟩, hs⟩ := I.tuple hT
  simp only at hc hd
  subst hc hd
  exact wpAny_binaryOp_repeat_ref (T := "tuple") (U := "int") (by decide) ⟨_, ho, rfl⟩ (fun s' => typeIs_int s' 1 t) noFill_tuple_mul F.fills_int_mul F.slot_int_rmul repeat_tuple F.slot_int_index.lookup
    (call_meets F.slot_int_rmul (typeIs_int s 1 t) F.entry_int_rmul (F.args_int_rmul_2 _ _) (int_rmul_tuple 1 t l its.toArray n dd sl)
      ⟨ho, rfl, ⟨_, ho, rfl⟩, call_meets F.slot_tuple_mul ⟨_, ho, rfl⟩ F.entry_tuple_mul (F.args_tuple_mul_2 _ _) (tuple_one l its.toArray n dd sl t) ⟨ho, ⟨.ref l, H, I, rfl, q⟩⟩⟩)
theorem op_strmul : OpR X (binaryOp .Mult) (fun x y H Q => ∃ s k, x = .str s ∧ y = .int k ∧ s.length ≤ 16 ∧ 0 ≤ k ∧ k ≤ 1000 ∧ Q (.str (PySem.Txt.mul s k)) H) := by
  intro pins s σ H x y v u Q I rx ry h
  obtain ⟨z, k, rfl, rfl, h1, h2, h3, q⟩ := h
  obtain ⟨t, rfl⟩ := rx
  obtain ⟨t', rfl⟩ := ry
  exact PySem.W.KXi.mul rfl h1 (by omega) (by omega) fun t2 k2 _ _ => ⟨.str _, H, I.tok k2, ⟨_, rfl⟩, q⟩
def gMul (x y : D) (P : D → Prop) : Prop := match x, y with
  | .int i, .int j => (CMul i j ∨ CMulW i j) ∧ P (.int (i * j))
  | .tup xs, .int k => xs ≠ [] ∧ 1 ≤ k ∧ k ≤ 1000 ∧ xs.length ≤ 100 ∧ P (.tup (List.replicate k.toNat xs).flatten)
  | .lst xs, .int k => 0 ≤ k ∧ k ≤ 1000 ∧ xs.length ≤ 100 ∧ P (.lst (List.replicate k.toNat xs).flatten)
  | .str s, .int k => s.length ≤ 16 ∧ 0 ≤ k ∧ k ≤ 1000 ∧ P (.str (PySem.Txt.mul s k))
  | _, _ => False
theorem dens_rep {K : PySem.W.Frag} {S : Hp} {vs : List V} {ds : List D} (h : Dens K S vs ds) : ∀ n : Nat, Dens K S (List.replicate n vs).flatten (List.replicate n ds).flatten
  | 0 => .nil
  | n + 1 => by
    rw [List.replicate_succ, List.replicate_succ, List.flatten_cons, List.flatten_cons]
    exact h.append (dens_rep h n)
theorem od_mul : OpD X (binaryOp .Mult) gMul := by
  refine ⟨_, OpR.or op_mul (OpR.or op_mulW (OpR.or op_one (OpR.or op_repT (OpR.or op_rep op_strmul)))), fun x y dx dy S H P Q ex hx hy hg k => ?_⟩
  unfold gMul at hg
  split at hg
  · rw [den_int hx, den_int hy]
    rcases hg with ⟨c | c, hg⟩
    · exact .inl ⟨_, _, rfl, rfl, c, k _ S H _ hg (Gr.refl ex) (.int _)⟩
    · exact .inr (.inl ⟨_, _, rfl, rfl, c, k _ S H _ hg (Gr.refl ex) (.int _)⟩)
  · rename_i ds n
    obtain ⟨p, xs, rfl, h1, h2⟩ := den_tup hx
    rw [den_int hy]
    obtain ⟨g1, g2, g3, g4, g5⟩ := hg
    by_cases h : n = 1
    · subst h
      have e : (List.replicate (1 : Int).toNat ds).flatten = ds := by simp
      rw [e] at g5
      exact .inr (.inr (.inl ⟨p, xs, rfl, rfl, SqT.of (ex _ _ h1), k _ S H _ g5 (Gr.refl ex) (.tup h1 h2)⟩))
    · have hne : xs ≠ [] := fun z => g1 (by
        subst z
        cases h2
        rfl)
      refine .inr (.inr (.inr (.inl ⟨p, n, xs, rfl, rfl, SqT.of (ex _ _ h1), hne, by omega, g3, by rw [h2.length]; omega, fun t ht => ?_⟩)))
      have g := Gr.one (o := .tup (List.replicate n.toNat xs).flatten) ex ht
      exact k _ _ _ _ g5 g (.tup upd_same ((dens_rep h2 _).mono g.s))
  · rename_i ds n
    obtain ⟨p, xs, rfl, h1, h2⟩ := den_lst hx
    rw [den_int hy]
    obtain ⟨g1, g2, g3, g4⟩ := hg
    refine .inr (.inr (.inr (.inr (.inl ⟨p, n, xs, rfl, rfl, ex _ _ h1, by omega, by omega, ?_, fun t ht => ?_⟩))))
    · have : xs.length * n.toNat ≤ 100 * 1000 := Nat.mul_le_mul (by rw [h2.length]; exact g3) (by omega)
      exact sz_of (by omega)
    · have g := Gr.one (o := .lst (List.replicate n.toNat xs).flatten) ex ht
      exact k _ _ _ _ g4 g (.lst upd_same ((dens_rep h2 _).mono g.s))
  · rw [den_str hx, den_int hy]
    obtain ⟨g1, g2, g3, g4⟩ := hg
    exact .inr (.inr (.inr (.inr (.inr ⟨_, _, rfl, rfl, g1, g2, g3, k _ S H _ g4 (Gr.refl ex) (.str _)⟩))))
  · exact hg.elim
def gNeg (x : D) (P : D → Prop) : Prop := match x with
  | .int i => P (.int (-i))
  | _ => False
theorem ud_neg : UnD X (unaryOp .USub) gNeg := by
  refine ⟨_, un_neg, fun x dx S H P Q ex hx hg k => ?_⟩
  unfold gNeg at hg
  split at hg
  · rw [den_int hx]
    exact ⟨_, rfl, k _ S H _ hg (Gr.refl ex) (.int _)⟩
  · exact hg.elim

/-! ### data compared -/
mutual
def toP : D → PyData
  | .non => .none
  | .bl b => .bool b
  | .int i => .int i
  | .str s => .str s
  | .lst xs => .list (toPs xs)
  | .tup xs => .tuple (toPs xs)
  | _ => .dict []
def toPs : List D → List PyData
  | [] => []
  | x :: xs => toP x :: toPs xs
end
mutual
theorem den_dp {K : PySem.W.Frag} {H : Hp} : ∀ (d : D) (v : V), (toP d).plain = true → Den K H v d → Dp K H v (toP d)
  | .non, _, _, h => by cases h; exact .non
  | .bl b, _, _, h => by cases h; exact .bl b
  | .int i, _, _, h => by cases h; exact .int i
  | .str s, _, _, h => by cases h; exact .str s
  | .lst xs, _, p, h => by
    cases h with
    | lst h t => exact .lst (SqL.of h) (dens_dp xs _ p t)
  | .tup xs, _, p, h => by
    cases h with
    | tup h t => exact .tup (SqT.of h) (dens_dp xs _ p t)
  | .rol _, _, p, _ => nomatch p
  | .ty _, _, p, _ => nomatch p
  | .ref _, _, p, _ => nomatch p
  | .dT _ _, _, p, _ => nomatch p
  | .dK _ _, _, p, _ => nomatch p
  | .obj _ _ _, _, p, _ => nomatch p
theorem dens_dp {K : PySem.W.Frag} {H : Hp} : ∀ (ds : List D) (vs : List V), PyData.plainAll (toPs ds) = true → Dens K H vs ds → DpAll K H vs (toPs ds)
  | [], _, _, h => by cases h; exact .nil
  | d :: ds, _, p, h => by
    have p' : (toP d).plain = true ∧ PyData.plainAll (toPs ds) = true := by simpa [toPs, PyData.plainAll] using p
    cases h with
    | cons h1 h2 => exact .cons (den_dp d _ p'.1 h1) (dens_dp ds _ p'.2 h2)
end
def EqOk (x y : D) : Prop := (toP x).plain = true ∧ (toP y).plain = true ∧ ((toP x).depth ≤ 60 ∨ (toP y).depth ≤ 60)
def gEq (x y : D) (P : D → Prop) : Prop := EqOk x y ∧ P (.bl (PyData.eqv (toP x) (toP y)))
def gNe (x y : D) (P : D → Prop) : Prop := EqOk x y ∧ P (.bl (!PyData.eqv (toP x) (toP y)))
theorem room_min {A : Around} {a b : Nat} (h : a ≤ 60 ∨ b ≤ 60) (hu : A.units + 64 < cLine) : A.units + min a b < cLine := by
  have := Nat.min_le_left a b
  have := Nat.min_le_right a b
  omega
def rEqP (K : PySem.W.Frag) : R2 := fun x y H Q => ∃ d e, Dp K H x d ∧ Dp K H y e ∧ d.plain = true ∧ e.plain = true ∧ (d.depth ≤ 60 ∨ e.depth ≤ 60) ∧ Q (.bl (PyData.eqv d e)) H
def rNeP (K : PySem.W.Frag) : R2 := fun x y H Q => ∃ d e, Dp K H x d ∧ Dp K H y e ∧ d.plain = true ∧ e.plain = true ∧ (d.depth ≤ 60 ∨ e.depth ≤ 60) ∧ Q (.bl (!PyData.eqv d e)) H
theorem op_eqP (hu : X.A.units + 64 < cLine) : OpR X (compareOp .Eq) (rEqP X.K) := by
  intro pins s σ H x y v u Q I rx ry ⟨d, e, h1, h2, p1, p2, dep, q⟩
  obtain ⟨as, r1⟩ := Dp.reads I d x v h1 rx
  obtain ⟨bs, r2⟩ := Dp.reads I e y u h2 ry
  exact SeqAt.eq_plain r1 r2 p1 p2 (room_min dep hu) ⟨.bl _, H, I, rfl, q⟩
theorem op_neP (hu : X.A.units + 64 < cLine) : OpR X (compareOp .NotEq) (rNeP X.K) := by
  intro pins s σ H x y v u Q I rx ry ⟨d, e, h1, h2, p1, p2, dep, q⟩
  obtain ⟨as, r1⟩ := Dp.reads I d x v h1 rx
  obtain ⟨bs, r2⟩ := Dp.reads I e y u h2 ry
  exact SeqAt.ne_plain r1 r2 p1 p2 (room_min dep hu) ⟨.bl _, H, I, rfl, q⟩
theorem od_eq (hu : X.A.units + 64 < cLine) : OpD X (compareOp .Eq) gEq := ⟨_, op_eqP hu, fun x y dx dy S H P Q ex hx hy hg k =>
  ⟨_, _, den_dp dx x hg.1.1 (hx.mono ex), den_dp dy y hg.1.2.1 (hy.mono ex), hg.1.1, hg.1.2.1, hg.1.2.2, k _ S H _ hg.2 (Gr.refl ex) (.bl _)⟩⟩
theorem od_ne (hu : X.A.units + 64 < cLine) : OpD X (compareOp .NotEq) gNe := ⟨_, op_neP hu, fun x y dx dy S H P Q ex hx hy hg k =>
  ⟨_, _, den_dp dx x hg.1.1 (hx.mono ex), den_dp dy y hg.1.2.1 (hy.mono ex), hg.1.1, hg.1.2.1, hg.1.2.2, k _ S H _ hg.2 (Gr.refl ex) (.bl _)⟩⟩
/-- x in a list, a tuple of data -/
def seqP : D → Option (List D)
  | .lst xs => some xs
  | .tup xs => some xs
  | _ => none
def gInB (neg : Bool) (x y : D) (P : D → Prop) : Prop := ∃ xs, seqP y = some xs ∧ (toP x).plain = true ∧ PyData.plainAll (toPs xs) = true ∧ (toP x).depth ≤ 60 ∧ P (.bl (neg != (toPs xs).any fun z => PyData.eqv z (toP x)))
def rInP (neg : Bool) (K : PySem.W.Frag) : R2 := fun x y H Q => ∃ d ds, Dp K H x d ∧ (Dp K H y (.list ds) ∨ Dp K H y (.tuple ds)) ∧ d.plain = true ∧ PyData.plainAll ds = true ∧ d.depth ≤ 60 ∧ Q (.bl (neg != ds.any fun z => PyData.eqv z d)) H
theorem op_inP (hu : X.A.units + 64 < cLine) : OpR X (compareOp .In) (rInP false X.K) := by
  intro pins s σ H x y v u Q I rx ry ⟨d, ds, h1, h2, p1, p2, dep, q⟩
  obtain ⟨as, r1⟩ := Dp.reads I d x v h1 rx
  have rm : X.A.units + 1 + min (PyData.depthAll ds) d.depth < cLine := by
    have := Nat.min_le_right (PyData.depthAll ds) d.depth
    omega
  rw [Bool.false_bne] at q
  rcases h2 with h2 | h2
  · obtain ⟨bs, r2⟩ := Dp.reads I _ y u h2 ry
    exact SeqAt.in_list_data r2 r1 p2 p1 rm ⟨.bl _, H, I, rfl, q⟩
  · obtain ⟨bs, r2⟩ := Dp.reads I _ y u h2 ry
    exact SeqAt.in_tuple_data r2 r1 p2 p1 rm ⟨.bl _, H, I, rfl, q⟩
theorem op_notInP (hu : X.A.units + 64 < cLine) : OpR X (compareOp .NotIn) (rInP true X.K) := by
  intro pins s σ H x y v u Q I rx ry ⟨d, ds, h1, h2, p1, p2, dep, q⟩
  obtain ⟨as, r1⟩ := Dp.reads I d x v h1 rx
  have rm : X.A.units + 1 + min (PyData.depthAll ds) d.depth < cLine := by
    have := Nat.min_le_right (PyData.depthAll ds) d.depth
    omega
  rw [Bool.true_bne] at q
  rcases h2 with h2 | h2
  · obtain ⟨bs, r2⟩ := Dp.reads I _ y u h2 ry
    exact SeqAt.notIn_list_data r2 r1 p2 p1 rm ⟨.bl _, H, I, rfl, q⟩
  · obtain ⟨bs, r2⟩ := Dp.reads I _ y u h2 ry
    exact SeqAt.notIn_tuple_data r2 r1 p2 p1 rm ⟨.bl _, H, I, rfl, q⟩
theorem in_dp {K : PySem.W.Frag} {S H : Hp} {y : D} {v : V} {xs : List D} (e : seqP y = some xs) (p : PyData.plainAll (toPs xs) = true) (ex : Ex S H) (h : Den K S v y) : Dp K H v (.list (toPs xs)) ∨ Dp K H v (.tuple (toPs xs)) := by
  cases y with
  | lst ys =>
    cases e
    obtain ⟨a, zs, rfl, h1, h2⟩ := den_lst h
    exact .inl (.lst (SqL.of (ex _ _ h1)) (dens_dp _ _ p (h2.mono ex)))
  | tup ys =>
    cases e
    obtain ⟨a, zs, rfl, h1, h2⟩ := den_tup h
    exact .inr (.tup (SqT.of (ex _ _ h1)) (dens_dp _ _ p (h2.mono ex)))
  | _ => cases e
theorem od_in (hu : X.A.units + 64 < cLine) : OpD X (compareOp .In) (gInB false) := ⟨_, op_inP hu, fun x y dx dy S H P Q ex hx hy hg k => by
  obtain ⟨xs, e, h1, h2, h3, h4⟩ := hg
  exact ⟨_, _, den_dp dx x h1 (hx.mono ex), in_dp e h2 ex hy, h1, h2, h3, k _ S H _ h4 (Gr.refl ex) (.bl _)⟩⟩
theorem od_notIn (hu : X.A.units + 64 < cLine) : OpD X (compareOp .NotIn) (gInB true) := ⟨_, op_notInP hu, fun x y dx dy S H P Q ex hx hy hg k => by
  obtain ⟨xs, e, h1, h2, h3, h4⟩ := hg
  exact ⟨_, _, den_dp dx x h1 (hx.mono ex), in_dp e h2 ex hy, h1, h2, h3, k _ S H _ h4 (Gr.refl ex) (.bl _)⟩⟩

/-! ### order, identity -/
def gLt (x y : D) (P : D → Prop) : Prop := match x, y with
  | .int i, .int j => P (.bl (decide (i < j)))
  | .tup xs, .tup ys => intsD xs fun is => intsD ys fun js => P (.bl (HT.lexLt is js))
  | _, _ => False
theorem od_lt (hu : X.A.units + 64 < cLine) : OpD X (compareOp .Lt) gLt := by
  refine ⟨_, OpR.or op_lt (op_ltT (by omega)), fun x y dx dy S H P Q ex hx hy hg k => ?_⟩
  unfold gLt at hg
  split at hg
  · rw [den_int hx, den_int hy]
    exact .inl ⟨_, _, rfl, rfl, k _ S H _ hg (Gr.refl ex) (.bl _)⟩
  · obtain ⟨p, xs, rfl, h1, h2⟩ := den_tup hx
    obtain ⟨q, ys, rfl, h3, h4⟩ := den_tup hy
    obtain ⟨is, e1, _, hg⟩ := intsD_inv hg h2
    obtain ⟨js, e2, _, hg⟩ := intsD_inv hg h4
    subst e1
    subst e2
    exact .inr ⟨p, q, is, js, rfl, rfl, SqT.of (ex _ _ h1), SqT.of (ex _ _ h3), k _ S H _ hg (Gr.refl ex) (.bl _)⟩
  · exact hg.elim
def gC (h : Int → Int → Bool) (x y : D) (P : D → Prop) : Prop := match x, y with
  | .int i, .int j => P (.bl (h i j))
  | _, _ => False
theorem od_c {o : Value → Value → Sem Value} {h : Int → Int → Bool} (ho : OpR X o (rI0 fun i j => .bl (h i j))) : OpD X o (gC h) := by
  refine ⟨_, ho, fun x y dx dy S H P Q ex hx hy hg k => ?_⟩
  unfold gC at hg
  split at hg
  · rw [den_int hx, den_int hy]
    exact ⟨_, _, rfl, rfl, k _ S H _ hg (Gr.refl ex) (.bl _)⟩
  · exact hg.elim
abbrev gLe := gC fun i j => decide (i ≤ j)
abbrev gGt := gC fun i j => decide (j < i)
abbrev gGe := gC fun i j => decide (j ≤ i)
theorem od_le : OpD X (compareOp .LtE) gLe := od_c op_le
theorem od_gt : OpD X (compareOp .Gt) gGt := od_c op_gt
theorem od_ge : OpD X (compareOp .GtE) gGe := od_c op_ge
def isNon : D → Bool
  | .non => true
  | _ => false
theorem den_isNon {K : PySem.W.Frag} {S : Hp} {v : V} {d : D} (h : Den K S v d) : decide (v = .non) = isNon d := by
  cases h <;> rfl
def gIs (x y : D) (P : D → Prop) : Prop := match x, y with
  | .bl a, .bl b => P (.bl (decide (a = b)))
  | x, .non => P (.bl (isNon x))
  | _, _ => False
def gIsNot (x y : D) (P : D → Prop) : Prop := match x, y with
  | .bl a, .bl b => P (.bl (!decide (a = b)))
  | x, .non => P (.bl (!isNon x))
  | _, _ => False
theorem od_is : OpD X (compareOp .Is) gIs := by
  refine ⟨_, OpR.or op_is_bl op_isN, fun x y dx dy S H P Q ex hx hy hg k => ?_⟩
  unfold gIs at hg
  split at hg
  · rw [den_bl hx, den_bl hy]
    exact .inl ⟨_, _, rfl, rfl, k _ S H _ hg (Gr.refl ex) (.bl _)⟩
  · rw [den_non hy]
    refine .inr ⟨rfl, ?_⟩
    rw [den_isNon hx]
    exact k _ S H _ hg (Gr.refl ex) (.bl _)
  · exact hg.elim
theorem od_isNot : OpD X (compareOp .IsNot) gIsNot := by
  refine ⟨_, OpR.or op_isnot_bl op_notN, fun x y dx dy S H P Q ex hx hy hg k => ?_⟩
  unfold gIsNot at hg
  split at hg
  · rw [den_bl hx, den_bl hy]
    exact .inl ⟨_, _, rfl, rfl, k _ S H _ hg (Gr.refl ex) (.bl _)⟩
  · rw [den_non hy]
    refine .inr ⟨rfl, ?_⟩
    rw [den_isNon hx]
    exact k _ S H _ hg (Gr.refl ex) (.bl _)
  · exact hg.elim
end
end DL

/-! DL7: subscripts, slices, dicts, built-ins, changes of what is owned, calls by keywords. -/
namespace DL
open PySem PySem.Spec PyProof.Rows L2

section
variable {X : Cx} {fi : List Nat} {fa : Nat → Addr} {e a b o i : Expr} {es : List Expr} {f fx fy fd fv : FE} {fs : FA} {pos : Pos}

/-! ### subscripts -/
theorem atI_den {K : PySem.W.Frag} {S : Hp} {vs : List V} {ds : List D} {k : Int} {d : D} (h : Dens K S vs ds) (e : atI ds k = some d) : ∃ v, atI vs k = some v ∧ Den K S v d := by
  unfold atI at e ⊢
  rw [h.length]
  cases q : ixN ds.length k with
  | none => rw [q] at e; cases e
  | some j =>
    rw [q] at e
    exact h.get (i := j) e
def seqL : D → Option (List D)
  | .lst xs => some xs
  | .tup xs => some xs
  | .rol xs => some xs
  | _ => none
theorem den_seqL {K : PySem.W.Frag} {S : Hp} {v : V} {d : D} {xs : List D} (e : seqL d = some xs) (h : Den K S v d) : ∃ a vs, v = .ref a ∧ (SqL K S a vs ∨ SqT K S a vs) ∧ Dens K S vs xs := by
  cases d with
  | lst ys => cases e; obtain ⟨a, vs, e, h1, h2⟩ := den_lst h; exact ⟨a, vs, e, .inl (SqL.of h1), h2⟩
  | tup ys => cases e; obtain ⟨a, vs, e, h1, h2⟩ := den_tup h; exact ⟨a, vs, e, .inr (SqT.of h1), h2⟩
  | rol ys => cases e; obtain ⟨a, vs, e, h1, h2⟩ := den_rol h; exact ⟨a, vs, e, .inl h1, h2⟩
  | _ => cases e
def gIx (x y : D) (P : D → Prop) : Prop := match y with
  | .int k => ∃ xs d, seqL x = some xs ∧ atI xs k = some d ∧ P d
  | _ => False
theorem pd_ix (ha : PED X fi fa a fx) (hb : PED X fi fa b fy) (hs : PlainIx b := by exact fun _ _ => rfl) : PED X fi fa (.Subscript a b pos) (fOp gIx fx fy) := by
  obtain ⟨tx, px, ox⟩ := ha
  obtain ⟨ty, py, oy⟩ := hb
  refine ⟨_, pe_ix (IxR.or ix_list ix_tup) px py hs, ok_op (o := fun _ _ => pure .none) (fun x y dx dy S H P Q ex hx hy hg k => ?_) ox oy⟩
  unfold gIx at hg
  split at hg
  · obtain ⟨xs, d, e1, e2, hg⟩ := hg
    rw [den_int hy]
    obtain ⟨a, vs, rfl, h1, h2⟩ := den_seqL e1 hx
    obtain ⟨v, h3, h4⟩ := atI_den h2 e2
    rcases h1 with h1 | h1
    · exact .inl ⟨a, vs, _, v, rfl, rfl, ex.l h1, h3, k v S H d hg (Gr.refl ex) h4⟩
    · exact .inr ⟨a, vs, _, v, rfl, rfl, ex.t h1, h3, k v S H d hg (Gr.refl ex) h4⟩
  · exact hg.elim

/-! ### slices -/
abbrev FO := List Sl → (Option Int → List Sl → Prop) → Prop
def OkO (K : PySem.W.Frag) (fi : List Nat) (fa : Nat → Addr) (to : TO) (f : FO) : Prop := ∀ (σ : L2.St) (H S : Hp) (ρ : List Sl) (P : Option Int → List Sl → Prop) (Q : Option Int → Hp → Prop), Rel K fi fa σ H S ρ → f ρ P →
  (∀ x H' S' ρ', P x ρ' → Rel K fi fa σ H' S' ρ' → Tr σ H S ρ σ H' S' ρ' → Q x H') → to σ H Q
def POD (X : Cx) (fi : List Nat) (fa : Nat → Addr) (e : Option Expr) (f : FO) : Prop := ∃ t, PO X e t ∧ OkO X.K fi fa t f
def fPN : FO := fun ρ P => P none ρ
def asI (d : D) (P : Int → Prop) : Prop := match d with
  | .int i => P i
  | _ => False
theorem asI_inv {d : D} {P : Int → Prop} (h : asI d P) : ∃ i, d = .int i ∧ P i := by
  unfold asI at h
  split at h
  · exact ⟨_, rfl, h⟩
  · exact h.elim
def fPS (f : FE) : FO := fun ρ P => f ρ fun d ρ1 => asI d fun i => P (some i) ρ1
theorem pod_n : POD X fi fa none fPN := ⟨_, po_none, fun σ H S ρ P Q r hf k => k none H S ρ hf r (Tr.refl _ _ _ _)⟩
theorem pod_s (h : PED X fi fa e f) : POD X fi fa (some e) (fPS f) := by
  obtain ⟨t, p, ok⟩ := h
  refine ⟨_, po_some p, fun σ H S ρ P Q r hf k => ok σ H S ρ _ _ r hf fun v H' S' d ρ' hP r' t' hd => ?_⟩
  obtain ⟨i, rfl, hP⟩ := asI_inv hP
  exact ⟨i, den_int hd, k _ H' S' ρ' hP r' t'⟩
def cutD (ds : List D) (lo hi : Option Int) : List D := (ds.drop (HT.sIx ds.length 0 lo)).take (HT.sIx ds.length ds.length hi - HT.sIx ds.length 0 lo)
theorem dens_cut {K : PySem.W.Frag} {S : Hp} {vs : List V} {ds : List D} (h : Dens K S vs ds) (lo hi : Option Int) : Dens K S (cutV vs lo hi) (cutD ds lo hi) := by
  unfold cutV cutD
  rw [h.length]
  exact (h.drop _).take _
def gSl (d : D) (lo hi : Option Int) (P : D → Prop) : Prop := match d with
  | .lst xs => P (.lst (cutD xs lo hi))
  | .rol xs => P (.lst (cutD xs lo hi))
  | .tup xs => P (.tup (cutD xs lo hi))
  | _ => False
def fSl (f : FE) (lo hi : FO) : FE := fun ρ P => f ρ fun d ρ1 => lo ρ1 fun l ρ2 => hi ρ2 fun h ρ3 => gSl d l h fun x => P x ρ3
theorem cut_whole {vs : List V} {lo hi : Option Int} (h : HT.sIx vs.length 0 lo = 0 ∧ HT.sIx vs.length vs.length hi = vs.length) : cutV vs lo hi = vs := by
  unfold cutV
  rw [h.1, h.2, List.drop_zero, Nat.sub_zero, List.take_length]
theorem pd_sl {lo hi : Option Expr} {flo fhi : FO} {p2 : Pos} (he : PED X fi fa e f) (hl : POD X fi fa lo flo) (hh : POD X fi fa hi fhi) : PED X fi fa (.Subscript e (.Slice lo hi none p2) pos) (fSl f flo fhi) := by
  obtain ⟨t, p, ok⟩ := he
  obtain ⟨tl, pl, okl⟩ := hl
  obtain ⟨th, ph, okh⟩ := hh
  refine ⟨_, pe_slice (SlR.or sl_list sl_tupA) p pl ph, fun σ H S ρ P Q r hf k => ok σ H S ρ _ _ r hf fun v H1 S1 d ρ1 h1 r1 t1 d1 => okl σ H1 S1 ρ1 _ _ r1 h1 fun l H2 S2 ρ2 h2 r2 t2 => okh σ H2 S2 ρ2 _ _ r2 h2 fun u H3 S3 ρ3 h3 r3 t3 => ?_⟩
  have d3 := (d1.mono t2.exS).mono t3.exS
  have T := (t1.trans t2).trans t3
  unfold gSl at h3
  split at h3
  · obtain ⟨a, xs, rfl, g1, g2⟩ := den_lst d3
    refine .inl ⟨a, xs, rfl, SqL.of (r3.ex _ _ g1), fun q hq => ?_⟩
    have g := Gr.one (o := .lst (cutV xs l u)) r3.ex hq
    exact k _ _ _ _ ρ3 h3 (r3.grow g) (T.trans g.tr) (.lst upd_same ((dens_cut g2 l u).mono g.s))
  · obtain ⟨a, xs, rfl, g1, g2⟩ := den_rol d3
    refine .inl ⟨a, xs, rfl, r3.ex.l g1, fun q hq => ?_⟩
    have g := Gr.one (o := .lst (cutV xs l u)) r3.ex hq
    exact k _ _ _ _ ρ3 h3 (r3.grow g) (T.trans g.tr) (.lst upd_same ((dens_cut g2 l u).mono g.s))
  · obtain ⟨a, xs, rfl, g1, g2⟩ := den_tup d3
    refine .inr ⟨a, xs, rfl, SqT.of (r3.ex _ _ g1), fun hw => ?_, fun _ q hq => ?_⟩
    · have c := dens_cut g2 l u
      rw [cut_whole hw] at c
      exact k _ H3 S3 _ ρ3 h3 r3 T (.tup g1 c)
    · have g := Gr.one (o := .tup (cutV xs l u)) r3.ex hq
      exact k _ _ _ _ ρ3 h3 (r3.grow g) (T.trans g.tr) (.tup upd_same ((dens_cut g2 l u).mono g.s))
  · exact h3.elim

/-! ### dicts -/
def kD : Key → D
  | .inl i => .int i
  | .inr s => .str s
def asK : D → Option Key
  | .int i => some (.inl i)
  | .str s => some (.inr s)
  | _ => none
def asKs : List D → Option (List Key)
  | [] => some []
  | d :: ds => (asK d).bind fun k => (asKs ds).map (k :: ·)
def asTK : D → Option (List Key)
  | .tup ds => asKs ds
  | _ => none
theorem asK_den {K : PySem.W.Frag} {S : Hp} {v : V} {d : D} {k : Key} (e : asK d = some k) (h : Den K S v d) : v = kV k ∧ d = kD k := by
  cases d with
  | int i => cases e; exact ⟨den_int h, rfl⟩
  | str s => cases e; exact ⟨den_str h, rfl⟩
  | _ => cases e
theorem asKs_den {K : PySem.W.Frag} {S : Hp} : ∀ {ds : List D} {ks : List Key} {vs : List V}, asKs ds = some ks → Dens K S vs ds → vs = ks.map kV ∧ ds = ks.map kD
  | [], ks, _, e, .nil => by cases e; exact ⟨rfl, rfl⟩
  | d :: ds, ks, _, e, .cons h t => by
    unfold asKs at e
    cases q : asK d with
    | none => rw [q] at e; cases e
    | some k =>
      rw [q] at e
      cases q2 : asKs ds with
      | none => rw [q2] at e; cases e
      | some ks' =>
        rw [q2] at e
        cases e
        obtain ⟨e1, e2⟩ := asK_den q h
        obtain ⟨e3, e4⟩ := asKs_den q2 t
        exact ⟨by rw [e1, e3]; rfl, by rw [e2, e4]; rfl⟩
theorem asTK_den {K : PySem.W.Frag} {S : Hp} {v : V} {d : D} {ks : List Key} (e : asTK d = some ks) (h : Den K S v d) : ∃ b, v = .ref b ∧ S b = some (.tup (ks.map kV)) := by
  cases d with
  | tup ds =>
    obtain ⟨b, xs, rfl, h1, h2⟩ := den_tup h
    obtain ⟨e1, _⟩ := asKs_den e h2
    subst e1
    exact ⟨b, rfl, h1⟩
  | _ => cases e
theorem den_keys {K : PySem.W.Frag} {S : Hp} : ∀ ks : List Key, Dens K S (ks.map kV) (ks.map kD)
  | [] => .nil
  | .inl i :: ks => .cons (.int i) (den_keys ks)
  | .inr s :: ks => .cons (.str s) (den_keys ks)
section
variable {κ : Type} [DecidableEq κ]
def look : List κ → List D → κ → Option D
  | k' :: ks, d :: ds, k => if k' = k then some d else look ks ds k
  | _, _, _ => none
def putKs (ks : List κ) (k : κ) : List κ := if k ∈ ks then ks else ks ++ [k]
def replV : List κ → List D → κ → D → List D
  | k' :: ks, d :: ds, k, x => (if k' = k then x else d) :: replV ks ds k x
  | _, _, _, _ => []
def putVs (ks : List κ) (ds : List D) (k : κ) (x : D) : List D := if k ∈ ks then replV ks ds k x else ds ++ [x]
theorem look_val {K : PySem.W.Frag} {S : Hp} (k : κ) : ∀ {kvs : List (κ × V)} {ds : List D}, Dens K S (kvs.map (·.2)) ds → (valV kvs k = none ∧ look (kvs.map (·.1)) ds k = none) ∨ ∃ v d, valV kvs k = some v ∧ look (kvs.map (·.1)) ds k = some d ∧ Den K S v d
  | [], _, .nil => .inl ⟨rfl, rfl⟩
  | (k', v) :: kvs, _, .cons h t => by
    by_cases e : k' = k
    · exact .inr ⟨v, _, valV_pos e, by show look (k' :: _) _ k = _; unfold look; rw [if_pos e], h⟩
    · rcases look_val k t with ⟨h1, h2⟩ | ⟨u, d, h1, h2, h3⟩
      · exact .inl ⟨by rw [valV_neg e]; exact h1, by show look (k' :: _) _ k = _; unfold look; rw [if_neg e]; exact h2⟩
      · exact .inr ⟨u, d, by rw [valV_neg e]; exact h1, by show look (k' :: _) _ k = _; unfold look; rw [if_neg e]; exact h2, h3⟩
theorem repl_val {K : PySem.W.Frag} {S : Hp} {k : κ} {v : V} {x : D} (hx : Den K S v x) : ∀ {kvs : List (κ × V)} {ds : List D}, Dens K S (kvs.map (·.2)) ds → Dens K S ((kvs.map fun kv => if kv.1 = k then (kv.1, v) else kv).map (·.2)) (replV (kvs.map (·.1)) ds k x)
  | [], _, .nil => .nil
  | (k', u) :: kvs, _, .cons h t => by
    by_cases e : k' = k
    · show Dens K S ((if k' = k then (k', v) else (k', u)).2 :: _) ((if k' = k then x else _) :: _)
      rw [if_pos e, if_pos e]
      exact .cons hx (repl_val hx t)
    · show Dens K S ((if k' = k then (k', v) else (k', u)).2 :: _) ((if k' = k then x else _) :: _)
      rw [if_neg e, if_neg e]
      exact .cons h (repl_val hx t)
theorem repl_keys {k : κ} {v : V} : ∀ kvs : List (κ × V), (kvs.map fun kv => if kv.1 = k then (kv.1, v) else kv).map (·.1) = kvs.map (·.1)
  | [] => rfl
  | (k', u) :: kvs => by
    rw [List.map_cons, List.map_cons, List.map_cons, repl_keys kvs]
    show (if k' = k then (k', v) else (k', u)).1 :: _ = k' :: _
    by_cases e : k' = k
    · rw [if_pos e]
    · rw [if_neg e]
theorem any_mem (k : κ) (kvs : List (κ × V)) : (kvs.any fun kv => decide (kv.1 = k)) = true ↔ k ∈ kvs.map (·.1) := by
  rw [List.any_eq_true, List.mem_map]
  constructor
  · rintro ⟨p, h1, h2⟩
    exact ⟨p, h1, of_decide_eq_true h2⟩
  · rintro ⟨p, h1, h2⟩
    exact ⟨p, h1, decide_eq_true h2⟩
theorem put_val {K : PySem.W.Frag} {S : Hp} {k : κ} {v : V} {x : D} (hx : Den K S v x) {kvs : List (κ × V)} {ds : List D} (h : Dens K S (kvs.map (·.2)) ds) :
    putKs (kvs.map (·.1)) k = (putK kvs k v).map (·.1) ∧ Dens K S ((putK kvs k v).map (·.2)) (putVs (kvs.map (·.1)) ds k x) := by
  unfold putKs putVs putK
  by_cases hk : k ∈ kvs.map (·.1)
  · rw [if_pos hk, if_pos hk, if_pos ((any_mem k kvs).mpr hk)]
    exact ⟨(repl_keys kvs).symm, repl_val hx h⟩
  · rw [if_neg hk, if_neg hk, if_neg (fun z => hk ((any_mem k kvs).mp z))]
    rw [List.map_append, List.map_append]
    exact ⟨rfl, h.append (.one hx)⟩
end
/-- what a dict holds at a key -/
def dlook (d y : D) (P : Option D → Prop) : Prop := match d with
  | .dT ks vs => ∃ k, asTK y = some k ∧ P (look ks vs k)
  | .dK ks vs => ∃ k, asK y = some k ∧ P (look ks vs k)
  | _ => False
theorem dlook_get {K : PySem.W.Frag} {S H : Hp} {v u : V} {d y : D} {P : Option D → Prop} (ex : Ex S H) (hd : Den K S v d) (hy : Den K S u y) (h : dlook d y P) :
    ∃ a ov od, v = .ref a ∧ DGet H a u ov ∧ P od ∧ ((ov = none ∧ od = none) ∨ ∃ z dz, ov = some z ∧ od = some dz ∧ Den K S z dz) := by
  unfold dlook at h
  split at h
  · obtain ⟨k, e, hP⟩ := h
    obtain ⟨a, kvs, rfl, h1, h2, h3⟩ := den_dT hd
    obtain ⟨b, rfl, h4⟩ := asTK_den e hy
    subst h2
    exact ⟨a, _, _, rfl, .inr ⟨kvs, k, b, ex.rd h1, rfl, ex _ _ h4, rfl⟩, hP, look_val k h3⟩
  · obtain ⟨k, e, hP⟩ := h
    obtain ⟨a, kvs, rfl, h1, h2, h3⟩ := den_dK hd
    obtain ⟨e1, e2⟩ := asK_den e hy
    subst h2
    subst e1
    exact ⟨a, _, _, rfl, .inl ⟨kvs, k, ex.rd h1, rfl, rfl⟩, hP, look_val k h3⟩
  · exact h.elim
def fDGet (fd fy : FE) : FE := fun ρ P => fd ρ fun d ρ1 => fy ρ1 fun y ρ2 => dlook d y fun o => ∃ x, o = some x ∧ P x ρ2
def fDIn (neg : Bool) (fy fd : FE) : FE := fun ρ P => fy ρ fun y ρ1 => fd ρ1 fun d ρ2 => dlook d y fun o => P (.bl (neg != o.isSome)) ρ2
theorem pd_dget (hu : X.A.units + 1 < cLine) (ho : PED X fi fa o fd) (hi : PED X fi fa i fy) (hs : NoSl i := by exact fun _ _ => rfl) : PED X fi fa (.Subscript o i pos) (fDGet fd fy) := by
  obtain ⟨t1, p1, o1⟩ := ho
  obtain ⟨t2, p2, o2⟩ := hi
  refine ⟨_, pe_dget hu p1 p2 hs, fun σ H S ρ P Q r hf k => o1 σ H S ρ _ _ r hf fun v H1 S1 d ρ1 h1 r1 t1 d1 => o2 σ H1 S1 ρ1 _ _ r1 h1 fun u H2 S2 y ρ2 h2 r2 t2 d2 => ?_⟩
  obtain ⟨a, ov, od, rfl, g, ⟨x, rfl, hP⟩, z⟩ := dlook_get r2.ex (d1.mono t2.exS) d2 h2
  rcases z with ⟨_, z⟩ | ⟨z, dz, rfl, e, hz⟩
  · cases z
  · cases e
    exact ⟨a, z, rfl, g, k z H2 S2 _ ρ2 hP r2 (t1.trans t2) hz⟩
theorem some_iff {K : PySem.W.Frag} {S : Hp} {ov : Option V} {od : Option D} (z : (ov = none ∧ od = none) ∨ ∃ z dz, ov = some z ∧ od = some dz ∧ Den K S z dz) : ov.isSome = od.isSome := by
  rcases z with ⟨rfl, rfl⟩ | ⟨_, _, rfl, rfl, _⟩ <;> rfl
theorem din_ok {neg : Bool} {t1 t2 : TE} (o1 : OkE X.K fi fa t1 fy) (o2 : OkE X.K fi fa t2 fd) {σ : L2.St} {H S : Hp} {ρ : List Sl} {P : D → List Sl → Prop} {Q : VK} (r : Rel X.K fi fa σ H S ρ) (hf : fDIn neg fy fd ρ P)
    (k : ∀ v H' S' d ρ', P d ρ' → Rel X.K fi fa σ H' S' ρ' → Tr σ H S ρ σ H' S' ρ' → Den X.K S' v d → Q v H') :
    t1 σ H fun y H1 => t2 σ H1 fun x H2 => ∃ a ov, x = V.ref a ∧ DGet H2 a y ov ∧ Q (.bl (neg != ov.isSome)) H2 := o1 σ H S ρ _ _ r hf fun u H1 S1 y ρ1 h1 r1 t1 d1 => o2 σ H1 S1 ρ1 _ _ r1 h1 fun v H2 S2 d ρ2 h2 r2 t2 d2 => by
  obtain ⟨a, ov, od, rfl, g, hP, z⟩ := dlook_get r2.ex d2 (d1.mono t2.exS) h2
  refine ⟨a, ov, rfl, g, k _ H2 S2 _ ρ2 hP r2 (t1.trans t2) ?_⟩
  rw [some_iff z]
  exact .bl _
theorem pd_din (hu : X.A.units + 1 < cLine) (hi : PED X fi fa i fy) (ho : PED X fi fa o fd) (hm : behindInMarks .In o = false := by rfl) : PED X fi fa (.Compare i [.In] [o] pos) (fDIn false fy fd) := by
  obtain ⟨t1, p1, o1⟩ := hi
  obtain ⟨t2, p2, o2⟩ := ho
  refine ⟨_, pe_cmp (pc_din hu p1 p2) hm, fun σ H S ρ P Q r hf k => ?_⟩
  have := din_ok o1 o2 r hf k
  simp only [Bool.false_bne] at this
  exact this
theorem pd_dnotin (hu : X.A.units + 1 < cLine) (hi : PED X fi fa i fy) (ho : PED X fi fa o fd) (hm : behindInMarks .NotIn o = false := by rfl) : PED X fi fa (.Compare i [.NotIn] [o] pos) (fDIn true fy fd) := by
  obtain ⟨t1, p1, o1⟩ := hi
  obtain ⟨t2, p2, o2⟩ := ho
  refine ⟨_, pe_cmp (pc_dnotin hu p1 p2) hm, fun σ H S ρ P Q r hf k => ?_⟩
  have := din_ok o1 o2 r hf k
  simp only [Bool.true_bne] at this
  exact this
def isDict : D → Bool
  | .dT _ _ => true
  | .dK _ _ => true
  | _ => false
/-- d.get(k, x) -/
def fDGet2 (fd fy fx : FE) : FE := fun ρ P => fd ρ fun d ρ1 => isDict d = true ∧ fy ρ1 fun y ρ2 => fx ρ2 fun x ρ3 => dlook d y fun o => P (o.getD x) ρ3
theorem den_isD {K : PySem.W.Frag} {S H : Hp} {v : V} {d : D} (ex : Ex S H) (e : isDict d = true) (h : Den K S v d) : ∃ a, v = .ref a ∧ IsD H a := by
  cases d with
  | dT ks vs => obtain ⟨a, kvs, e, h1, _⟩ := den_dT h; exact ⟨a, e, .inr ⟨kvs, ex.rd h1⟩⟩
  | dK ks vs => obtain ⟨a, kvs, e, h1, _⟩ := den_dK h; exact ⟨a, e, .inl ⟨kvs, ex.rd h1⟩⟩
  | _ => cases e

/-! ### built-ins -/
def gLen : GD := fun ds P => match ds with
  | [.str s] => s.length ≤ 100000 ∧ P (.int s.length)
  | [.dT ks _] => P (.int ks.length)
  | [.dK ks _] => P (.int ks.length)
  | [x] => ∃ xs, seqL x = some xs ∧ P (.int xs.length)
  | _ => False
theorem call_len_d : CallR X (.builtin "len") (fun xs H Q => ∃ p, xs = [.ref p] ∧ ((∃ kvs, Rd H p (.dK kvs) ∧ Q (.int kvs.length) H) ∨ ∃ kvs, Rd H p (.dT kvs) ∧ Q (.int kvs.length) H)) := by
  intro pins s σ H xs us Q I r ⟨p, e, h⟩
  subst e
  obtain ⟨u, rfl, rx⟩ := vals1 r
  obtain rfl : u = .ref p := rx
  rcases h with ⟨kvs, hp, q⟩ | ⟨kvs, hp, q⟩
  · exact d_len I hp fun t s' I' => ⟨.int kvs.length, H, I', ⟨_, rfl⟩, q⟩
  · obtain ⟨z, hd, ys, rel, dd⟩ := dt_rd I.hok hp
    have hl : kvs.length = ys.length := Paired.length rel
    have z' : ys.length ≤ sizeLine := by rw [← hl]; exact z
    refine call_len_dictH hd dd (by rw [sizeLine_eq] at z'; omega) ?_
    rw [← hl]
    exact ⟨.int kvs.length, H, I.tok _, ⟨_, rfl⟩, q⟩
theorem cd_len : CallD X (.builtin "len") gLen := by
  refine ⟨_, CallR.or call_len_seq (CallR.or call_len_str call_len_d), fun xs ds S H P Q ex hd hg k => ?_⟩
  unfold gLen at hg
  split at hg
  · cases hd with
    | cons h t =>
      cases t
      rw [den_str h]
      exact .inr (.inl ⟨_, rfl, sz_of hg.1, k _ S H _ hg.2 (Gr.refl ex) (.int _)⟩)
  · cases hd with
    | cons h t =>
      cases t
      obtain ⟨a, kvs, rfl, h1, h2, h3⟩ := den_dT h
      subst h2
      rw [List.length_map] at hg
      exact .inr (.inr ⟨a, rfl, .inr ⟨kvs, ex.rd h1, k _ S H _ hg (Gr.refl ex) (.int _)⟩⟩)
  · cases hd with
    | cons h t =>
      cases t
      obtain ⟨a, kvs, rfl, h1, h2, h3⟩ := den_dK h
      subst h2
      rw [List.length_map] at hg
      exact .inr (.inr ⟨a, rfl, .inl ⟨kvs, ex.rd h1, k _ S H _ hg (Gr.refl ex) (.int _)⟩⟩)
  · cases hd with
    | cons h t =>
      cases t
      obtain ⟨ys, e, hP⟩ := hg
      obtain ⟨a, vs, rfl, h1, h2⟩ := den_seqL e h
      refine .inl ⟨a, vs, rfl, h1.imp ex.l ex.t, ?_⟩
      rw [h2.length]
      exact k _ S H _ hP (Gr.refl ex) (.int _)
  · exact hg.elim
def blsD : List D → (List Bool → Prop) → Prop
  | [], P => P []
  | .bl i :: ds, P => blsD ds fun is => P (i :: is)
  | _, _ => False
theorem blsD_inv {K : PySem.W.Frag} {S : Hp} : ∀ {ds : List D} {P : List Bool → Prop} {vs : List V}, blsD ds P → Dens K S vs ds → ∃ is, vs = is.map V.bl ∧ ds = is.map D.bl ∧ P is
  | [], P, _, h, .nil => ⟨[], rfl, rfl, h⟩
  | .bl i :: ds, P, _, h, .cons h1 h2 => by
    obtain ⟨is, e1, e2, hp⟩ := blsD_inv (ds := ds) h h2
    cases h1
    exact ⟨i :: is, by rw [e1]; rfl, by rw [e2]; rfl, hp⟩
def gAll : GD := fun ds P => match ds with
  | [.lst xs] => blsD xs fun bs => P (.bl (bs.all id))
  | _ => False
def gAny : GD := fun ds P => match ds with
  | [.lst xs] => blsD xs fun bs => P (.bl (bs.any id))
  | _ => False
theorem cd_all (hc : X.calm = true := by rfl) : CallD X (.builtin "all") gAll := by
  refine ⟨_, cr_all hc, fun xs ds S H P Q ex hd hg k => ?_⟩
  unfold gAll at hg
  split at hg
  · cases hd with
    | cons h t =>
      cases t
      obtain ⟨a, vs, rfl, h1, h2⟩ := den_lst h
      obtain ⟨bs, rfl, _, hP⟩ := blsD_inv hg h2
      exact ⟨a, bs, rfl, SqL.of (ex _ _ h1), k _ S H _ hP (Gr.refl ex) (.bl _)⟩
  · exact hg.elim
theorem cd_any (hc : X.calm = true := by rfl) : CallD X (.builtin "any") gAny := by
  refine ⟨_, cr_any hc, fun xs ds S H P Q ex hd hg k => ?_⟩
  unfold gAny at hg
  split at hg
  · cases hd with
    | cons h t =>
      cases t
      obtain ⟨a, vs, rfl, h1, h2⟩ := den_lst h
      obtain ⟨bs, rfl, _, hP⟩ := blsD_inv hg h2
      exact ⟨a, bs, rfl, SqL.of (ex _ _ h1), k _ S H _ hP (Gr.refl ex) (.bl _)⟩
  · exact hg.elim
def gSum : GD := fun ds P => match ds with
  | [x] => ∃ xs, seqL x = some xs ∧ intsD xs fun is => P (.int is.sum)
  | _ => False
def gTuple : GD := fun ds P => match ds with
  | [.lst xs] => P (.tup xs)
  | [.rol xs] => P (.tup xs)
  | [.tup xs] => P (.tup xs)
  | _ => False
theorem cd_tuple : CallD X (.type "tuple") gTuple := by
  refine ⟨_, call_tuple_of, fun xs ds S H P Q ex hd hg k => ?_⟩
  unfold gTuple at hg
  split at hg
  · cases hd with
    | cons h t =>
      cases t
      obtain ⟨a, vs, rfl, h1, h2⟩ := den_lst h
      refine ⟨a, vs, rfl, .inl ⟨SqL.of (ex _ _ h1), fun l hl => ?_⟩⟩
      have g := Gr.one (o := .tup vs) ex hl
      exact k _ _ _ _ hg g (.tup upd_same (h2.mono g.s))
  · cases hd with
    | cons h t =>
      cases t
      obtain ⟨a, vs, rfl, h1, h2⟩ := den_rol h
      refine ⟨a, vs, rfl, .inl ⟨ex.l h1, fun l hl => ?_⟩⟩
      have g := Gr.one (o := .tup vs) ex hl
      exact k _ _ _ _ hg g (.tup upd_same (h2.mono g.s))
  · cases hd with
    | cons h t =>
      cases t
      obtain ⟨a, vs, rfl, h1, h2⟩ := den_tup h
      exact ⟨a, vs, rfl, .inr ⟨SqT.of (ex _ _ h1), k _ S H _ hg (Gr.refl ex) (.tup h1 h2)⟩⟩
  · exact hg.elim
/-- list(d), d a dict of ints and texts -/
theorem call_list_dKR {X : Cx} (hc : X.calm = true) : CallR X (.type "list") (fun xs H Q => ∃ p kvs, xs = [.ref p] ∧ Rd H p (.dK kvs) ∧ ∀ q, H q = none → Q (.ref q) (upd H q (.lst (kvs.map fun kv => kV kv.1)))) := by
  intro pins s σ H xs us Q I r h
  obtain ⟨p, kvs, e, hk, q⟩ := h
  subst e
  obtain ⟨u, eu, rx⟩ := vals1 r
  subst eu
  obtain rfl : u = Value.ref p := rx
  obtain ⟨z, lo, vs, rk, hd⟩ := (show ObjOk X.prog X.w H s.heap p (.dK kvs) from hk.ok I.hok)
  obtain ⟨ep, hat⟩ := hd.dictAt
  have hl : kvs.length = vs.length := Paired.length rk
  refine PySem.W.kdl_call (PySem.W.kdl_dict (knd := mixKind X.prog X.w) (kvs := vs) (ep := ep) lo) (I.ok.hd hc) hat (by rw [← hl]; exact z) fun h' tk acc' c' hkeep hS hacc => ?_
  refine ⟨.ref s.heap.objs.size, upd H s.heap.objs.size (.lst (kvs.map fun kv => kV kv.1)), I.laid hkeep (Nat.le_refl _) (show ObjOk X.prog X.w _ _ _ (.lst (kvs.map fun kv => kV kv.1)) from ⟨?_, acc'.toList, c', ?_, ?_⟩), rfl, q _ (I.hok.fresh (Nat.le_refl _))⟩
  · rw [List.length_map]; exact z
  · have el : acc'.toList.length = acc'.size := by simp
    refine vals_of_at (by rw [List.length_map, el, hacc.1, hl]) fun j x w h1 h2 => ?_
    obtain ⟨k, y, hky, hi⟩ := hacc.2 j w (by rw [← Array.getElem?_toList]; exact h2)
    have e1 : (kvs.map (·.1))[j]? = some k := by
      rw [KV.keys rk, List.getElem?_map, hky] <;> rfl
    have e2 : (kvs.map fun kv => kV kv.1)[j]? = some (kV k) := by
      have e3 : (kvs.map fun kv => kV kv.1) = (kvs.map (·.1)).map kV := by rw [List.map_map] <;> rfl
      rw [e3, List.getElem?_map, e1] <;> rfl
    rw [e2] at h1
    cases h1
    exact keyIs_rel hi
  · rw [Array.toArray_toList]; exact hS
def gList : GD := fun ds P => match ds with
  | [.dT ks _] => P (.lst (ks.map fun k => .tup (k.map kD)))
  | [.dK ks _] => P (.lst (ks.map kD))
  | [x] => ∃ xs, seqL x = some xs ∧ P (.lst xs)
  | _ => False
/-- the stable heap with some tuples more -/
def addT (S H : Hp) (bs : List Addr) : Hp := fun a => if a ∈ bs then H a else S a
theorem addT_gr {S H : Hp} {bs : List Addr} (ex : Ex S H) (h : ∀ b ∈ bs, ∃ xs, H b = some (.tup xs)) : Gr S H (addT S H bs) H := by
  refine ⟨fun a o ha => ?_, Ex.refl H, fun a o ha => ?_, fun a ha => ?_⟩
  · unfold addT
    by_cases hb : a ∈ bs
    · rw [if_pos hb]; exact ex a o ha
    · rw [if_neg hb]; exact ha
  · unfold addT at ha
    by_cases hb : a ∈ bs
    · rw [if_pos hb] at ha; exact ha
    · rw [if_neg hb] at ha; exact ex a o ha
  · by_cases hb : a ∈ bs
    · exact .inr (.inr (h a hb))
    · unfold addT at ha
      rw [if_neg hb] at ha
      exact .inl ha
theorem keys_den {K : PySem.W.Frag} {S H : Hp} : ∀ {kvs : List (List Key × V)} {bs cs : List Addr}, IsKeys H kvs bs → (∀ b ∈ bs, b ∈ cs) → Dens K (addT S H cs) (bs.map V.ref) ((kvs.map (·.1)).map fun k => .tup (k.map kD))
  | [], _, _, .nil, _ => .nil
  | (k, v) :: kvs, b :: bs, cs, .cons h t, hm => by
    refine .cons (.tup (xs := k.map kV) ?_ (den_keys k)) (keys_den t fun c hc => hm c (List.mem_cons_of_mem _ hc))
    unfold addT
    rw [if_pos (hm b List.mem_cons_self)]
    exact h
theorem keys_tup {H : Hp} : ∀ {kvs : List (List Key × V)} {bs : List Addr}, IsKeys H kvs bs → ∀ b ∈ bs, ∃ xs, H b = some (.tup xs)
  | [], _, .nil, _, h => nomatch h
  | (k, v) :: kvs, b :: bs, .cons h t, c, hc => by
    rcases List.mem_cons.mp hc with rfl | hc
    · exact ⟨_, h⟩
    · exact keys_tup t c hc
theorem cf_list (hc : X.calm = true := by rfl) : CallF X (.type "list") gList := by
  refine ⟨_, CallR.or call_list_of (CallR.or (call_list_dT hc) (call_list_dKR hc)), fun xs ds S H P Q ex hd hg k => ?_⟩
  unfold gList at hg
  split at hg
  · cases hd with
    | cons h t =>
      cases t
      obtain ⟨a, kvs, rfl, h1, h2, h3⟩ := den_dT h
      subst h2
      refine .inr (.inl ⟨a, kvs, rfl, ex.rd h1, fun p bs hp ik => ?_⟩)
      have g1 := addT_gr ex (keys_tup ik)
      have g := g1.trans (Gr.hid (o := .lst (bs.map V.ref)) g1.sh hp)
      exact k p _ _ _ _ hg hp g (g1.sh.free hp) upd_same (keys_den ik fun _ h => h)
  · cases hd with
    | cons h t =>
      cases t
      obtain ⟨a, kvs, rfl, h1, h2, h3⟩ := den_dK h
      subst h2
      refine .inr (.inr ⟨a, kvs, rfl, ex.rd h1, fun p hp => ?_⟩)
      refine k p _ _ _ _ hg hp (Gr.hid (o := .lst (kvs.map fun kv => kV kv.1)) ex hp) (ex.free hp) upd_same ?_
      have := den_keys (K := X.K) (S := S) (kvs.map (·.1))
      rw [List.map_map] at this
      exact this
  · cases hd with
    | cons h t =>
      cases t
      obtain ⟨ys, e, hP⟩ := hg
      obtain ⟨a, vs, rfl, h1, h2⟩ := den_seqL e h
      refine .inl ⟨a, vs, rfl, h1.imp ex.l ex.t, fun l hl => ?_⟩
      exact k l _ _ _ _ hP hl (Gr.hid (o := .lst vs) ex hl) (ex.free hl) upd_same h2
  · exact hg.elim
def gInt : GD := fun ds P => match ds with
  | [.int i] => P (.int i)
  | [.bl b] => P (.int (if b then 1 else 0))
  | _ => False
theorem cd_int : CallD X (.type "int") gInt := by
  refine ⟨_, call_int1, fun xs ds S H P Q ex hd hg k => ?_⟩
  unfold gInt at hg
  split at hg
  · cases hd with
    | cons h t =>
      cases t
      rw [den_int h]
      exact .inl ⟨_, rfl, k _ S H _ hg (Gr.refl ex) (.int _)⟩
  · cases hd with
    | cons h t =>
      cases t
      rw [den_bl h]
      exact .inr ⟨_, rfl, k _ S H _ hg (Gr.refl ex) (.int _)⟩
  · exact hg.elim
def gInt2 (h : Int → Int → Int) : GD := fun ds P => match ds with
  | [.int i, .int j] => P (.int (h i j))
  | _ => False
theorem cd_max (hc : X.calm = true := by rfl) : CallD X (.builtin "max") (gInt2 fun i j => if j > i then j else i) := by
  refine ⟨_, call_max2 hc, fun xs ds S H P Q ex hd hg k => ?_⟩
  unfold gInt2 at hg
  split at hg
  · cases hd with
    | cons h t =>
      cases t with
      | cons h2 t =>
        cases t
        rw [den_int h, den_int h2]
        exact ⟨_, _, rfl, k _ S H _ hg (Gr.refl ex) (.int _)⟩
  · exact hg.elim
theorem cd_min (hc : X.calm = true := by rfl) : CallD X (.builtin "min") (gInt2 fun i j => if j < i then j else i) := by
  refine ⟨_, call_min2 hc, fun xs ds S H P Q ex hd hg k => ?_⟩
  unfold gInt2 at hg
  split at hg
  · cases hd with
    | cons h t =>
      cases t with
      | cons h2 t =>
        cases t
        rw [den_int h, den_int h2]
        exact ⟨_, _, rfl, k _ S H _ hg (Gr.refl ex) (.int _)⟩
  · exact hg.elim
def gAbs : GD := fun ds P => match ds with
  | [.int i] => P (.int (if i < 0 then -i else i))
  | _ => False
theorem cd_abs : CallD X (.builtin "abs") gAbs := by
  refine ⟨_, call_abs, fun xs ds S H P Q ex hd hg k => ?_⟩
  unfold gAbs at hg
  split at hg
  · cases hd with
    | cons h t =>
      cases t
      rw [den_int h]
      exact ⟨_, rfl, k _ S H _ hg (Gr.refl ex) (.int _)⟩
  · exact hg.elim
/-- isinstance against a built-in class -/
def tyN : D → Option String
  | .non => some "NoneType"
  | .bl _ => some "bool"
  | .int _ => some "int"
  | .str _ => some "str"
  | .lst _ => some "list"
  | .tup _ => some "tuple"
  | .dK _ _ => some "dict"
  | _ => none
def isiT (t n : String) : Option Bool := if n = "int" ∨ n = "bool" ∨ n = "str" ∨ n = "list" ∨ n = "tuple" ∨ n = "dict" then some (decide (t = n) || (decide (t = "bool") && decide (n = "int"))) else none
def gIsi : GD := fun ds P => match ds with
  | [x, .ty n] => ∃ t b, tyN x = some t ∧ isiT t n = some b ∧ P (.bl b)
  | _ => False
theorem isi_kit {x : D} {t n : String} {b : Bool} (h : tyN x = some t) (h2 : isiT t n = some b) : kitB t n = some b := by
  unfold isiT at h2
  have ht : t = "NoneType" ∨ t = "bool" ∨ t = "int" ∨ t = "str" ∨ t = "list" ∨ t = "tuple" ∨ t = "dict" := by
    cases x <;> cases h <;> simp
  split at h2
  · rename_i hn
    cases h2
    rcases ht with rfl | rfl | rfl | rfl | rfl | rfl | rfl <;> rcases hn with rfl | rfl | rfl | rfl | rfl | rfl <;> decide +kernel
  · cases h2
end
end DL

/-! DL8: isinstance, changes of what is owned, calls by keywords, sorted. -/
namespace DL
open PySem PySem.Spec PyProof.Rows L2

section
variable {X : Cx} {fi : List Nat} {fa : Nat → Addr} {e a b o i : Expr} {es : List Expr} {f fx fy fd fv fe fk : FE} {fs : FA} {pos pos' apos cpos : Pos}
theorem ty_of {K : PySem.W.Frag} {S H : Hp} {v : V} {d : D} {t : String} (ex : Ex S H) (h : tyN d = some t) (hd : Den K S v d) : TyX K H v (.type t) := by
  cases d with
  | non => cases h; rw [den_non hd]; exact .base .non
  | bl b => cases h; rw [den_bl hd]; exact .base (.bl b)
  | int b => cases h; rw [den_int hd]; exact .base (.int b)
  | str b => cases h; rw [den_str hd]; exact .base (.str b)
  | lst xs => cases h; obtain ⟨a, vs, rfl, h1, _⟩ := den_lst hd; exact .base (.lst (ex _ _ h1))
  | tup xs => cases h; obtain ⟨a, vs, rfl, h1, _⟩ := den_tup hd; exact .base (.tup (ex _ _ h1))
  | dK ks vs =>
    cases h
    obtain ⟨a, kvs, rfl, h1, _⟩ := den_dK hd
    rcases ex.rd h1 with h1 | ⟨ob, h1⟩
    · exact .base (.dK h1)
    · exact .fDict h1
  | _ => cases h
theorem cd_isi : CallD X (.builtin "isinstance") gIsi := by
  refine ⟨_, call_isi, fun xs ds S H P Q ex hd hg k => ?_⟩
  unfold gIsi at hg
  split at hg
  · obtain ⟨t, b, e1, e2, hP⟩ := hg
    cases hd with
    | cons h tl =>
      cases tl with
      | cons h2 tl =>
        cases tl
        rw [den_ty h2]
        exact ⟨_, _, .type t, _, b, rfl, .ty _, ty_of ex e1 h, kit_ty (isi_kit e1 e2), k _ S H _ hP (Gr.refl ex) (.bl b)⟩
  · exact hg.elim

/-! ### what is owned is changed -/
theorem rel_own {K : PySem.W.Frag} {σ : L2.St} {H S : Hp} {ρ : List Sl} {j : Nat} {c : D} (r : Rel K fi fa σ H S ρ) (h : ρ[j]? = some (.own c)) : ∃ p o, σ[j]? = some (some (.ref p)) ∧ S p = none ∧ H p = some o ∧ HOD K S o c := r.own j c h
def lstO (c : D) (P : List D → Prop) : Prop := match c with
  | .lst ds => P ds
  | _ => False
theorem lstO_inv {K : PySem.W.Frag} {S : Hp} {o : HO} {c : D} {P : List D → Prop} (h : lstO c P) (ho : HOD K S o c) : ∃ vs ds, o = .lst vs ∧ c = .lst ds ∧ Dens K S vs ds ∧ P ds := by
  unfold lstO at h
  split at h
  · cases o <;> first | exact ⟨_, _, rfl, rfl, ho, h⟩ | exact (show False from ho).elim
  · exact h.elim
/-- x[k] = e -/
def fSetO (j : Nat) (fe fk : FE) : FS := fun ρ P => fe ρ fun x ρ1 => ownD ρ1 j fun _ => fk ρ1 fun y ρ2 => asI y fun k => ownD ρ2 j fun c => lstO c fun ds => ∃ n, ixN ds.length k = some n ∧ P (.nx (ρ2.set j (.own (.lst (ds.set n x)))))
theorem psd_setO (j : Nat) {x : Str} {px : Pos} (he : PED X fi fa e fe) (hk : PED X fi fa i fk)
    (hg : ∀ ti, PE X i ti → PG X (.Subscript (.Name x px) i pos') (L2.gSub (tVar j) ti rSetL) := by exact fun _ h => pg_sub (pv _) h set_list)
    (hs : swapsWithSole [.Subscript (.Name x px) i pos'] e pos.line X.env = pure false := by rfl) (hw : swappedStores [.Subscript (.Name x px) i pos'] e X.env = pure none := by rfl)
    (h1 : (assignEach [.Subscript (.Name x px) i pos'] X.env).map (·.2) = [assign (.Subscript (.Name x px) i pos') X.env] := by rfl) :
    PSD X fi fa (.Assign [.Subscript (.Name x px) i pos'] e pos) (fSetO j fe fk) := by
  obtain ⟨t, p, ok⟩ := he
  obtain ⟨ti, pi, oki⟩ := hk
  refine ⟨_, ps_asg p (hg ti pi) hs hw h1, fun σ H S ρ P E r hf k => ok σ H S ρ _ _ r hf fun v H1 S1 d ρ1 h1 r1 t1 d1 => ?_⟩
  obtain ⟨c1, g1, h1⟩ := ownD_inv h1
  obtain ⟨q, o1, e1, _⟩ := r1.own j c1 g1
  refine ⟨_, e1, oki σ H1 S1 ρ1 _ _ r1 h1 fun u H2 S2 y ρ2 h2 r2 t2 d2 => ?_⟩
  obtain ⟨n, rfl, h2⟩ := asI_inv h2
  obtain ⟨c, g2, h2⟩ := ownD_inv h2
  obtain ⟨q', o', e2, e3, e4, e5⟩ := r2.own j c g2
  rw [e1] at e2
  cases e2
  obtain ⟨vs, ds, rfl, rfl, hd, m, hm, hP⟩ := lstO_inv h2 e5
  refine ⟨q, vs, n, m, rfl, den_int d2, e4, by rw [hd.length]; exact hm, ?_⟩
  have hod : HOD X.K S2 (.lst (vs.set m v)) (.lst (ds.set m d)) := hd.set (d1.mono t2.exS) m
  exact k.1 _ _ S2 _ hP (r2.upd g2 e1 hod) ((t1.trans t2).trans (Tr.upd g2 e1))
/-- x.append(e), x.extend(e) -/
def fApp (j : Nat) (fe : FE) : FS := fun ρ P => ownD ρ j fun c0 => lstO c0 fun _ => fe ρ fun x ρ1 => ownD ρ1 j fun c => lstO c fun ds => ds.length < 100000 ∧ P (.nx (ρ1.set j (.own (.lst (ds ++ [x])))))
theorem tyL {K : PySem.W.Frag} {H : Hp} {p : Addr} {xs : List V} (h : H p = some (.lst xs)) : tyV K "list" (.ref p) H := .inl ⟨rfl, xs, SqL.of h⟩
theorem psd_app (j : Nat) {x : Str} {px : Pos} (he : PED X fi fa e fe) (hna : starEach [e] X.env = (false, eval e X.env) :: starEach [] X.env := by rfl)
    (hp : ∀ ta, PA X [e] ta → PE X (.Call (.Attribute (.Name x px) "append" apos) [e] [] cpos) (tBM X.K "list" rAppend (tVar j) ta) := by exact fun _ h => pe_bm PySem.F.plainAttrs_list PySem.F.slot_list_append PySem.F.type_list_append mt_append (pv _) h)
    (hs : swapsWith (.Call (.Attribute (.Name x px) "append" apos) [e] [] cpos) none pos.line X.env = pure false := by rfl) :
    PSD X fi fa (.Expr (.Call (.Attribute (.Name x px) "append" apos) [e] [] cpos) pos) (fApp j fe) := by
  obtain ⟨t, p, ok⟩ := he
  refine ⟨_, ps_expr (hp _ (pa_cons p pa_nil hna)) hs, fun σ H S ρ P E r hf k => ?_⟩
  obtain ⟨c0, g0, hf⟩ := ownD_inv hf
  obtain ⟨q, o0, e0, e1, e2, e3⟩ := r.own j c0 g0
  obtain ⟨vs0, ds0, rfl, rfl, _, hf⟩ := lstO_inv hf e3
  refine ⟨_, e0, tyL e2, ok σ H S ρ _ _ r hf fun v H1 S1 d ρ1 h1 r1 t1 d1 => ?_⟩
  obtain ⟨c, g2, h2⟩ := ownD_inv h1
  obtain ⟨q', o', e4, e5, e6, e7⟩ := r1.own j c g2
  rw [e0] at e4
  cases e4
  obtain ⟨vs, ds, rfl, rfl, hd, hl, hP⟩ := lstO_inv h2 e7
  refine ⟨q, vs, v, rfl, rfl, e6, sz_lt (by rw [hd.length]; exact hl), ?_⟩
  have hod : HOD X.K S1 (.lst (vs ++ [v])) (.lst (ds ++ [d])) := hd.snoc d1
  exact k.1 _ _ S1 _ hP (r1.upd g2 e0 hod) (t1.trans (Tr.upd g2 e0))
def fExt (j : Nat) (fe : FE) : FS := fun ρ P => ownD ρ j fun c0 => lstO c0 fun _ => fe ρ fun x ρ1 => lstO x fun es => ownD ρ1 j fun c => lstO c fun ds => ds.length + es.length ≤ 100000 ∧ P (.nx (ρ1.set j (.own (.lst (ds ++ es)))))
theorem psd_ext (j : Nat) {x : Str} {px : Pos} (he : PED X fi fa e fe) (hna : starEach [e] X.env = (false, eval e X.env) :: starEach [] X.env := by rfl)
    (hp : ∀ ta, PA X [e] ta → PE X (.Call (.Attribute (.Name x px) "extend" apos) [e] [] cpos) (tBM X.K "list" rExtend (tVar j) ta) := by exact fun _ h => pe_bm PySem.F.plainAttrs_list PySem.F.slot_list_extend PySem.F.type_list_extend mt_extend (pv _) h)
    (hs : swapsWith (.Call (.Attribute (.Name x px) "extend" apos) [e] [] cpos) none pos.line X.env = pure false := by rfl) :
    PSD X fi fa (.Expr (.Call (.Attribute (.Name x px) "extend" apos) [e] [] cpos) pos) (fExt j fe) := by
  obtain ⟨t, p, ok⟩ := he
  refine ⟨_, ps_expr (hp _ (pa_cons p pa_nil hna)) hs, fun σ H S ρ P E r hf k => ?_⟩
  obtain ⟨c0, g0, hf⟩ := ownD_inv hf
  obtain ⟨q, o0, e0, e1, e2, e3⟩ := r.own j c0 g0
  obtain ⟨vs0, ds0, rfl, rfl, _, hf⟩ := lstO_inv hf e3
  refine ⟨_, e0, tyL e2, ok σ H S ρ _ _ r hf fun v H1 S1 d ρ1 h1 r1 t1 d1 => ?_⟩
  unfold lstO at h1
  split at h1
  · obtain ⟨b, zs, rfl, hb1, hb2⟩ := den_lst d1
    obtain ⟨c, g2, h2⟩ := ownD_inv h1
    obtain ⟨q', o', e4, e5, e6, e7⟩ := r1.own j c g2
    rw [e0] at e4
    cases e4
    obtain ⟨vs, ds, rfl, rfl, hd, hl, hP⟩ := lstO_inv h2 e7
    refine ⟨q, b, vs, zs, rfl, rfl, e6, r1.ex _ _ hb1, sz_of (by rw [hd.length, hb2.length]; exact hl), ?_⟩
    have hod : HOD X.K S1 (.lst (vs ++ zs)) (.lst (ds ++ _)) := hd.append hb2
    exact k.1 _ _ S1 _ hP (r1.upd g2 e0 hod) (t1.trans (Tr.upd g2 e0))
  · exact h1.elim
theorem hod_dT {K : PySem.W.Frag} {S : Hp} {kvs : List (List Key × V)} {ks : List (List Key)} {vs : List D} (h : HOD K S (.dT kvs) (.dT ks vs)) : ks = kvs.map (·.1) ∧ Dens K S (kvs.map (·.2)) vs := h
theorem hod_dK {K : PySem.W.Frag} {S : Hp} {kvs : List (Key × V)} {ks : List Key} {vs : List D} (h : HOD K S (.dK kvs) (.dK ks vs)) : ks = kvs.map (·.1) ∧ Dens K S (kvs.map (·.2)) vs := h
/-- x[k] = e, x a dict -/
def dput (c y x : D) (P : D → Prop) : Prop := match c with
  | .dT ks vs => ∃ k, asTK y = some k ∧ ks.length < 100000 ∧ P (.dT (putKs ks k) (putVs ks vs k x))
  | .dK ks vs => ∃ k, asK y = some k ∧ ks.length < 100000 ∧ P (.dK (putKs ks k) (putVs ks vs k x))
  | _ => False
def fDPut (j : Nat) (fv fk : FE) : FS := fun ρ P => fv ρ fun x ρ1 => ownD ρ1 j fun _ => fk ρ1 fun y ρ2 => ownD ρ2 j fun c => dput c y x fun c' => P (.nx (ρ2.set j (.own c')))
theorem dput_ok {K : PySem.W.Frag} {S H : Hp} {p : Addr} {o : HO} {c y x : D} {v u : V} {P : D → Prop} (h : dput c y x P) (hp : H p = some o) (ho : HOD K S o c) (hy : Den K S u y) (hx : Den K S v x) (ex : Ex S H) : ∃ o' c', DPut H p u v (upd H p o') ∧ HOD K S o' c' ∧ P c' := by
  unfold dput at h
  split at h
  · obtain ⟨k, e, hl, hP⟩ := h
    obtain ⟨b, rfl, hb⟩ := asTK_den e hy
    cases o with
    | dT kvs =>
      obtain ⟨e1, hd⟩ := hod_dT ho
      subst e1
      obtain ⟨q1, q2⟩ := put_val (k := k) hx hd
      rw [List.length_map] at hl
      exact ⟨_, _, .inr ⟨kvs, k, b, hp, rfl, ex _ _ hb, sz_lt hl, rfl⟩, (show HOD K S (.dT (putK kvs k v)) (.dT _ _) from ⟨q1, q2⟩), hP⟩
    | _ => exact (show False from ho).elim
  · obtain ⟨k, e, hl, hP⟩ := h
    obtain ⟨e1, e2⟩ := asK_den e hy
    subst e1
    cases o with
    | dK kvs =>
      obtain ⟨e1, hd⟩ := hod_dK ho
      subst e1
      obtain ⟨q1, q2⟩ := put_val (k := k) hx hd
      rw [List.length_map] at hl
      exact ⟨_, _, .inl ⟨kvs, k, hp, rfl, sz_lt hl, rfl⟩, (show HOD K S (.dK (putK kvs k v)) (.dK _ _) from ⟨q1, q2⟩), hP⟩
    | _ => exact (show False from ho).elim
  · exact h.elim
theorem psd_dput (j : Nat) {x : Str} {px : Pos} (hu : X.A.units + 1 < cLine) (he : PED X fi fa e fv) (hk : PED X fi fa i fk) (hN : X.N[j]? = some x := by rfl) (hv : Vis X.env.scope x := by first | exact Or.inl rfl | exact Or.inr (Or.inl rfl) | exact Or.inr (Or.inr rfl))
    (hd : (x == ("__debug__" : Str)) = false := by decide) (hcd : (x == ("__classdict__" : Str)) = false := by decide)
    (hs : swapsWith e (some (.Subscript (.Name x px) i pos')) pos.line X.env = pure false := by rfl) : PSD X fi fa (.Assign [.Subscript (.Name x px) i pos'] e pos) (fDPut j fv fk) := by
  obtain ⟨t, p, ok⟩ := he
  obtain ⟨ti, pi, oki⟩ := hk
  refine ⟨_, ps_dput hu (pv j hN hv hd hcd) pi p hs, fun σ H S ρ P E r hf k => ok σ H S ρ _ _ r hf fun v H1 S1 d ρ1 h1 r1 t1 d1 => ?_⟩
  obtain ⟨c1, g1, h1⟩ := ownD_inv h1
  obtain ⟨q, o1, e1, _⟩ := r1.own j c1 g1
  refine ⟨_, e1, oki σ H1 S1 ρ1 _ _ r1 h1 fun u H2 S2 y ρ2 h2 r2 t2 d2 => ?_⟩
  obtain ⟨c, g2, h2⟩ := ownD_inv h2
  obtain ⟨q', o', e2, e3, e4, e5⟩ := r2.own j c g2
  rw [e1] at e2
  cases e2
  obtain ⟨o3, c3, hp, hod, hP⟩ := dput_ok h2 e4 e5 d2 (d1.mono t2.exS) r2.ex
  exact ⟨q, _, rfl, hp, k.1 _ _ S2 _ hP (r2.upd g2 e1 hod) ((t1.trans t2).trans (Tr.upd g2 e1))⟩
theorem pf_dnewT : PEF X fi fa (.Dict [] [] pos) (fC (.dT [] [])) := ⟨_, pe_dnewT, fun σ H S ρ P Q r hf k p hp => by
  obtain ⟨a1, a2, a3⟩ := ok_new (o := .dT []) (d := .dT [] []) (Tr.refl σ H S ρ) r hp ⟨rfl, .nil⟩
  exact k _ _ _ _ ρ hf a1 a2 a3⟩
theorem pf_dnewK : PEF X fi fa (.Dict [] [] pos) (fC (.dK [] [])) := ⟨_, pe_dnewK, fun σ H S ρ P Q r hf k p hp => by
  obtain ⟨a1, a2, a3⟩ := ok_new (o := .dK []) (d := .dK [] []) (Tr.refl σ H S ρ) r hp ⟨rfl, .nil⟩
  exact k _ _ _ _ ρ hf a1 a2 a3⟩
/-- list(x), x an owned dict or list, which stays owned -/
def fListO (j : Nat) : FE := fun ρ P => ownD ρ j fun c => gList [c] fun d => P d ρ
theorem gList_ok {K : PySem.W.Frag} {S H : Hp} {p : Addr} {o : HO} {c : D} {P : D → Prop} {Q : VK} (ex : Ex S H) (hp : H p = some o) (ho : HOD K S o c) (h : gList [c] P)
    (k : ∀ q S' H' o d, P d → H q = none → Gr S H S' H' → S' q = none → H' q = some o → HOD K S' o d → Q (.ref q) H') :
    (∃ p' ys, ([.ref p] : List V) = [.ref p'] ∧ (SqL K H p' ys ∨ SqT K H p' ys) ∧ ∀ l, H l = none → Q (.ref l) (upd H l (.lst ys))) ∨ ((∃ d kvs, ([.ref p] : List V) = [V.ref d] ∧ Rd H d (.dT kvs) ∧ ∀ q bs, H q = none → IsKeys H kvs bs → Q (.ref q) (upd H q (.lst (bs.map V.ref)))) ∨ (∃ p' kvs, ([.ref p] : List V) = [.ref p'] ∧ Rd H p' (.dK kvs) ∧ ∀ q, H q = none → Q (.ref q) (upd H q (.lst (kvs.map fun kv => kV kv.1))))) := by
  cases c with
  | dT ks vs =>
    cases o with
    | dT kvs =>
      obtain ⟨e1, hd⟩ := hod_dT ho
      subst e1
      refine .inr (.inl ⟨p, kvs, rfl, .inl hp, fun q bs hq ik => ?_⟩)
      have g1 := addT_gr ex (keys_tup ik)
      have g := g1.trans (Gr.hid (o := .lst (bs.map V.ref)) g1.sh hq)
      exact k q _ _ _ _ h hq g (g1.sh.free hq) upd_same (keys_den ik fun _ h => h)
    | _ => exact (show False from ho).elim
  | dK ks vs =>
    cases o with
    | dK kvs =>
      obtain ⟨e1, hd⟩ := hod_dK ho
      subst e1
      refine .inr (.inr ⟨p, kvs, rfl, .inl hp, fun q hq => ?_⟩)
      refine k q _ _ _ _ h hq (Gr.hid (o := .lst (kvs.map fun kv => kV kv.1)) ex hq) (ex.free hq) upd_same ?_
      have := den_keys (K := K) (S := S) (kvs.map (·.1))
      rw [List.map_map] at this
      exact this
    | _ => exact (show False from ho).elim
  | lst ds =>
    cases o with
    | lst vs =>
      obtain ⟨ys, e, hP⟩ := h
      cases e
      refine .inl ⟨p, vs, rfl, .inl (SqL.of hp), fun l hl => ?_⟩
      exact k l _ _ _ _ hP hl (Gr.hid (o := .lst vs) ex hl) (ex.free hl) upd_same ho
    | _ => exact (show False from ho).elim
  | _ => exact (show False from by (obtain ⟨_, e, _⟩ := h; cases e <;> (cases o <;> exact ho))).elim
theorem pf_listO (j : Nat) {x y : Str} {p py : Pos} (hg : Gl X x) (hm : X.mg x = none) (hN : X.N[j]? = some y := by rfl) (hvis : Vis X.env.scope y := by first | exact Or.inl rfl | exact Or.inr (Or.inl rfl) | exact Or.inr (Or.inr rfl))
    (hd : (y == ("__debug__" : Str)) = false := by decide) (hcd : (y == ("__classdict__" : Str)) = false := by decide) (hc : X.calm = true := by rfl)
    (hv : bootBuiltins x = some (.type "list") := by decide +kernel) (hn : x ≠ "__name__" := by decide) (hdb : (x == ("__debug__" : Str)) = false := by decide)
    (he : starEach [Expr.Name y py] X.env = (false, eval (Expr.Name y py) X.env) :: starEach [] X.env := by rfl) (hpl : (backTo pos (starEach [] X.env)).any (·.1) = false := by rfl) :
    PEF X fi fa (.Call (.Name x p) [.Name y py] [] pos) (fListO j) := by
  refine ⟨_, pe_callTy (CallR.or call_list_of (CallR.or (call_list_dT hc) (call_list_dKR hc))) hg hm hv (pa_cons (pv j hN hvis hd hcd) pa_nil he) hn hdb he hpl, fun σ H S ρ P Q r hf k => ?_⟩
  obtain ⟨c, h0, hf⟩ := ownD_inv hf
  obtain ⟨q, o, e1, e2, e3, e4⟩ := r.own j c h0
  refine ⟨_, e1, gList_ok r.ex e3 e4 hf fun l S' H' o' d hP hl g hs ho' hod => ?_⟩
  exact k _ H' S' d ρ hP (r.grow g) g.tr (fresh_of (H1 := H) r (Tr.refl σ H S ρ) hl S' H' hs ho' hod)
end
end DL

/-! DL9: calls by keywords alone; sorted of tuples of ints, any length. -/
namespace DL
open PySem PySem.Spec PyProof.Rows L2

/-! ### keywords -/
def permL {α : Type} (ix : List Nat) (l : List α) : List α := ix.filterMap (l[·]?)
theorem vals_perm {vs : List V} {us : List Value} (h : Vals vs us) : ∀ ix : List Nat, Vals (permL ix vs) (permL ix us)
  | [] => .nil
  | i :: ix => by
    unfold permL
    rw [List.filterMap_cons, List.filterMap_cons]
    cases q : vs[i]? with
    | none => rw [h.none_of q]; exact vals_perm h ix
    | some v =>
      obtain ⟨u, e, r⟩ := h.get q
      rw [e]
      exact .cons r (vals_perm h ix)
theorem dens_perm {K : PySem.W.Frag} {S : Hp} {vs : List V} {ds : List D} (h : Dens K S vs ds) : ∀ ix : List Nat, Dens K S (permL ix vs) (permL ix ds)
  | [] => .nil
  | i :: ix => by
    unfold permL
    rw [List.filterMap_cons, List.filterMap_cons]
    cases q : vs[i]? with
    | none =>
      have : ds[i]? = none := by
        rw [List.getElem?_eq_none_iff, ← h.length]
        exact List.getElem?_eq_none_iff.mp q
      rw [this]; exact dens_perm h ix
    | some v =>
      obtain ⟨u, e, r⟩ := h.getV q
      rw [e]
      exact .cons r (dens_perm h ix)
/-- all parameters by keywords: ks their names as written, ix where each parameter stands among them -/
def KB0 (K : PySem.W.Frag) (fd : FuncData) (ps ks : List Str) (ix : List Nat) : Prop := ∀ (s : Shared) (ws : List Value), K.In s.heap → ws.length = ks.length → BindsTo s fd ⟨[], ks.zip ws⟩ (ps.zip (permL ix ws))
theorem kb0_of {K : PySem.W.Frag} {x qual : Str} {st : Stmt} {f : Addr} {fd : FuncData} {ps ks : List Str} {ix : List Nat} (F : Fun K x qual st f fd)
    (h : ∀ (kV doc pm : Value) (an : Option Addr) (cdv ct : Value) (us : List Value), us.length = ks.length → bindArgs (PySem.W.fnOf x qual (defArgs st) (defBody st) (defScope st) .none kV doc pm an cdv ct) ⟨[], ks.zip us⟩ = pure (ps.zip (permL ix us))) : KB0 K fd ps ks ix := by
  obtain ⟨oc, od, kV, doc, pm, an, cdv, ct, osl, rfl, lk, hcd⟩ := F.ex
  exact fun s ws _ hl => .of_eq (h kV doc pm an cdv ct ws hl)
section
variable {X : Cx} {fi : List Nat} {fa : Nat → Addr} {fs : FA} {pos p kpos : Pos} {CX : CXT} {k n : Nat} {f : Addr} {fd : FuncData} {ps ks : List Str} {E : XK} {x : Str} {kws : List Keyword} {e : Expr} {fe : FE} {nm : Option Str}
def PKD (X : Cx) (fi : List Nat) (fa : Nat → Addr) (kws : List Keyword) (f : FA) : Prop := ∃ t, PK X kws t ∧ OkA X.K fi fa t f
theorem pkd_nil : PKD X fi fa [] fNil := ⟨_, pk_nil, fun σ H S ρ P Q r hf k => k [] H S [] ρ hf r (Tr.refl σ H S ρ) .nil⟩
theorem pkd_cons {nm : Option Str} (h : PED X fi fa e fe) (hr : PKD X fi fa kws fs) : PKD X fi fa (⟨nm, e, kpos⟩ :: kws) (fCons fe fs) := by
  obtain ⟨t, q, o⟩ := h
  obtain ⟨u, q2, w⟩ := hr
  exact ⟨_, pk_cons q q2, fun σ H S ρ P Q r hf k => o σ H S ρ _ _ r hf fun v H1 S1 d ρ1 hf1 r1 t1 d1 => w σ H1 S1 ρ1 _ _ r1 hf1 fun vs H2 S2 ds ρ2 hf2 r2 t2 d2 => k _ H2 S2 _ ρ2 hf2 r2 (t1.trans t2) (.cons (d1.mono t2.exS) d2)⟩
def fCallK (ix : List Nat) (n m : Nat) (g : GD) (fs : FA) : FE := fun ρ P => fs ρ fun ds ρ1 => ds.length = m ∧ (permL ix ds).length = n ∧ g (permL ix ds) fun d => P d ρ1
def tCallK0 (ix : List Nat) (m : Nat) (sp : Sp) (E : XK) (tk : TA) : TE := fun σ H Q => tk σ H fun zs H2 => zs.length = m ∧ sp (permL ix zs) H2 Q E
theorem pe_callK0 {sp : Sp} {ix : List Nat} {tk : TA} (F : FnOk X.prog X.w X.K X.mg X.base CX k f fd ps sp) (hr : Room k X.A) (hg : Gl X x) (hm : X.mg x = some (.ref f)) (hk : PySem.W.keepIn X.K (.ref f) = true) (hb : KB0 X.K fd ps ks ix) (hx : Passes CX X E)
    (hkw : PK X kws tk) (hall : (backToKw pos (keywordEach kws X.env)).all (·.1.isSome) = true := by rfl) (hks : (backToKw pos (keywordEach kws X.env)).filterMap (·.1) = ks := by rfl) (hdb : (x == ("__debug__" : Str)) = false := by decide)
    (hpl : ((backTo pos (starEach [] X.env)).any (·.1) || (backToKw pos (keywordEach kws X.env)).any (·.1.isNone)) = false := by rfl) : PE X (.Call (.Name x p) [] kws pos) (tCallK0 ix ks.length sp E tk) := by
  refine ⟨fun pins s σ H Q I h => ?_⟩
  refine wpAny_Call_Name_kw (ld_glob I hg hm ?_ hdb)
  refine PySem.W.callWith_KW0 (h₀ := X.base) I.ok.mod.kin hk hall (thn (hkw.run pos pins s σ H _ I h) fun ws s2 ⟨zs, H2, I2, rz, hl, q2⟩ => ⟨I2.kIn, ?_⟩) hpl
  rw [hks]
  have rp := vals_perm rz ix
  refine wpAny_call (codeAny_mono (F.run X.A X.stack s2 H2 ⟨[], ks.zip ws⟩ (permL ix ws) (permL ix zs) Q E hr I2.env0 (hb s2 ws I2.kIn (by rw [← rz.length]; exact hl)) rp q2) fun r s' hq => ?_)
  cases r with
  | error e => exact hx pins σ H2 s2 e s' I2 hq
  | ok fl =>
    cases fl with
    | ret u => exact I2.after hq
    | next => exact False.elim hq
    | brk => exact False.elim hq
    | cont => exact False.elim hq
theorem pd_callK {g : GD} (ix : List Nat) (ks : List Str) (F : FnOk X.prog X.w X.K X.mg X.base CX k f fd ps (spP X.K n g)) (hr : Room k X.A) (hg : Gl X x) (hm : X.mg x = some (.ref f)) (hk : PySem.W.keepIn X.K (.ref f) = true) (hb : KB0 X.K fd ps ks ix) (hx : Passes CX X E)
    (hkw : PKD X fi fa kws fs) (hall : (backToKw pos (keywordEach kws X.env)).all (·.1.isSome) = true := by rfl) (hks : (backToKw pos (keywordEach kws X.env)).filterMap (·.1) = ks := by rfl) (hdb : (x == ("__debug__" : Str)) = false := by decide)
    (hpl : ((backTo pos (starEach [] X.env)).any (·.1) || (backToKw pos (keywordEach kws X.env)).any (·.1.isNone)) = false := by rfl) : PED X fi fa (.Call (.Name x p) [] kws pos) (fCallK ix n ks.length g fs) := by
  obtain ⟨t, q, ok⟩ := hkw
  refine ⟨_, pe_callK0 F hr hg hm hk hb hx q hall hks hdb hpl, fun σ H S ρ P Q r hf k => ok σ H S ρ _ _ r hf fun vs H1 S1 ds ρ1 hP r1 t1 hd => ?_⟩
  refine ⟨by rw [hd.length]; exact hP.1, S1, permL ix ds, _, hP.2.1, r1.ex, dens_perm hd ix, hP.2.2, fun v S' H' d hp gr den => k v H' S' d ρ1 hp (r1.grow gr) (t1.trans gr.tr) den⟩
end

/-! ### sorted -/
namespace Srt2
open PyProof.Rows.G PySem.W
def sh0 : Nat → Bool := fun _ => false
theorem items_ints : ∀ {ns : List Int} {us : List Value} (i : Nat), Vals (ns.map V.int) us → tupItems sh0 i us = some (ns.map Sum.inl)
  | [], _, _, .nil => rfl
  | n :: ns, _, i, .cons r t => by
    obtain ⟨tk, rfl⟩ := r
    show (if sh0 i = true then none else (tupItems sh0 (i + 1) _).map (Sum.inl n :: ·)) = _
    rw [if_neg (by unfold sh0; exact Bool.false_ne_true), items_ints (i + 1) t]
    rfl
theorem lex_eq : ∀ a b : List Int, PyProof.Rows.lexLt itemOrd (a.map Sum.inl) (b.map Sum.inl) = HT.lexLt a b
  | [], [] => rfl
  | [], _ :: _ => rfl
  | _ :: _, [] => rfl
  | x :: xs, y :: ys => by
    show (decide (x < y) || (!decide (y < x) && PyProof.Rows.lexLt itemOrd (xs.map Sum.inl) (ys.map Sum.inl))) = HT.lexLt (x :: xs) (y :: ys)
    rw [lex_eq xs ys, HT.lexLt_cons]
    by_cases h : x = y
    · subst h
      rw [if_pos rfl, decide_eq_false (Int.lt_irrefl x)]
      simp
    · rw [if_neg h]
      by_cases h2 : x < y
      · rw [decide_eq_true h2]; rfl
      · rw [decide_eq_false h2, decide_eq_true (show y < x by omega)]; rfl
end Srt2
/-- sorted(xs): k says which ints each item has -/
def rSortTu (K : PySem.W.Frag) : List V → Hp → VK → Prop := fun vs H Q => ∃ (a : Addr) (xs : List V) (k : V → List Int), vs = [V.ref a] ∧ SqL K H a xs ∧ (∀ x ∈ xs, ∃ t, x = V.ref t ∧ H t = some (.tup ((k x).map V.int)) ∧ k x ≠ []) ∧
  ∀ ys p, ys.Perm xs → ys.Pairwise (fun x y => HT.lexLt (k y) (k x) = false) → H p = none → Q (.ref p) (upd H p (.lst ys))
section
variable {X : Cx}
open PyProof.Rows.G PySem.W Srt2 in
theorem cr_sortTu : CallR X (.builtin "sorted") (rSortTu X.K) := by
  intro pins s σ H vs us Q I r h
  obtain ⟨a, xs, k, rfl, hs, hx, q⟩ := h
  obtain ⟨its, rv, hl, hz⟩ := I.list hs
  obtain ⟨u, rfl, ru⟩ := vals1 r
  obtain rfl : u = Value.ref a := ru
  obtain ⟨e1, e2⟩ := refs_back rv fun x m => by
    obtain ⟨t, e, _⟩ := hx x m
    exact ⟨t, e⟩
  -- each item's object
  have obj : ∀ v ∈ its, ∃ (t : Addr) (o : Obj) (zs : List Value) (n : Nat), v = .ref t ∧ s.heap.get? t = some o ∧ o.cls = .type "tuple" ∧ o.data = .seq zs.toArray n ∧ Vals ((k (backV v)).map V.int) zs ∧ k (backV v) ≠ [] := fun v hv => by
    obtain ⟨t, rfl⟩ := e2 v hv
    have hm : V.ref t ∈ xs := by rw [e1]; exact List.mem_map.mpr ⟨_, hv, rfl⟩
    obtain ⟨t', e, ht, hne⟩ := hx _ hm
    cases e
    obtain ⟨_, zs, r2, o, ho, hc, n, hd⟩ := I.hok _ _ ht
    exact ⟨t, o, zs, n, rfl, ho, hc, hd, r2, hne⟩
  have key : ∀ v ∈ its, tupKeyC s.heap sh0 v = some ((k (backV v)).map Sum.inl) := fun v hv => by
    obtain ⟨t, o, zs, n, rfl, ho, hc, hd, r2, _⟩ := obj v hv
    unfold tupKeyC
    have c1 : isTupObj s.heap (.ref t) = true := by
      unfold isTupObj
      simp only [ho, hc]
      rfl
    rw [if_pos c1]
    unfold tupKey
    simp only [ho, hd]
    exact items_ints 0 r2
  have tups : ∀ l : List Value, (∀ v ∈ l, v ∈ its) → ∃ fs, TupsOf s.heap sh0 l fs := fun l => by
    induction l with
    | nil => exact fun _ => ⟨[], .nil⟩
    | cons v l ih =>
      intro hm
      obtain ⟨fs, h⟩ := ih fun u hu => hm u (List.mem_cons_of_mem _ hu)
      obtain ⟨t, o, zs, n, rfl, ho, hc, hd, r2, hne⟩ := obj v (hm v List.mem_cons_self)
      cases hk : k (backV (.ref t)) with
      | nil => exact absurd hk hne
      | cons n0 ns =>
        rw [hk] at r2
        cases r2 with
        | cons rr tt =>
          obtain ⟨tk, rfl⟩ := rr
          exact ⟨_, .cons ⟨t, o, _, n, rfl, ho, hc, hd, rfl, fun _ => ⟨n0, tk, rfl⟩, fun h => absurd h (by unfold sh0; exact Bool.false_ne_true)⟩ h⟩
  obtain ⟨fs, ht⟩ := tups its fun _ h => h
  refine sorted_tups hl.isList ht (fun v hv => ⟨_, key v hv⟩) (by rw [← rv.length]; exact hz) fun st' h1 h2 _ => ?_
  have pm : ((arrOf st').map (·.2)).toList.Perm its := by
    have := h1.toList.map (·.2)
    rw [pairsOf_toList] at this
    rw [Array.toList_map]
    refine this.trans ?_
    have z : ∀ l : List Value, (l.zip l).map (·.2) = l := fun l => by
      induction l with
      | nil => rfl
      | cons x l ih => rw [List.zip_cons_cons, List.map_cons, ih]
    rw [z]
  have mem : ∀ p ∈ (arrOf st').toList, p.1 = p.2 ∧ p.2 ∈ its := fun p hp => by
    have := (h1.toList.mem_iff).mp hp
    rw [pairsOf_toList] at this
    have z : ∀ l : List Value, ∀ p ∈ l.zip l, p.1 = p.2 ∧ p.2 ∈ l := fun l => by
      induction l with
      | nil => intro p hp; cases hp
      | cons x l ih =>
        intro p hp
        rw [List.zip_cons_cons] at hp
        rcases List.mem_cons.mp hp with rfl | hp
        · exact ⟨rfl, List.mem_cons_self⟩
        · exact ⟨(ih p hp).1, List.mem_cons_of_mem _ (ih p hp).2⟩
    exact z its p this
  have so : (((arrOf st').map (·.2)).toList.map backV).Pairwise (fun x y => HT.lexLt (k y) (k x) = false) := by
    rw [List.pairwise_map, Array.toList_map, List.pairwise_map, List.pairwise_iff_getElem]
    intro i j hi hj hij
    have sz : (arrOf st').size = (pairsOf its).size := h1.size_eq
    have hj' : j < (arrOf st').size := by simpa using hj
    have hi' : i < (arrOf st').size := by simpa using hi
    have le := h2 i j (Nat.le_of_lt hij) (by rw [← sz]; exact hj')
    have kk : ∀ m (hm : m < (arrOf st').size), KK (tupKindC s.heap sh0) (arrOf st') m = (k (backV ((arrOf st')[m]).2)).map Sum.inl := fun m hm => by
      obtain ⟨a1, a2⟩ := mem _ (Array.getElem_mem_toList hm)
      unfold KK
      rw [Array.getElem?_eq_getElem hm]
      show (tupKeyC s.heap sh0 ((arrOf st')[m]).1).getD _ = _
      rw [a1, key _ a2]
      rfl
    rw [kk i hi', kk j hj'] at le
    have le' : PyProof.Rows.lexLt itemOrd ((k (backV ((arrOf st')[j]).2)).map Sum.inl) ((k (backV ((arrOf st')[i]).2)).map Sum.inl) = false := le
    rw [lex_eq] at le'
    simpa using le'
  have h3 : ∀ u ∈ ((arrOf st').map (·.2)).toList, ∃ a, u = Value.ref a := fun u hu => e2 u (pm.mem_iff.mp hu)
  obtain ⟨ee, hat⟩ := sortedAll_at s.heap its ((arrOf st').map (·.2))
  refine ⟨.ref (s.heap.objs.size + 1), upd H (s.heap.objs.size + 1) (.lst (((arrOf st').map (·.2)).toList.map backV)), I.laid (t' := s.toks) (fun b o e => sortedAll_old e) (Nat.le_succ _) ⟨?_, _, ee, vals_back h3, ?_⟩, rfl, q _ _ ?_ so (I.hok.fresh (Nat.le_succ _))⟩
  · rw [List.length_map, pm.length_eq, ← rv.length]; exact hz
  · rw [hat]
  · rw [e1]; exact pm.map backV
/-- lists of tuples of ints -/
def tupI (ns : List Int) : D := .tup (ns.map .int)
def gSortT : GD := fun ds P => ∃ L : List (List Int), ds = [.lst (L.map tupI)] ∧ (∀ l ∈ L, l ≠ []) ∧ ∀ L' : List (List Int), L'.Perm L → L'.Pairwise (fun x y => HT.lexLt y x = false) → P (.lst (L'.map tupI))
theorem den_tupI {K : PySem.W.Frag} {S : Hp} {v : V} {ns : List Int} (h : Den K S v (tupI ns)) : ∃ t, v = .ref t ∧ S t = some (.tup (ns.map V.int)) := by
  obtain ⟨a, xs, rfl, h1, h2⟩ := den_tup h
  rw [Dens.ints_inv h2] at h1
  exact ⟨a, rfl, h1⟩
theorem tupI_den {K : PySem.W.Frag} {S : Hp} {t : Addr} {ns : List Int} (h : S t = some (.tup (ns.map V.int))) : Den K S (.ref t) (tupI ns) := .tup h (Dens.ints ns)
def intOf : V → Int
  | .int i => i
  | _ => 0
def keyOfS (S : Hp) (v : V) : List Int := match v with
  | .ref t => match S t with
    | some (.tup xs) => xs.map intOf
    | _ => []
  | _ => []
theorem intOf_map (ns : List Int) : (ns.map V.int).map intOf = ns := by
  rw [List.map_map]
  exact (List.map_congr_left fun _ _ => rfl).trans (List.map_id ns)
theorem keyOfS_at {K : PySem.W.Frag} {S : Hp} {v : V} {ns : List Int} (h : Den K S v (tupI ns)) : keyOfS S v = ns := by
  obtain ⟨t, rfl, h'⟩ := den_tupI h
  show (match S t with | some (.tup xs) => xs.map intOf | _ => []) = ns
  rw [h']
  exact intOf_map ns
theorem cf_sortT : CallF X (.builtin "sorted") gSortT := by
  refine ⟨_, cr_sortTu, fun xs ds S H P Q ex hd hg k => ?_⟩
  obtain ⟨L, rfl, hne, hP⟩ := hg
  cases hd with
  | cons h t =>
    cases t
    obtain ⟨a, vs, rfl, h1, h2⟩ := den_lst h
    have each : ∀ v ∈ vs, Den X.K S v (tupI (keyOfS S v)) ∧ keyOfS S v ∈ L := fun v hv => by
      obtain ⟨i, hi⟩ := List.mem_iff_getElem?.mp hv
      obtain ⟨d, h3, h4⟩ := h2.getV hi
      rw [List.getElem?_map] at h3
      cases hl : L[i]? with
      | none => rw [hl] at h3; cases h3
      | some l =>
        rw [hl] at h3
        cases h3
        have := keyOfS_at h4
        rw [this]
        exact ⟨h4, List.mem_of_getElem? hl⟩
    refine ⟨a, vs, keyOfS S, rfl, SqL.of (ex _ _ h1), fun v hv => ?_, fun ys p hp so h0 => ?_⟩
    · obtain ⟨g1, g2⟩ := each v hv
      obtain ⟨t, rfl, h3⟩ := den_tupI g1
      exact ⟨t, rfl, ex _ _ h3, hne _ g2⟩
    · have den : ∀ zs : List V, (∀ z ∈ zs, z ∈ vs) → Dens X.K S zs ((zs.map (keyOfS S)).map tupI) := fun zs => by
        induction zs with
        | nil => exact fun _ => .nil
        | cons z zs ih => exact fun hm => .cons (each z (hm z List.mem_cons_self)).1 (ih fun u hu => hm u (List.mem_cons_of_mem _ hu))
      have eL : vs.map (keyOfS S) = L := by
        have : ∀ (vs : List V) (L : List (List Int)), Dens X.K S vs (L.map tupI) → vs.map (keyOfS S) = L := fun vs => by
          induction vs with
          | nil => intro L h; cases L with
            | nil => rfl
            | cons _ _ => cases h
          | cons v vs ih => intro L h; cases L with
            | nil => cases h
            | cons l L =>
              cases h with
              | cons a b => rw [List.map_cons, keyOfS_at a, ih L b]
        exact this vs L h2
      refine k p S (upd H p (.lst ys)) (.lst ys) _ (hP (ys.map (keyOfS S)) ?_ ?_) h0 (Gr.hid ex h0) (ex.free h0) upd_same (den ys fun z hz => hp.mem_iff.mp hz)
      · rw [← eL]; exact hp.map _
      · exact List.pairwise_map.mpr so
end
end DL

/-! DLA: defs as they are known to their callers; loops by an invariant; more rules. -/
namespace DL
open PySem PySem.Spec PyProof.Rows L2

/-- a def that a text may call: where it stands, what it promises -/
structure Df (P : Program) (w : World) (K : PySem.W.Frag) (mg : Str → Option Value) (base : Heap) (L : Nat) (x : Str) (ps : List Str) (sp : Sp) : Prop where
  ex : ∃ (f : Addr) (fd : FuncData), FnOk P w K mg base CX0 L f fd ps sp ∧ mg x = some (.ref f) ∧ PySem.W.keepIn K (.ref f) = true ∧ Binds K fd ps []
/-- .. by keywords alone -/
structure Dk (P : Program) (w : World) (K : PySem.W.Frag) (mg : Str → Option Value) (base : Heap) (L : Nat) (x : Str) (ps ks : List Str) (ix : List Nat) (sp : Sp) : Prop where
  ex : ∃ (f : Addr) (fd : FuncData), FnOk P w K mg base CX0 L f fd ps sp ∧ mg x = some (.ref f) ∧ PySem.W.keepIn K (.ref f) = true ∧ KB0 K fd ps ks ix
section
variable {X : Cx} {fi : List Nat} {fa : Nat → Addr} {e : Expr} {es : List Expr} {fs : FA} {pos p : Pos} {n L : Nat} {ps : List Str} {x : Str} {kws : List Keyword}
theorem pd_c {g : GD} (D : Df X.prog X.w X.K X.mg X.base L x ps (spP X.K n g)) (hr : Room L X.A) (ha : PAD X fi fa (e :: es) fs) (hg : Gl X x := by rfl) (hdb : (x == ("__debug__" : Str)) = false := by decide)
    (he : starEach (e :: es) X.env = (false, eval e X.env) :: starEach es X.env := by rfl) (hpl : (backTo pos (starEach es X.env)).any (·.1) = false := by rfl) : PED X fi fa (.Call (.Name x p) (e :: es) [] pos) (fCallP n g fs) := by
  obtain ⟨f, fd, F, hm, hk, hb⟩ := D.ex
  exact pd_call F hr hg hm hk hb pass0 ha hdb he hpl
theorem pf_c {g : GD} (D : Df X.prog X.w X.K X.mg X.base L x ps (spF X.K n g)) (hr : Room L X.A) (ha : PAD X fi fa (e :: es) fs) (hg : Gl X x := by rfl) (hdb : (x == ("__debug__" : Str)) = false := by decide)
    (he : starEach (e :: es) X.env = (false, eval e X.env) :: starEach es X.env := by rfl) (hpl : (backTo pos (starEach es X.env)).any (·.1) = false := by rfl) : PEF X fi fa (.Call (.Name x p) (e :: es) [] pos) (fCallP n g fs) := by
  obtain ⟨f, fd, F, hm, hk, hb⟩ := D.ex
  exact pf_call F hr hg hm hk hb pass0 ha hdb he hpl
theorem pd_i (i : Nat) {g : GI} {y : Str} {py : Pos} (D : Df X.prog X.w X.K X.mg X.base L x ps (spI X.K n g)) (hr : Room L X.A) (ha : PAD X fi fa es fs) (hg : Gl X x := by rfl) (hN : X.N[i]? = some y := by rfl) (hv : Vis X.env.scope y := by first | exact Or.inl rfl | exact Or.inr (Or.inl rfl) | exact Or.inr (Or.inr rfl)) (hd : (y == ("__debug__" : Str)) = false := by decide)
    (hcd : (y == ("__classdict__" : Str)) = false := by decide) (hs : starEach (Expr.Name y py :: es) X.env = (false, eval (Expr.Name y py) X.env) :: starEach es X.env := by rfl)
    (hdb : (x == ("__debug__" : Str)) = false := by decide) (hpl : (backTo pos (starEach es X.env)).any (·.1) = false := by rfl) : PED X fi fa (.Call (.Name x p) (.Name y py :: es) [] pos) (fCallI i n g fs) := by
  obtain ⟨f, fd, F, hm, hk, hb⟩ := D.ex
  exact pd_callI i F hr hg hm hk hb pass0 ha hN hv hd hcd hs hdb hpl
theorem pd_k {g : GD} {ix : List Nat} {ks : List Str} {m : Nat} (D : Dk X.prog X.w X.K X.mg X.base L x ps ks ix (spP X.K n g)) (hr : Room L X.A) (hkw : PKD X fi fa kws fs) (hg : Gl X x := by rfl) (hall : (backToKw pos (keywordEach kws X.env)).all (·.1.isSome) = true := by rfl) (hks : (backToKw pos (keywordEach kws X.env)).filterMap (·.1) = ks := by rfl) (hdb : (x == ("__debug__" : Str)) = false := by decide)
    (hpl : ((backTo pos (starEach [] X.env)).any (·.1) || (backToKw pos (keywordEach kws X.env)).any (·.1.isNone)) = false := by rfl) (hm' : ks.length = m := by rfl) : PED X fi fa (.Call (.Name x p) [] kws pos) (fCallK ix n m g fs) := by
  subst hm'
  obtain ⟨f, fd, F, hm, hk, hb⟩ := D.ex
  exact pd_callK ix ks F hr hg hm hk hb pass0 hkw hall hks hdb hpl
end

/-! ### a def as the top has left it -/
def At (K : PySem.W.Frag) (x : Str) (st : Stmt) : Prop := ∃ (f : Addr) (fd : FuncData), Fun K x x st f fd ∧ PySem.W.nsIn K mainGlobals x = some (some (.ref f))
theorem at_mk {K : PySem.W.Frag} {x : Str} {st : Stmt} {f : Addr} {oc : Value} {od an : Option Addr} {osl : Array (Option Value)} {kV doc pm cdv ct : Value} (a : PySem.W.nsIn K mainGlobals x = some (some (.ref f)))
    (l : K.lookup f = some ⟨oc, od, .func (PySem.W.fnOf x x (defArgs st) (defBody st) (defScope st) .none kV doc pm an cdv ct), osl⟩) (c : PySem.W.codeIn K cdv x = true) (k : PySem.W.keepIn K (.ref f) = true) : At K x st := ⟨f, _, fun_mk l c k, a⟩
section
variable {P : Program} {w : World} {K : PySem.W.Frag} {mg : Str → Option Value} {base h : Heap} {x : Str} {st : Stmt} {L : Nat} {ps ks : List Str} {ix : List Nat} {sp : Sp}
theorem df_mk (A : At K x st) (X : K.In h) (G : h.Ns mainGlobals mg) (hb : ∀ (kV doc pm : Value) (an : Option Addr) (cdv ct : Value) (us : List Value), us.length = ps.length → bindArgs (PySem.W.fnOf x x (defArgs st) (defBody st) (defScope st) .none kV doc pm an cdv ct) ⟨us, []⟩ = pure (ps.zip us))
    (ok : ∀ (f : Addr) (fd : FuncData), Fun K x x st f fd → FnOk P w K mg base CX0 L f fd ps sp) : Df P w K mg base L x ps sp := by
  obtain ⟨f, fd, F, a⟩ := A
  exact ⟨f, fd, ok f fd F, PySem.W.mg_of X G a, F.kp, F.binds hb⟩
theorem dk_mk (A : At K x st) (X : K.In h) (G : h.Ns mainGlobals mg) (hb : ∀ (kV doc pm : Value) (an : Option Addr) (cdv ct : Value) (us : List Value), us.length = ks.length → bindArgs (PySem.W.fnOf x x (defArgs st) (defBody st) (defScope st) .none kV doc pm an cdv ct) ⟨[], ks.zip us⟩ = pure (ps.zip (permL ix us)))
    (ok : ∀ (f : Addr) (fd : FuncData), Fun K x x st f fd → FnOk P w K mg base CX0 L f fd ps sp) : Dk P w K mg base L x ps ks ix sp := by
  obtain ⟨f, fd, F, a⟩ := A
  exact ⟨f, fd, ok f fd F, PySem.W.mg_of X G a, F.kp, kb0_of F hb⟩
/-- the law's own promise, from its worth on the script -/
theorem law_sp {K : PySem.W.Frag} {g : GD} (h : ∀ ns : List Int, ns.length ≤ 63 → g [.rol (ns.map .int)] fun d => d = .bl true) {H : Hp} {a : Addr} {ns : List Int} (hl : ns.length ≤ 63) (hS : SqL K H a (ns.map V.int)) :
    spP K 1 g [.ref a] H (fun v _ => v = .bl true) fun _ _ _ => False :=
  ⟨H, _, _, rfl, Ex.refl H, .one (.rol hS (Dens.ints ns)), h ns hl, fun v S' H' d e _ hd => by subst e; exact den_bl hd⟩
end

/-! ### a chain of comparisons; in a dict as a test -/
section
variable {X : Cx} {fi : List Nat} {fa : Nat → Addr} {a b c i o : Expr} {fx fy fz fd : FE} {pos : Pos}
def fChain (g h : D → D → (D → Prop) → Prop) (fx fy fz : FE) : FE := fun ρ P => fx ρ fun x ρ1 => fy ρ1 fun y ρ2 => g x y fun d => asB d fun k => if k = true then fz ρ2 fun z ρ3 => h y z fun d => P d ρ3 else P (.bl false) ρ2
theorem pd_chain {op op' : CmpOp} {g h : D → D → (D → Prop) → Prop} (ho : OpD X (compareOp op) g) (ho' : OpD X (compareOp op') h) (ha : PED X fi fa a fx) (hb : PED X fi fa b fy) (hc : PED X fi fa c fz)
    (hp : ∀ (r r' : R2) (ta tb tc : TE), OpR X (compareOp op) r → OpR X (compareOp op') r' → PE X a ta → PE X b tb → PE X c tc → PE X (.Compare a [op, op'] [b, c] pos) (tChain r r' ta tb tc) := by exact fun _ _ _ _ _ h1 h2 h3 h4 h5 => pe_chain h1 h2 h3 h4 h5) :
    PED X fi fa (.Compare a [op, op'] [b, c] pos) (fChain g h fx fy fz) := by
  obtain ⟨r, h1, h2⟩ := ho
  obtain ⟨r', h1', h2'⟩ := ho'
  obtain ⟨tx, px, ox⟩ := ha
  obtain ⟨ty, py, oy⟩ := hb
  obtain ⟨tz, pz, oz⟩ := hc
  refine ⟨_, hp r r' tx ty tz h1 h1' px py pz, fun σ H S ρ P Q rr hf k => ox σ H S ρ _ _ rr hf fun v H1 S1 d ρ1 q1 r1 t1 d1 => oy σ H1 S1 ρ1 _ _ r1 q1 fun u H2 S2 e ρ2 q2 r2 t2 d2 => ?_⟩
  refine h2 v u d e S2 H2 _ _ r2.ex (d1.mono t2.exS) d2 q2 fun z S3 H3 x hx g3 d3 => ?_
  obtain ⟨k3, rfl, hx⟩ := asB_inv hx
  have r3 := r2.grow g3
  have T := (t1.trans t2).trans (g3.tr (σ := σ) (ρ := ρ2))
  refine ⟨k3, den_bl d3, ?_⟩
  cases k3 with
  | true => exact iteT (oz σ H3 S3 ρ2 _ _ r3 (by simpa [asB] using hx) fun y H4 S4 y' ρ4 q4 r4 t4 d4 => h2' u y e y' S4 H4 _ Q r4.ex ((d2.mono g3.s).mono t4.exS) d4 q4 fun z' S5 H5 x' hP g5 d5 => k z' H5 S5 x' ρ4 hP (r4.grow g5) ((T.trans t4).trans g5.tr) d5)
  | false => exact iteF (k _ H3 S3 _ ρ2 (by simpa [asB] using hx) r3 T (.bl _))
theorem pt_din (hu : X.A.units + 1 < cLine) (hi : PED X fi fa i fy) (ho : PED X fi fa o fd) (hm : behindInMarks .In o = false := by rfl) : PTD X fi fa (.Compare i [.In] [o] pos) (fTst (fDIn false fy fd)) := by
  obtain ⟨t1, p1, o1⟩ := hi
  obtain ⟨t2, p2, o2⟩ := ho
  refine ⟨_, pt_cmp (pc_din hu p1 p2) hm, fun σ H S ρ P Q r hf k => ?_⟩
  have := din_ok (Q := fun x H1 => ∃ c, x = .bl c ∧ Q c H1) o1 o2 r hf fun v H' S' d ρ' hP r' t' den => by
    obtain ⟨b, rfl, hP⟩ := asB_inv hP
    exact ⟨b, den_bl den, k b H' S' ρ' hP r' t'⟩
  simp only [Bool.false_bne] at this
  exact this
theorem pt_dnotin (hu : X.A.units + 1 < cLine) (hi : PED X fi fa i fy) (ho : PED X fi fa o fd) (hm : behindInMarks .NotIn o = false := by rfl) : PTD X fi fa (.Compare i [.NotIn] [o] pos) (fTst (fDIn true fy fd)) := by
  obtain ⟨t1, p1, o1⟩ := hi
  obtain ⟨t2, p2, o2⟩ := ho
  refine ⟨_, pt_cmp (pc_dnotin hu p1 p2) hm, fun σ H S ρ P Q r hf k => ?_⟩
  have := din_ok (Q := fun x H1 => ∃ c, x = .bl c ∧ Q c H1) o1 o2 r hf fun v H' S' d ρ' hP r' t' den => by
    obtain ⟨b, rfl, hP⟩ := asB_inv hP
    exact ⟨b, den_bl den, k b H' S' ρ' hP r' t'⟩
  simp only [Bool.true_bne] at this
  exact this
end

theorem pd_gi {X : Cx} {fi : List Nat} {fa : Nat → Addr} {pos : Pos} {x : Str} {i : Int} (hg : Gl X x) (hm : ∃ t, X.mg x = some (.int i t)) (hd : (x == ("__debug__" : Str)) = false := by decide) : PED X fi fa (.Name x pos) (fC (.int i)) :=
  let ⟨_, h⟩ := hm; pd_globI hg h hd
/-! ### y = [.. for ..] -/
section
variable {X : Cx} {fi : List Nat} {fa : Nat → Addr} {tg iter elt : Expr} {ifs : List Expr} {fe : FE} {ft : FT} {g : FG} {fit : FI} {pos spos py : Pos} {y : Str}
theorem psd_setLc (i : Nat) {scope : Scope} (own : List (Str × Nat)) {ws : List Nat} (hN : X.N.Nodup) (hi : PID X fi fa tg iter fit) (ok : BlkOk X.N X.env.scope scope own)
    (hg : ∀ (s : Shared) (H : Hp) (C : Addr) (cl : List (Str × Addr)) (fp : List Addr), PGD (Blk X s H scope cl C fp) fi fa tg ws g)
    (ht : ∀ (s : Shared) (H : Hp) (C : Addr) (cl : List (Str × Addr)) (fp : List Addr), PTsD (Blk X s H scope cl C fp) fi fa ifs ft)
    (he : ∀ (s : Shared) (H : Hp) (C : Addr) (cl : List (Str × Addr)) (fp : List Addr), PED (Blk X s H scope cl C fp) fi fa elt fe)
    (hc : X.calm = true := by rfl) (hy : X.N[i]? = some y := by rfl) (hyl : X.env.scope.names.lookup y = some .local := by rfl)
    (hsw : swapsWith (.ListComp elt [⟨tg, iter, ifs, 0⟩] scope pos) (some (.Name y py)) spos.line X.env = pure true := by exact sw_true rfl rfl rfl (by decide +kernel))
    (hs : ∀ x, foldedSetIterable iter X.env x = pure x := by intro _; rfl) (hv : (own.map (·.2)).all (fun i => !fi.contains i) = true := by rfl) (hw : ws.all (fun i => (own.map (·.2)).contains i) = true := by rfl) (hf : fi.contains i = false := by rfl) :
    PSD X fi fa (.Assign [.Name y py] (.ListComp elt [⟨tg, iter, ifs, 0⟩] scope pos) spos) (fSet i (fLc fit g ft fe (own.map (·.2)))) := by
  obtain ⟨ti, p, oi⟩ := hi
  refine ⟨_, ps_setLc (i := i) (g := uG X.K fi fa ws g) (tt := uT X.K fi fa ft) (te := uE X.K fi fa fe) hc hN hy hyl hsw p ok (fun s H C cl fp => (hg s H C cl fp).uni) (fun s H C cl fp => (ht s H C cl fp).uni) (fun s H C cl fp => (he s H C cl fp).uni) hs, fun σ H S ρ P E r h k => ?_⟩
  refine ok_lc oi (notin_of hv) (allin_of hw) σ H S ρ _ _ r h fun v H' S' d ρ' hP r' tr ⟨p, o, ev, h0, hs, no, hp, hd⟩ => ?_
  subst ev
  exact k.1 _ H' _ _ hP ((r'.take hp hs no).storeVal ((hd.mono (Ex.new hs)).den upd_same) (fresh_lt (j := 0) hf)) ((tr.takeNew (K := X.K) h0 hs).trans Tr.storeVal)
theorem psd_setLcF (i : Nat) {scope : Scope} (own : List (Str × Nat)) {ws : List Nat} (hN : X.N.Nodup) (hi : PID X fi fa tg iter fit) (ok : BlkOk X.N X.env.scope scope own)
    (hg : ∀ (s : Shared) (H : Hp) (C : Addr) (cl : List (Str × Addr)) (fp : List Addr), PGD (Blk X s H scope cl C fp) fi fa tg ws g)
    (ht : ∀ (s : Shared) (H : Hp) (C : Addr) (cl : List (Str × Addr)) (fp : List Addr), PTsD (Blk X s H scope cl C fp) fi fa ifs ft)
    (he : ∀ (s : Shared) (H : Hp) (C : Addr) (cl : List (Str × Addr)) (fp : List Addr), PED (Blk X s H scope cl C fp) fi fa elt fe)
    (hc : X.calm = true := by rfl) (hy : X.N[i]? = some y := by rfl) (hyl : X.env.scope.names.lookup y = some .local := by rfl)
    (hsw : swapsWith (.ListComp elt [⟨tg, iter, ifs, 0⟩] scope pos) (some (.Name y py)) spos.line X.env = pure true := by exact sw_true rfl rfl rfl (by decide +kernel))
    (hs : ∀ x, foldedSetIterable iter X.env x = pure x := by intro _; rfl) (hv : (own.map (·.2)).all (fun i => !fi.contains i) = true := by rfl) (hw : ws.all (fun i => (own.map (·.2)).contains i) = true := by rfl) (hf : fi.contains i = false := by rfl) :
    PSD X fi fa (.Assign [.Name y py] (.ListComp elt [⟨tg, iter, ifs, 0⟩] scope pos) spos) (fSetF i (fLc fit g ft fe (own.map (·.2)))) := by
  obtain ⟨ti, p, oi⟩ := hi
  refine ⟨_, ps_setLc (i := i) (g := uG X.K fi fa ws g) (tt := uT X.K fi fa ft) (te := uE X.K fi fa fe) hc hN hy hyl hsw p ok (fun s H C cl fp => (hg s H C cl fp).uni) (fun s H C cl fp => (ht s H C cl fp).uni) (fun s H C cl fp => (he s H C cl fp).uni) hs, fun σ H S ρ P E r h k => ?_⟩
  exact ok_lc oi (notin_of hv) (allin_of hw) σ H S ρ _ _ r h fun v H' S' d ρ' hP r' tr hd => k.1 _ H' S' _ hP (r'.storeOwn hd (fresh_lt (j := 0) hf)) (tr.storeOwn hd)
end

/-! ### loops by an invariant -/
theorem lc_inv {g : FG} {t : FT} {fe : FE} {vs : List Nat} {P : List D → List Sl → Prop} (I : Nat → List D → List Sl → Prop) : ∀ (ds : List D) (i : Nat) (acc : List D) (ρ : List Sl), I i acc ρ →
    (∀ (j : Nat) (d : D) (acc : List D) (ρ : List Sl), ds[j]? = some d → I (i + j) acc ρ → ∀ k : List D → List Sl → Prop, (∀ acc' ρ', I (i + j + 1) acc' ρ' → k acc' ρ') →
      g d ρ fun ρ1 => t ρ1 fun b ρ2 => if b = true then fe ρ2 fun x ρ3 => acc.length < 100000 ∧ k (acc ++ [x]) (wipeS ρ3 vs) else k acc (wipeS ρ2 vs)) →
    (∀ acc ρ, I (i + ds.length) acc ρ → P acc ρ) → lcGo g t fe vs ds acc ρ P
  | [], i, acc, ρ, h0, _, hd => hd acc ρ h0
  | d :: ds, i, acc, ρ, h0, hs, hd => by
    refine hs 0 d acc ρ rfl h0 (fun acc' ρ' => lcGo g t fe vs ds acc' ρ' P) fun acc' ρ' hI => ?_
    refine lc_inv I ds (i + 1) acc' ρ' hI (fun j d acc ρ e h k hk => ?_) fun acc ρ h => hd acc ρ ?_
    · have := hs (j + 1) d acc ρ (by simpa using e) (by rw [show i + (j + 1) = i + 1 + j by omega]; exact h) k
      rw [show i + (j + 1) + 1 = i + 1 + j + 1 by omega] at this
      exact this hk
    · rw [List.length_cons, show i + (ds.length + 1) = i + 1 + ds.length by omega]; exact h
/-- a comprehension that changes nothing, without a test -/
theorem lc_map {g : FG} {fe : FE} {vs : List Nat} {P : List D → List Sl → Prop} {ρ : List Sl} (F : D → D) : ∀ (ds acc : List D), acc.length + ds.length ≤ 100000 →
    (∀ d ∈ ds, ∀ k : D → List Sl → Prop, (∀ ρ3, wipeS ρ3 vs = ρ → k (F d) ρ3) → g d ρ fun ρ1 => fe ρ1 k) → P (acc ++ ds.map F) ρ → lcGo g fYes fe vs ds acc ρ P
  | [], acc, _, _, h => by
    rw [List.map_nil, List.append_nil] at h
    exact h
  | d :: ds, acc, hl, hs, h => by
    rw [List.length_cons] at hl
    show g d ρ fun ρ1 => fYes ρ1 fun b ρ2 => _
    refine hs d List.mem_cons_self _ fun ρ3 e => ?_
    refine ⟨by omega, ?_⟩
    rw [e]
    refine lc_map F ds (acc ++ [F d]) (by rw [List.length_append, List.length_singleton]; omega) (fun x hx => hs x (List.mem_cons_of_mem _ hx)) ?_
    rw [List.append_assoc]
    exact h
theorem for_inv {g : FG} {B : FS} {P : Fl → Prop} (I : Nat → List Sl → Prop) : ∀ (ds : List D) (i : Nat) (ρ : List Sl), I i ρ →
    (∀ (j : Nat) (d : D) (ρ : List Sl), ds[j]? = some d → I (i + j) ρ → ∀ k : Fl → Prop, (∀ ρ', I (i + j + 1) ρ' → k (.nx ρ') ∧ k (.ct ρ')) → (∀ ρ', P (.nx ρ') → k (.bk ρ')) → (∀ d ρ', P (.rt d ρ') → k (.rt d ρ')) → (∀ d ρ', P (.rf d ρ') → k (.rf d ρ')) →
      g d ρ fun ρ1 => B ρ1 k) →
    (∀ ρ, I (i + ds.length) ρ → P (.nx ρ)) → forGo g B ds ρ P
  | [], i, ρ, h0, _, hd => hd ρ h0
  | d :: ds, i, ρ, h0, hs, hd => by
    refine hs 0 d ρ rfl h0 (lpK (forGo g B ds) P) (fun ρ' hI => ?_) (fun ρ' h => h) (fun d ρ' h => h) (fun d ρ' h => h)
    have : forGo g B ds ρ' P := by
      refine for_inv I ds (i + 1) ρ' hI (fun j d ρ e h k h1 h2 h3 h4 => ?_) fun ρ h => hd ρ ?_
      · refine hs (j + 1) d ρ (by simpa using e) (by rw [show i + (j + 1) = i + 1 + j by omega]; exact h) k (fun ρ' hh => h1 ρ' ?_) h2 h3 h4
        rw [show i + 1 + j + 1 = i + (j + 1) + 1 by omega]; exact hh
      · rw [List.length_cons, show i + (ds.length + 1) = i + 1 + ds.length by omega]; exact h
    exact ⟨this, this⟩
end DL

/-! DLD: a dict that is walked (under a lock); sorted of data. -/
namespace DL
open PySem PySem.Spec PyProof.Rows L2

/-! ### for and comprehensions, at one state -/
def IAt (K : PySem.W.Frag) (fi : List Nat) (fa : Nat → Addr) (ti : TI) (f : FI) (σ : L2.St) (H S : Hp) (ρ : List Sl) : Prop := ∀ (P : List D → List Sl → Prop) (R : It → Hp → Prop), Rel K fi fa σ H S ρ → f ρ P →
  (∀ J H' S' ds ρ', P ds ρ' → Rel K fi fa σ H' S' ρ' → Tr σ H S ρ σ H' S' ρ' → ItD K J S' ds → R J H') → ti σ H R
def FAt (K : PySem.W.Frag) (fi : List Nat) (fa : Nat → Addr) (te : TE) (f : FE) (σ : L2.St) (H S : Hp) (ρ : List Sl) : Prop := ∀ (P : D → List Sl → Prop) (Q : VK), Rel K fi fa σ H S ρ → f ρ P →
  (∀ v H' S' d ρ', P d ρ' → Rel K fi fa σ H' S' ρ' → Tr σ H S ρ σ H' S' ρ' → Fresh K σ H' S' ρ' (Nw σ ρ H) v d → Q v H') → te σ H Q
def SAt (K : PySem.W.Frag) (fi : List Nat) (fa : Nat → Addr) (ts : TS) (f : FS) (σ : L2.St) (H S : Hp) (ρ : List Sl) : Prop := ∀ (P : Fl → Prop) (E : Ends), Rel K fi fa σ H S ρ → f ρ P → Beh K fi fa σ H S ρ P E → ts E σ H
section
variable {fi : List Nat} {fa : Nat → Addr}
theorem for_at {K : PySem.W.Frag} {ti : TI} {tg' : TG} {tb : TS} {fit : FI} {ws : List Nat} {g : FG} {B : FS} {σ : L2.St} {H S : Hp} {ρ : List Sl} (o1 : IAt K fi fa ti fit σ H S ρ) (o2 : OkG K fi fa ws tg' g) (o3 : OkS K fi fa tb B) : SAt K fi fa (tFor ti tg' tb) (fFor fit g B) σ H S ρ := by
  intro P E r hf k
  refine o1 _ _ r hf fun J H1 S1 ds ρ1 hP r1 t1 it => ?_
  refine ⟨fun i m σ' H' => ∃ S' ρ', m = ds.length - i ∧ i ≤ ds.length ∧ Rel K fi fa σ' H' S' ρ' ∧ Tr σ H1 S1 ρ1 σ' H' S' ρ' ∧ forGo g B (ds.drop i) ρ' P, ⟨_, S1, ρ1, rfl, Nat.zero_le _, r1, Tr.refl _ _ _ _, by rw [List.drop_zero]; exact hP⟩, ?_⟩
  rintro i m σ' H' ⟨S', ρ', rfl, hi, r', t', w⟩
  obtain ⟨stop, go⟩ := it i S' H' t'.exS r'.ex
  by_cases hlt : i < ds.length
  · have hd : ds.drop i = ds[i] :: ds.drop (i + 1) := List.drop_eq_getElem_cons hlt
    rw [hd] at w
    obtain ⟨g1, g2⟩ := go ds[i] (List.getElem?_eq_getElem hlt)
    refine .inr ⟨g1, fun σ2 H2 => ∃ S2 ρ2, Rel K fi fa σ2 H2 S2 ρ2 ∧ Tr σ H1 S1 ρ1 σ2 H2 S2 ρ2 ∧ forGo g B (ds.drop (i + 1)) ρ2 P, fun σ2 H2 ⟨S2, ρ2, r2, t2, w2⟩ => ⟨ds.length - (i + 1), by omega, S2, ρ2, rfl, hlt, r2, t2, w2⟩, fun x H'' hy => ?_⟩
    obtain ⟨S'', gr, den⟩ := g2 x H'' hy
    refine o2 σ' H'' S'' ρ' x _ _ _ (r'.grow gr) den w fun σ3 H3 S3 ρ3 hP3 r3 t3 _ => ?_
    have T3 := (t'.trans gr.tr).trans t3
    refine o3 σ3 H3 S3 ρ3 _ _ r3 hP3 ⟨?_, ?_, ?_, ?_, ?_⟩
    · exact fun σ4 H4 S4 ρ4 h4 r4 t4 => ⟨S4, ρ4, r4, T3.trans t4, h4⟩
    · exact fun σ4 H4 S4 ρ4 h4 r4 t4 => k.1 σ4 H4 S4 ρ4 h4 r4 ((t1.trans T3).trans t4)
    · exact fun σ4 H4 S4 ρ4 h4 r4 t4 => ⟨S4, ρ4, r4, T3.trans t4, h4⟩
    · exact fun v d σ4 H4 S4 ρ4 h4 r4 t4 hd => k.2.2.2.1 v d σ4 H4 S4 ρ4 h4 r4 ((t1.trans T3).trans t4) hd
    · exact fun v d σ4 H4 S4 ρ4 h4 r4 t4 hd => k.2.2.2.2 v d σ4 H4 S4 ρ4 h4 r4 ((t1.trans T3).trans t4) (hd.back (t1.trans T3))
  · have hl : ds.length ≤ i := Nat.le_of_not_lt hlt
    rw [List.drop_eq_nil_of_le hl] at w
    exact .inl ⟨stop hl, k.1 σ' H' S' ρ' w r' (t1.trans t')⟩
theorem lc_at {K : PySem.W.Frag} {ti : TI} {ws vs : List Nat} {fit : FI} {g : FG} {ft : FT} {fe : FE} {σ : L2.St} {H S : Hp} {ρ : List Sl} (hi : IAt K fi fa ti fit σ H S ρ) (hv : ∀ i ∈ vs, i ∉ fi) (hw : ∀ i ∈ ws, i ∈ vs) : FAt K fi fa (tLc ti (uG K fi fa ws g) (uT K fi fa ft) (uE K fi fa fe) vs) (fLc fit g ft fe vs) σ H S ρ := by
  intro P Q r hf k
  refine hi _ _ r hf fun J H1 S1 ds ρ1 hP r1 t1 it Dd hD => ?_
  have same : ∀ i, i ∉ vs → (wipe σ vs)[i]? = σ[i]? := fun i hi => wipe_get hi
  refine ⟨fun i m H' => ∃ S' ρ' acc dacc, m = ds.length - i ∧ i ≤ ds.length ∧ Rel K fi fa (wipe σ vs) H' S' (wipeS ρ' vs) ∧ Tr σ H1 S1 ρ1 (wipe σ vs) H' S' (wipeS ρ' vs) ∧ H' Dd = some (.lst acc) ∧ S' Dd = none ∧ ¬ Owned (wipe σ vs) (wipeS ρ' vs) Dd ∧ Dens K S' acc dacc ∧
    lcGo g ft fe vs (ds.drop i) dacc (wipeS ρ' vs) (fun acc ρ2 => P (.lst acc) ρ2), ⟨_, S1, ρ1, [], [], rfl, Nat.zero_le _, ?_⟩, ?_⟩
  · have g0 : Gr S1 H1 S1 (upd H1 Dd (.lst [])) := Gr.hid r1.ex hD
    have rw0 := (r1.grow g0).wipe vs hv
    refine ⟨rw0, (g0.tr (ρ := ρ1) (σ := σ)).trans (Tr.wipe vs), upd_same, r1.ex.free hD, fun ⟨i, d, h1, h2⟩ => ?_, .nil, by rw [List.drop_zero]; exact hP⟩
    obtain ⟨q, u, e1, e2, e3, e4⟩ := (r1.wipe vs hv).own i d h1
    rw [h2] at e1
    cases e1
    rw [hD] at e3
    cases e3
  · rintro i m H' ⟨S', ρ', acc, dacc, rfl, hi', r', t', hDd, hSd, nOd, hacc, w⟩
    obtain ⟨stop, go⟩ := it i S' H' t'.exS r'.ex
    by_cases hlt : i < ds.length
    · have hd : ds.drop i = ds[i] :: ds.drop (i + 1) := List.drop_eq_getElem_cons hlt
      rw [hd] at w
      obtain ⟨g1, g2⟩ := go ds[i] (List.getElem?_eq_getElem hlt)
      refine .inr ⟨g1, fun H2 => ∃ S2 ρ2 acc2 dacc2, Rel K fi fa (wipe σ vs) H2 S2 (wipeS ρ2 vs) ∧ Tr σ H1 S1 ρ1 (wipe σ vs) H2 S2 (wipeS ρ2 vs) ∧ H2 Dd = some (.lst acc2) ∧ S2 Dd = none ∧ ¬ Owned (wipe σ vs) (wipeS ρ2 vs) Dd ∧ Dens K S2 acc2 dacc2 ∧
        lcGo g ft fe vs (ds.drop (i + 1)) dacc2 (wipeS ρ2 vs) (fun acc ρ2 => P (.lst acc) ρ2), fun H2 ⟨S2, ρ2, acc2, dacc2, h⟩ => ⟨ds.length - (i + 1), by omega, S2, ρ2, acc2, dacc2, rfl, hlt, h⟩, fun x H'' hy => ?_⟩
      obtain ⟨S'', gr, den⟩ := g2 x H'' hy
      have T2 := t'.trans (gr.tr (σ := wipe σ vs) (ρ := wipeS ρ' vs))
      obtain ⟨k1, k2, k3⟩ := (gr.tr (σ := wipe σ vs) (ρ := wipeS ρ' vs)).hides hDd hSd nOd (fun _ => HO.noConfusion)
      refine ⟨S'', wipeS ρ' vs, ds[i], _, r'.grow gr, den, w, fun σ3 H3 S3 ρ3 hP3 r3 t3 sb => ?_⟩
      have hsame3 : ∀ j, j ∉ vs → σ3[j]? = (wipe σ vs)[j]? := fun j hj => sb.2 j fun z => hj (hw j z)
      have e3 : wipe σ3 vs = wipe σ vs := by
        rw [wipe_ext sb.1 hsame3]
        exact wipe_ext (wipe_length σ vs) same
      obtain ⟨l1, l2, l3⟩ := t3.hides k1 k2 k3 (fun _ => HO.noConfusion)
      refine ⟨e3, S3, ρ3, _, r3, hP3, fun b H4 S4 ρ4 hP4 r4 t4 => ?_⟩
      obtain ⟨m1, m2, m3⟩ := t4.hides l1 l2 l3 (fun _ => HO.noConfusion)
      cases b with
      | true =>
        refine iteT ⟨S4, ρ4, _, r4, by simpa using hP4, fun y H5 S5 d5 ρ5 hP5 r5 t5 den5 => ?_⟩
        obtain ⟨n1, n2, n3⟩ := t5.hides m1 m2 m3 (fun _ => HO.noConfusion)
        have ex5 : Ex S' S5 := ((gr.s.trans t3.exS).trans t4.exS).trans t5.exS
        refine ⟨acc, n1, sz_lt (by rw [hacc.length]; exact hP5.1), S5, ρ5, acc ++ [y], dacc ++ [d5], ?_, ?_, upd_same, n2, ?_, (hacc.mono ex5).snoc den5, hP5.2⟩
        · have := (r5.hid (o := .lst (acc ++ [y])) n2 n3).wipe vs hv
          rw [e3] at this; exact this
        · have t := (((T2.trans t3).trans t4).trans t5).hid (p := Dd) (o := .lst (acc ++ [y])) hD
          have := t.trans (Tr.wipe vs)
          rw [e3] at this; exact this
        · intro h
          have hh : Owned (wipe σ3 vs) (wipeS ρ5 vs) Dd := by rw [e3]; exact h
          exact ((Tr.wipe (σ := σ3) (H := H5) (S := S5) (ρ := ρ5) vs).owned Dd hh).elim n3 fun z => by rw [n1] at z; cases z
      | false =>
        refine iteF ⟨S4, ρ4, acc, dacc, ?_, ?_, m1, m2, ?_, hacc.mono ((gr.s.trans t3.exS).trans t4.exS), by simpa using hP4⟩
        · have := r4.wipe vs hv
          rw [e3] at this; exact this
        · have := ((T2.trans t3).trans t4).trans (Tr.wipe vs)
          rw [e3] at this; exact this
        · intro h
          have hh : Owned (wipe σ3 vs) (wipeS ρ4 vs) Dd := by rw [e3]; exact h
          exact ((Tr.wipe (σ := σ3) (H := H4) (S := S4) (ρ := ρ4) vs).owned Dd hh).elim m3 fun z => by rw [m1] at z; cases z
    · have hl : ds.length ≤ i := Nat.le_of_not_lt hlt
      rw [List.drop_eq_nil_of_le hl] at w
      have r2 := Rel.unwipe (wipe_length σ vs) same hv r'
      have t2 := Tr.unwipe same t'
      refine .inl ⟨stop hl, k _ H' S' _ _ w r2 (t1.trans t2) ⟨Dd, _, rfl, .inl (t1.dom Dd hD), hSd, fun h => ?_, hDd, hacc⟩⟩
      exact (t2.owned Dd h).elim (fun ⟨j, d, h1, h2⟩ => by
        obtain ⟨q, u, e1, e2, e3, e4⟩ := r1.own j d h1
        rw [h2] at e1
        cases e1
        rw [hD] at e3
        cases e3) fun z => by
        obtain ⟨j, d, h1, h2⟩ := h
        have hj : j ∉ vs := fun z => by have := wipeS_get z _ h1; cases this
        exact nOd ⟨j, d, h1, by rw [same j hj]; exact h2⟩

/-! ### locks -/
def dicO : HO → Prop
  | .dT _ => True
  | .dK _ => True
  | _ => False
theorem dic_mut {u : HO} (h : dicO u) : Mut (some u) := by
  cases u <;> first | exact trivial | exact (show False from h).elim
/-- S2 is S but that at d another thing stands, and dicts at d are read the same -/
structure Lk (S S2 : Hp) (d : Addr) : Prop where
  ne : ∀ a, a ≠ d → S2 a = S a
  dT : ∀ kvs, Rd S d (.dT kvs) → Rd S2 d (.dT kvs)
  dK : ∀ kvs, Rd S d (.dK kvs) → Rd S2 d (.dK kvs)
  no : ∀ o, S d = some o → dicO o ∨ ∃ od u, o = .frz od u ∧ dicO u
section
variable {K : PySem.W.Frag} {S S2 : Hp} {d : Addr}
theorem Lk.at (l : Lk S S2 d) {a : Addr} {o : HO} (h : S a = some o) (hn : ¬ dicO o) (hz : ∀ od u, o = .frz od u → ¬ dicO u) : S2 a = some o := by
  by_cases e : a = d
  · subst e
    rcases l.no o h with z | ⟨od, u, rfl, z⟩
    · exact absurd z hn
    · exact absurd z (hz od u rfl)
  · rw [l.ne a e]; exact h
theorem Lk.rd (l : Lk S S2 d) {a : Addr} {u : HO} (h : Rd S a u) (hn : ¬ dicO u) (hz : ∀ od w, u = .frz od w → ¬ dicO w) : Rd S2 a u := by
  rcases h with h | ⟨o, h⟩
  · exact .inl (l.at h hn hz)
  · exact .inr ⟨o, l.at h (fun z => z) fun od w e => by cases e; exact hn⟩
theorem Lk.rdT (l : Lk S S2 d) {a : Addr} {kvs : List (List Key × V)} (h : Rd S a (.dT kvs)) : Rd S2 a (.dT kvs) := by
  by_cases e : a = d
  · subst e; exact l.dT _ h
  · rcases h with h | ⟨o, h⟩
    · exact .inl (by rw [l.ne a e]; exact h)
    · exact .inr ⟨o, by rw [l.ne a e]; exact h⟩
theorem Lk.rdK (l : Lk S S2 d) {a : Addr} {kvs : List (Key × V)} (h : Rd S a (.dK kvs)) : Rd S2 a (.dK kvs) := by
  by_cases e : a = d
  · subst e; exact l.dK _ h
  · rcases h with h | ⟨o, h⟩
    · exact .inl (by rw [l.ne a e]; exact h)
    · exact .inr ⟨o, by rw [l.ne a e]; exact h⟩
theorem Lk.tup (l : Lk S S2 d) {a : Addr} {xs : List V} (h : S a = some (.tup xs)) : S2 a = some (.tup xs) := l.at h (fun z => z) fun _ _ e => nomatch e
theorem Lk.lst (l : Lk S S2 d) {a : Addr} {xs : List V} (h : S a = some (.lst xs)) : S2 a = some (.lst xs) := l.at h (fun z => z) fun _ _ e => nomatch e
theorem Lk.ins (l : Lk S S2 d) {a C dx : Addr} {fs : List (Str × V)} (h : S a = some (.ins C dx fs)) : S2 a = some (.ins C dx fs) := l.at h (fun z => z) fun _ _ e => nomatch e
theorem Lk.sql (l : Lk S S2 d) {a : Addr} {xs : List V} (h : SqL K S a xs) : SqL K S2 a xs := h.imp (fun h => l.rd h (fun z => z) fun _ _ e => nomatch e) id
mutual
theorem Den.lk (l : Lk S S2 d) : ∀ {v : V} {x : D}, Den K S v x → Den K S2 v x
  | _, _, .non => .non
  | _, _, .bl b => .bl b
  | _, _, .int i => .int i
  | _, _, .str x => .str x
  | _, _, .ty n => .ty n
  | _, _, .ref a => .ref a
  | _, _, .tup h t => .tup (l.tup h) (Dens.lk l t)
  | _, _, .lst h t => .lst (l.lst h) (Dens.lk l t)
  | _, _, .rol h t => .rol (l.sql h) (Dens.lk l t)
  | _, _, .dT h q t => .dT (l.rdT h) q (Dens.lk l t)
  | _, _, .dK h q t => .dK (l.rdK h) q (Dens.lk l t)
  | _, _, .obj h q t => .obj (l.ins h) q (Dens.lk l t)
theorem Dens.lk (l : Lk S S2 d) : ∀ {vs : List V} {ds : List D}, Dens K S vs ds → Dens K S2 vs ds
  | _, _, .nil => .nil
  | _, _, .cons h t => .cons (Den.lk l h) (Dens.lk l t)
end
theorem HOD.lk (l : Lk S S2 d) {o : HO} {x : D} (h : HOD K S o x) : HOD K S2 o x := by
  unfold HOD at h ⊢
  split at h
  · exact h.lk l
  · exact ⟨h.1, h.2.lk l⟩
  · exact ⟨h.1, h.2.lk l⟩
  · exact ⟨h.1, h.2.1, h.2.2.lk l⟩
  · exact h.elim
theorem lk_lock {u : HO} (hu : dicO u) (h : S d = some u) (od : Obj) : Lk S (upd S d (.frz od u)) d where
  ne := fun a e => upd_ne e
  dT := fun kvs hr => by
    rcases hr with hr | ⟨o, hr⟩
    · rw [h] at hr; cases hr; exact .inr ⟨od, upd_same⟩
    · rw [h] at hr; cases hr; exact (show False from hu).elim
  dK := fun kvs hr => by
    rcases hr with hr | ⟨o, hr⟩
    · rw [h] at hr; cases hr; exact .inr ⟨od, upd_same⟩
    · rw [h] at hr; cases hr; exact (show False from hu).elim
  no := fun o e => by rw [h] at e; cases e; exact .inl hu
theorem lk_unlock {u : HO} {od : Obj} (hu : dicO u) (h : S d = some (.frz od u)) : Lk S (upd S d u) d where
  ne := fun a e => upd_ne e
  dT := fun kvs hr => by
    rcases hr with hr | ⟨o, hr⟩
    · rw [h] at hr; cases hr
    · rw [h] at hr; cases hr; exact .inl upd_same
  dK := fun kvs hr => by
    rcases hr with hr | ⟨o, hr⟩
    · rw [h] at hr; cases hr
    · rw [h] at hr; cases hr; exact .inl upd_same
  no := fun o e => by rw [h] at e; cases e; exact .inr ⟨od, u, rfl, hu⟩
end
section
variable {K : PySem.W.Frag} {S S1 H H1 : Hp} {d : Addr} {σ σ1 : L2.St} {ρ ρ1 : List Sl} {u w : HO} {od : Obj}
theorem rel_lkw (r : Rel K fi fa σ H S ρ) (l : Lk S (upd S d w) d) (hd : S d ≠ none) : Rel K fi fa σ (upd H d w) (upd S d w) ρ where
  ex := fun a o h => by
    by_cases e : a = d
    · subst e; rw [upd_same] at h ⊢; exact h
    · rw [upd_ne e] at h ⊢; exact r.ex a o h
  len := r.len
  val := fun i x h => by
    obtain ⟨v, e, q⟩ := r.val i x h
    exact ⟨v, e, q.lk l⟩
  own := fun i x h => by
    obtain ⟨p, o, e, h1, h2, h3⟩ := r.own i x h
    have : p ≠ d := fun z => hd (by rw [← z]; exact h1)
    exact ⟨p, o, e, by rw [upd_ne this]; exact h1, by rw [upd_ne this]; exact h2, h3.lk l⟩
  dis := r.dis
  fix := r.fix
theorem tr_unlock (hS : S d = some u) (hH : H d = some u) (t : Tr σ (upd H d (.frz od u)) (upd S d (.frz od u)) ρ σ1 H1 S1 ρ1) : Tr σ H S ρ σ1 (upd H1 d u) (upd S1 d u) ρ1 where
  exS := fun a o h => by
    by_cases e : a = d
    · subst e; rw [hS] at h; rw [upd_same]; exact h
    · rw [upd_ne e]; exact t.exS a o (by rw [upd_ne e]; exact h)
  keep := fun a o h n => by
    by_cases e : a = d
    · subst e; rw [hH] at h; rw [upd_same]; exact h
    · rw [upd_ne e]; exact t.keep a o (by rw [upd_ne e]; exact h) n
  owned := fun a h => (t.owned a h).imp id fun z => by
    by_cases e : a = d
    · subst e; rw [upd_same] at z; cases z
    · rw [upd_ne e] at z; exact z
  new := fun a h => by
    by_cases e : a = d
    · subst e; exact .inl (by rw [hS]; exact fun z => nomatch z)
    · rw [upd_ne e] at h
      have := t.new a h
      rw [upd_ne e, upd_ne e] at this
      exact this
  dom := fun a h => by
    by_cases e : a = d
    · subst e; rw [upd_same] at h; cases h
    · rw [upd_ne e] at h
      have := t.dom a h
      rw [upd_ne e] at this
      exact this
theorem fresh_unlock {v : V} {x : D} (hu : dicO u) (hS1 : S1 d = some (.frz od u)) (f : Fresh K σ1 H1 S1 ρ1 (Nw σ ρ (upd H d (.frz od u))) v x) : Fresh K σ1 (upd H1 d u) (upd S1 d u) ρ1 (Nw σ ρ H) v x := by
  obtain ⟨p, o, e, h1, h2, h3, h4, h5⟩ := f
  have ne : p ≠ d := fun z => by rw [z, hS1] at h2; cases h2
  refine ⟨p, o, e, h1.imp (fun z => by rw [upd_ne ne] at z; exact z) id, by rw [upd_ne ne]; exact h2, h3, by rw [upd_ne ne]; exact h4, h5.lk (lk_unlock hu hS1)⟩
theorem lockS {t : TS} {F : FS} (hS : S d = some u) (hu : dicO u) (h : ∀ od, SAt K fi fa t F σ (upd H d (.frz od u)) (upd S d (.frz od u)) ρ) : SAt K fi fa (tLock t) F σ H S ρ := fun P E r hf k => by
  have hH := r.ex _ _ hS
  refine ⟨d, u, hH, dic_mut hu, fun od => h od P _ (rel_lkw r (lk_lock hu hS od) (by rw [hS]; exact fun z => nomatch z)) hf ?_⟩
  have s1 : ∀ {σ1 H1 S1 ρ1}, Tr σ (upd H d (.frz od u)) (upd S d (.frz od u)) ρ σ1 H1 S1 ρ1 → S1 d = some (.frz od u) := fun t => t.exS _ _ upd_same
  refine ⟨?_, ?_, ?_, ?_, ?_⟩
  · exact fun σ1 H1 S1 ρ1 hP r1 t1 => ⟨r1.ex _ _ (s1 t1), k.1 _ _ _ _ hP (rel_lkw r1 (lk_unlock hu (s1 t1)) (by rw [s1 t1]; exact fun z => nomatch z)) (tr_unlock hS hH t1)⟩
  · exact fun σ1 H1 S1 ρ1 hP r1 t1 => ⟨r1.ex _ _ (s1 t1), k.2.1 _ _ _ _ hP (rel_lkw r1 (lk_unlock hu (s1 t1)) (by rw [s1 t1]; exact fun z => nomatch z)) (tr_unlock hS hH t1)⟩
  · exact fun σ1 H1 S1 ρ1 hP r1 t1 => ⟨r1.ex _ _ (s1 t1), k.2.2.1 _ _ _ _ hP (rel_lkw r1 (lk_unlock hu (s1 t1)) (by rw [s1 t1]; exact fun z => nomatch z)) (tr_unlock hS hH t1)⟩
  · exact fun v x σ1 H1 S1 ρ1 hP r1 t1 hd => ⟨r1.ex _ _ (s1 t1), k.2.2.2.1 v x _ _ _ _ hP (rel_lkw r1 (lk_unlock hu (s1 t1)) (by rw [s1 t1]; exact fun z => nomatch z)) (tr_unlock hS hH t1) (hd.lk (lk_unlock hu (s1 t1)))⟩
  · exact fun v x σ1 H1 S1 ρ1 hP r1 t1 hd => ⟨r1.ex _ _ (s1 t1), k.2.2.2.2 v x _ _ _ _ hP (rel_lkw r1 (lk_unlock hu (s1 t1)) (by rw [s1 t1]; exact fun z => nomatch z)) (tr_unlock hS hH t1) (fresh_unlock hu (s1 t1) hd)⟩
theorem lockF {t : TE} {F : FE} (hS : S d = some u) (hu : dicO u) (h : ∀ od, FAt K fi fa t F σ (upd H d (.frz od u)) (upd S d (.frz od u)) ρ) : FAt K fi fa (tLockE t) F σ H S ρ := fun P Q r hf k => by
  have hH := r.ex _ _ hS
  refine ⟨d, u, hH, dic_mut hu, fun od => h od P _ (rel_lkw r (lk_lock hu hS od) (by rw [hS]; exact fun z => nomatch z)) hf fun v H1 S1 x ρ1 hP r1 t1 hd => ?_⟩
  have s1 : S1 d = some (.frz od u) := t1.exS _ _ upd_same
  exact ⟨r1.ex _ _ s1, k v _ _ x ρ1 hP (rel_lkw r1 (lk_unlock hu s1) (by rw [s1]; exact fun z => nomatch z)) (tr_unlock hS hH t1) (fresh_unlock hu s1 hd)⟩
end

/-! ### the keys of a dict -/
def keysD (d : D) (P : List D → Prop) : Prop := match d with
  | .dT ks _ => P (ks.map fun k => .tup (k.map kD))
  | .dK ks _ => P (ks.map kD)
  | _ => False
def fDicI (j : Nat) : FI := fun ρ P => fVar j ρ fun d ρ1 => keysD d fun ds => P ds ρ1
theorem itd_keysT {K : PySem.W.Frag} {S : Hp} {a : Addr} {o : Obj} {kvs : List (List Key × V)} (h : S a = some (.frz o (.dT kvs))) : ItD K (Itkt a o kvs) S ((kvs.map (·.1)).map fun k => .tup (k.map kD)) := fun i S' H' e1 e2 =>
  ⟨fun hl => ⟨(e1.trans e2) _ _ h, by rw [List.length_map, List.length_map] at hl; exact hl⟩, fun x he => by
    have hi : i < kvs.length := by
      have := (List.getElem?_eq_some_iff.mp he).1
      rw [List.length_map, List.length_map] at this
      exact this
    refine ⟨⟨(e1.trans e2) _ _ h, hi⟩, fun y H'' ⟨e, k, v, q, h1, h2, h3⟩ => ?_⟩
    subst e
    subst h2
    rw [List.getElem?_map, List.getElem?_map, h1] at he
    cases he
    have g := addT_gr (bs := [q]) e2 fun b hb => by rw [List.mem_singleton.mp hb]; exact ⟨_, h3⟩
    refine ⟨_, g, .tup (xs := k.map kV) ?_ (den_keys k)⟩
    unfold addT
    rw [if_pos List.mem_cons_self]
    exact h3⟩
theorem itd_keysK {K : PySem.W.Frag} {S : Hp} {a : Addr} {o : Obj} {kvs : List (Key × V)} (h : S a = some (.frz o (.dK kvs))) : ItD K (Itk a o kvs) S ((kvs.map (·.1)).map kD) := fun i S' H' e1 e2 =>
  ⟨fun hl => ⟨(e1.trans e2) _ _ h, by rw [List.length_map, List.length_map] at hl; exact hl⟩, fun x he => by
    have hi : i < kvs.length := by
      have := (List.getElem?_eq_some_iff.mp he).1
      rw [List.length_map, List.length_map] at this
      exact this
    refine ⟨⟨(e1.trans e2) _ _ h, hi⟩, fun y H'' ⟨e, k, v, h1, h2⟩ => ?_⟩
    subst e
    subst h2
    rw [List.getElem?_map, List.getElem?_map, h1] at he
    cases he
    refine ⟨S', Gr.refl e2, ?_⟩
    cases k with
    | inl i => exact .int i
    | inr s => exact .str s⟩
/-- a name's thing, no longer owned -/
theorem var_frz {K : PySem.W.Frag} {j : Nat} {σ : L2.St} {H S : Hp} {ρ : List Sl} {P : D → List Sl → Prop} (r : Rel K fi fa σ H S ρ) (h : fVar j ρ P) :
    ∃ v S' d ρ', σ[j]? = some (some v) ∧ P d ρ' ∧ ρ'[j]? = some (.val d) ∧ Rel K fi fa σ H S' ρ' ∧ Tr σ H S ρ σ H S' ρ' ∧ Den K S' v d := by
  have h' : fVar j ρ fun d ρ' => P d ρ' ∧ ρ'[j]? = some (.val d) := by
    unfold fVar at h ⊢
    cases q : ρ[j]? with
    | none => rw [q] at h; exact h
    | some s =>
      rw [q] at h
      cases s with
      | non => exact h
      | val d => exact ⟨h, q⟩
      | own d => exact ⟨h, by rw [List.getElem?_set_self (List.getElem?_eq_some_iff.mp q).1]⟩
  obtain ⟨v, e, S', d, ρ', h1, h2, h3, h4⟩ := ok_var K j σ H S ρ _ (fun v H' => ∃ S' d ρ', (P d ρ' ∧ ρ'[j]? = some (.val d)) ∧ Rel K fi fa σ H' S' ρ' ∧ Tr σ H S ρ σ H' S' ρ' ∧ Den K S' v d) r h' fun v H' S' d ρ' hP r' t' hd => ⟨S', d, ρ', hP, r', t', hd⟩
  exact ⟨v, S', d, ρ', e, h1.1, h1.2, h2, h3, h4⟩
theorem fVar_val {j : Nat} {ρ : List Sl} {d : D} {P : D → List Sl → Prop} (h : ρ[j]? = some (.val d)) : fVar j ρ P = P d ρ := by
  unfold fVar
  rw [h]
theorem iat_keys {K : PySem.W.Frag} {j : Nat} {a : Addr} {od : Obj} {u : HO} {σ : L2.St} {H S : Hp} {ρ : List Sl} (hu : dicO u) (hσ : σ[j]? = some (some (.ref a))) (hl : S a = some (.frz od u)) : IAt K fi fa (iKeys (tVar j)) (fDicI j) σ H S ρ := by
  intro P R r hf k
  obtain ⟨v, S', d, ρ', e, hP, e2, r', t', hd⟩ := var_frz r hf
  rw [hσ] at e
  cases e
  have hl' := t'.exS _ _ hl
  refine ⟨_, hσ, a, od, rfl, ?_⟩
  unfold keysD at hP
  split at hP
  · obtain ⟨b, kvs, e, h1, h2, h3⟩ := den_dT hd
    cases e
    subst h2
    have : u = .dT kvs := by
      rcases h1 with h1 | ⟨o, h1⟩
      · rw [hl'] at h1; cases h1
      · rw [hl'] at h1; cases h1; rfl
    subst this
    exact .inr ⟨kvs, r'.ex _ _ hl', k _ H S' _ ρ' hP r' t' (itd_keysT hl')⟩
  · obtain ⟨b, kvs, e, h1, h2, h3⟩ := den_dK hd
    cases e
    subst h2
    have : u = .dK kvs := by
      rcases h1 with h1 | ⟨o, h1⟩
      · rw [hl'] at h1; cases h1
      · rw [hl'] at h1; cases h1; rfl
    subst this
    exact .inl ⟨kvs, r'.ex _ _ hl', k _ H S' _ ρ' hP r' t' (itd_keysK hl')⟩
  · exact hP.elim
/-- a dict is locked already, or it is locked now -/
def tOrS (t u : TS) : TS := fun D σ H => t D σ H ∨ u D σ H
theorem ps_or {X : Cx} {st : Stmt} {t u : TS} (a : PS X st t) (b : PS X st u) : PS X st (tOrS t u) := ⟨fun pins s σ H D I h => h.elim (a.run pins s σ H D I) (b.run pins s σ H D I)⟩
def tOrE (t u : TE) : TE := fun σ H Q => t σ H Q ∨ u σ H Q
theorem pe_or {X : Cx} {e : Expr} {t u : TE} (a : PE X e t) (b : PE X e u) : PE X e (tOrE t u) := ⟨fun pins s σ H Q I h => h.elim (a.run pins s σ H Q I) (b.run pins s σ H Q I)⟩
theorem dict_at {K : PySem.W.Frag} {S : Hp} {v : V} {d : D} {P : List D → Prop} (h : keysD d P) (hd : Den K S v d) : ∃ a u, v = .ref a ∧ dicO u ∧ (S a = some u ∨ ∃ od, S a = some (.frz od u)) := by
  unfold keysD at h
  split at h
  · obtain ⟨a, kvs, e, h1, _⟩ := den_dT hd
    exact ⟨a, .dT kvs, e, trivial, h1⟩
  · obtain ⟨a, kvs, e, h1, _⟩ := den_dK hd
    exact ⟨a, .dK kvs, e, trivial, h1⟩
  · exact h.elim
theorem beh_back {K : PySem.W.Frag} {σ : L2.St} {H S S' : Hp} {ρ ρ' : List Sl} {P : Fl → Prop} {E : Ends} (k : Beh K fi fa σ H S ρ P E) (t : Tr σ H S ρ σ H S' ρ') : Beh K fi fa σ H S' ρ' P E :=
  ⟨fun σ1 H1 S1 ρ1 hP r1 t1 => k.1 σ1 H1 S1 ρ1 hP r1 (t.trans t1), fun σ1 H1 S1 ρ1 hP r1 t1 => k.2.1 σ1 H1 S1 ρ1 hP r1 (t.trans t1), fun σ1 H1 S1 ρ1 hP r1 t1 => k.2.2.1 σ1 H1 S1 ρ1 hP r1 (t.trans t1),
    fun v d σ1 H1 S1 ρ1 hP r1 t1 hd => k.2.2.2.1 v d σ1 H1 S1 ρ1 hP r1 (t.trans t1) hd, fun v d σ1 H1 S1 ρ1 hP r1 t1 hd => k.2.2.2.2 v d σ1 H1 S1 ρ1 hP r1 (t.trans t1) (hd.back t)⟩
section
variable {X : Cx} {tg elt : Expr} {body : List Stmt} {ws : List Nat} {g : FG} {B : FS} {x : Str} {px pos : Pos} {ifs : List Expr} {ft : FT} {fe : FE}
theorem psd_forD (j : Nat) (hp : PassesOwn (model X.prog X.w) X.A X.env X.xe) (hc : X.calm = true) (hg : PGD X fi fa tg ws g) (hb : PSsD X fi fa body B)
    (hN : X.N[j]? = some x := by rfl) (hv : Vis X.env.scope x := by first | exact Or.inl rfl | exact Or.inr (Or.inl rfl) | exact Or.inr (Or.inr rfl)) (hd : (x == ("__debug__" : Str)) = false := by decide)
    (hcd : (x == ("__classdict__" : Str)) = false := by decide)
    (hs : ∀ y, foldedSetIterable (.Name x px) X.env y = pure y := by intro _; rfl) : PSD X fi fa (.For tg (.Name x px) body [] pos) (fFor (fDicI j) g B) := by
  obtain ⟨tg', p2, o2⟩ := hg
  obtain ⟨tb, p3, o3⟩ := hb
  have pf := ps_for (pos := pos) hp hc (pi_keys (pv j hN hv hd hcd)) p2 p3 hs
  refine ⟨_, ps_or (ps_lock pf) pf, fun σ H S ρ P E r hf k => ?_⟩
  have hf2 : fVar j ρ fun d ρ1 => keysD d fun ds => forGo g B ds ρ1 P := hf
  obtain ⟨v, S', d, ρ', e, hP, e2, r', t', hd⟩ := var_frz r hf2
  obtain ⟨a, u, rfl, hu, ha⟩ := dict_at hP hd
  have hf' : fFor (fDicI j) g B ρ' P := by
    show fVar j ρ' (fun d ρ1 => keysD d fun ds => forGo g B ds ρ1 P)
    rw [fVar_val e2]
    exact hP
  rcases ha with ha | ⟨od, ha⟩
  · exact .inl (lockS ha hu (fun od => for_at (iat_keys hu e upd_same) o2 o3) P E r' hf' (beh_back k t'))
  · exact .inr (for_at (iat_keys hu e ha) o2 o3 P E r' hf' (beh_back k t'))
theorem pf_lcD (j : Nat) {scope : Scope} (own : List (Str × Nat)) (hN0 : X.N.Nodup) (ok : BlkOk X.N X.env.scope scope own)
    (hg : ∀ (s : Shared) (H : Hp) (C : Addr) (cl : List (Str × Addr)) (fp : List Addr), PGD (Blk X s H scope cl C fp) fi fa tg ws g)
    (ht : ∀ (s : Shared) (H : Hp) (C : Addr) (cl : List (Str × Addr)) (fp : List Addr), PTsD (Blk X s H scope cl C fp) fi fa ifs ft)
    (he : ∀ (s : Shared) (H : Hp) (C : Addr) (cl : List (Str × Addr)) (fp : List Addr), PED (Blk X s H scope cl C fp) fi fa elt fe)
    (hc : X.calm = true := by rfl) (hN : X.N[j]? = some x := by rfl) (hvis : Vis X.env.scope x := by first | exact Or.inl rfl | exact Or.inr (Or.inl rfl) | exact Or.inr (Or.inr rfl)) (hd : (x == ("__debug__" : Str)) = false := by decide)
    (hcd : (x == ("__classdict__" : Str)) = false := by decide)
    (hs : ∀ y, foldedSetIterable (.Name x px) X.env y = pure y := by intro _; rfl) (hv : (own.map (·.2)).all (fun i => !fi.contains i) = true := by rfl) (hw : ws.all (fun i => (own.map (·.2)).contains i) = true := by rfl) :
    PEF X fi fa (.ListComp elt [⟨tg, .Name x px, ifs, 0⟩] scope pos) (fLc (fDicI j) g ft fe (own.map (·.2))) := by
  have pf := pe_lc (pos := pos) (g := uG X.K fi fa ws g) (tt := uT X.K fi fa ft) (te := uE X.K fi fa fe) hc hN0 (pi_keys (pv j hN hvis hd hcd)) ok (fun s H C cl fp => (hg s H C cl fp).uni) (fun s H C cl fp => (ht s H C cl fp).uni) (fun s H C cl fp => (he s H C cl fp).uni) hs
  refine ⟨_, pe_or (pe_lock pf) pf, fun σ H S ρ P Q r hf k => ?_⟩
  have hf2 : fVar j ρ fun d ρ1 => keysD d fun ds => lcGo g ft fe (own.map (·.2)) ds [] (wipeS ρ1 (own.map (·.2))) fun acc ρ2 => P (.lst acc) ρ2 := hf
  obtain ⟨v, S', d, ρ', e, hP, e2, r', t', hd⟩ := var_frz r hf2
  obtain ⟨a, u, rfl, hu, ha⟩ := dict_at hP hd
  have hf' : fLc (fDicI j) g ft fe (own.map (·.2)) ρ' P := by
    show fVar j ρ' (fun d ρ1 => keysD d fun ds => lcGo g ft fe (own.map (·.2)) ds [] (wipeS ρ1 (own.map (·.2))) fun acc ρ2 => P (.lst acc) ρ2)
    rw [fVar_val e2]
    exact hP
  have k' : ∀ v H1 S1 d ρ1, P d ρ1 → Rel X.K fi fa σ H1 S1 ρ1 → Tr σ H S' ρ' σ H1 S1 ρ1 → Fresh X.K σ H1 S1 ρ1 (Nw σ ρ' H) v d → Q v H1 := fun v H1 S1 d ρ1 hP r1 t1 hd => k v H1 S1 d ρ1 hP r1 (t'.trans t1) (hd.back t')
  rcases ha with ha | ⟨od, ha⟩
  · exact .inl (lockF ha hu (fun od => lc_at (iat_keys hu e upd_same) (notin_of hv) (allin_of hw)) P Q r' hf' k')
  · exact .inr (lc_at (iat_keys hu e ha) (notin_of hv) (allin_of hw) P Q r' hf' k')
end
end

/-! ### sorted of data -/
open PySem.W in
def rSortD (K : PySem.W.Frag) : List V → Hp → VK → Prop := fun vs H Q => ∃ (a : Addr) (bs : List (V × D)), vs = [V.ref a] ∧ SqL K H a (bs.map (·.1)) ∧ (∀ b ∈ bs, Dp K H b.1 (toP b.2) ∧ (toP b.2).plain = true ∧ (toP b.2).depth ≤ 60) ∧
  AllAlike (bs.map fun b => toP b.2) ∧ Sortable (bs.map fun b => toP b.2) ∧ ∀ p, H p = none → Q (.ref p) (upd H p (.lst ((bs.mergeSort (dataLe false fun b : V × D => toP b.2)).map (·.1))))
open PyProof.Rows.G PySem.W in
theorem each_rel {bs : List (V × D)} : ∀ {us : List Value}, Vals (bs.map (·.1)) us → EachIs (fun v (b : V × D) => RelV b.1 v) us bs := by
  induction bs with
  | nil => intro us h; cases h; exact .nil
  | cons b bs ih => intro us h; cases h with
    | cons a t => exact .cons a (ih t)
open PyProof.Rows.G PySem.W in
theorem rel_each {bs : List (V × D)} : ∀ {us : List Value}, EachIs (fun v (b : V × D) => RelV b.1 v) us bs → Vals (bs.map (·.1)) us := by
  induction bs with
  | nil => intro us h; cases h; exact .nil
  | cons b bs ih => intro us h; cases h with
    | cons a t => exact .cons a (ih t)
section
variable {X : Cx}
open PyProof.Rows.G PySem.W in
theorem cr_sortD (hu : X.A.units + 64 < cLine) : CallR X (.builtin "sorted") (rSortD X.K) := by
  intro pins s σ H vs us Q I r h
  obtain ⟨a, bs, rfl, hs, hx, hal, hk, q⟩ := h
  obtain ⟨its, rv, hl, hz⟩ := I.list hs
  obtain ⟨u, rfl, ru⟩ := vals1 r
  obtain rfl : u = Value.ref a := ru
  have e := each_rel rv
  have er : ∀ {us : List Value} {cs : List (V × D)}, EachIs (fun v (b : V × D) => RelV b.1 v) us cs → (∀ b ∈ cs, b ∈ bs) → EachIs (fun v (b : V × D) => ∃ as, Reads s.heap v (toP b.2) as) us cs := by
    intro us cs e
    induction e with
    | nil => exact fun _ => .nil
    | cons a t ih => exact fun hm => .cons (Dp.reads I _ _ _ (hx _ (hm _ List.mem_cons_self)).1 a) (ih fun b hb => hm b (List.mem_cons_of_mem _ hb))
  have len : bs.length = its.length := by
    have := rv.length
    rw [List.length_map] at this
    exact this
  refine sorted_data hl.isList e (er e fun _ h => h) hal hk (by rw [List.length_map] at hz; exact hz) (fun b hb => by have := (hx b hb).2.2; omega) fun out ho heo => ?_
  obtain ⟨ee, hat⟩ := sortedAll_at s.heap its out.toArray
  refine ⟨.ref (s.heap.objs.size + 1), upd H (s.heap.objs.size + 1) (.lst ((bs.mergeSort (dataLe false fun b : V × D => toP b.2)).map (·.1))), I.laid (t' := s.toks) (fun b o e => sortedAll_old e) (Nat.le_succ _) ⟨?_, out, ee, rel_each heo, hat⟩, rfl, q _ (I.hok.fresh (Nat.le_succ _))⟩
  rw [List.length_map, List.length_mergeSort]
  rw [List.length_map] at hz
  exact hz
open PySem.W in
def gSortD : GD := fun ds P => match ds with
  | [d] => ∃ xs, (d = .lst xs ∨ d = .rol xs) ∧ (∀ x ∈ xs, (toP x).plain = true ∧ (toP x).depth ≤ 60) ∧ AllAlike (xs.map toP) ∧ Sortable (xs.map toP) ∧ P (.lst (xs.mergeSort (dataLe false toP)))
  | _ => False
theorem dens_zip {K : PySem.W.Frag} {S : Hp} : ∀ {vs : List V} {ds : List D}, Dens K S vs ds → (vs.zip ds).map (·.1) = vs ∧ (vs.zip ds).map (·.2) = ds ∧ ∀ b ∈ vs.zip ds, Den K S b.1 b.2
  | _, _, .nil => ⟨rfl, rfl, fun _ h => nomatch h⟩
  | _, _, .cons h t => by
    obtain ⟨a, b, c⟩ := dens_zip t
    refine ⟨by rw [List.zip_cons_cons, List.map_cons, a], by rw [List.zip_cons_cons, List.map_cons, b], fun x hx => ?_⟩
    rw [List.zip_cons_cons] at hx
    rcases List.mem_cons.mp hx with rfl | hx
    · exact h
    · exact c x hx
theorem zip_dens {K : PySem.W.Frag} {S : Hp} : ∀ {bs : List (V × D)}, (∀ b ∈ bs, Den K S b.1 b.2) → Dens K S (bs.map (·.1)) (bs.map (·.2))
  | [], _ => .nil
  | b :: bs, h => .cons (h b List.mem_cons_self) (zip_dens fun x hx => h x (List.mem_cons_of_mem _ hx))
open PySem.W in
theorem cf_sortD (hu : X.A.units + 64 < cLine) : CallF X (.builtin "sorted") gSortD := by
  refine ⟨_, cr_sortD hu, fun xs ds S H P Q ex hd hg k => ?_⟩
  unfold gSortD at hg
  split at hg
  · obtain ⟨xs, e, h1, h2, h3, hP⟩ := hg
    cases hd with
    | cons h t =>
      cases t
      obtain ⟨a, vs, rfl, g1, g2⟩ := den_lstR e h
      obtain ⟨z1, z2, z3⟩ := dens_zip g2
      have em : (vs.zip xs).map (fun b => toP b.2) = xs.map toP := by
        rw [show (fun b : V × D => toP b.2) = toP ∘ (fun b : V × D => b.2) from rfl, ← List.map_map, z2]
      refine ⟨a, vs.zip xs, rfl, by rw [z1]; exact ex.l g1, fun b hb => ?_, by rw [em]; exact h2, by rw [em]; exact h3, fun p hp => ?_⟩
      · have hm : b.2 ∈ xs := by rw [← z2]; exact List.mem_map.mpr ⟨b, hb, rfl⟩
        obtain ⟨a1, a2⟩ := h1 b.2 hm
        exact ⟨den_dp b.2 b.1 a1 ((z3 b hb).mono ex), a1, a2⟩
      · have ms : ((vs.zip xs).mergeSort (dataLe false fun b : V × D => toP b.2)).map (·.2) = xs.mergeSort (dataLe false toP) := by
          have := List.map_mergeSort (r := dataLe false fun b : V × D => toP b.2) (s := dataLe false toP) (f := fun b : V × D => b.2) (l := vs.zip xs) (fun _ _ _ _ => rfl)
          rw [this, z2]
        refine k p S _ (.lst _) _ hP hp (Gr.hid ex hp) (ex.free hp) upd_same ?_
        show Dens _ _ _ _
        rw [← ms]
        exact zip_dens fun b hb => z3 b ((List.mergeSort_perm _ _).mem_iff.mp hb)
  · exact hg.elim
end

/-! ### list(range(..)) -/
section
variable {X : Cx} {fi : List Nat} {fa : Nat → Addr} {a b : Expr} {fx fy : FE} {p p2 pos pos2 : Pos}
theorem dens_rg {K : PySem.W.Frag} {S : Hp} (i j : Int) : Dens K S (rgV i j) (rangeD i (j - i).toNat) := by
  unfold rgV rangeD
  have : ∀ l : List Nat, Dens K S (l.map fun k => V.int (i + (k : Nat))) (l.map fun k => D.int (i + (k : Nat))) := fun l => by
    induction l with
    | nil => exact .nil
    | cons x l ih => exact .cons (.int _) ih
  exact this _
def fLstRg1 (fx : FE) : FE := fun ρ P => fx ρ fun x ρ1 => asI x fun n => n ≤ 100000 ∧ -100000 ≤ n ∧ P (.lst (rangeD 0 n.toNat)) ρ1
def fLstRg2 (fx fy : FE) : FE := fun ρ P => fx ρ fun x ρ1 => fy ρ1 fun y ρ2 => asI x fun i => asI y fun j => i ≤ 100000 ∧ -100000 ≤ i ∧ j ≤ 100000 ∧ -100000 ≤ j ∧ P (.lst (rangeD i (j - i).toNat)) ρ2
theorem pf_listRg1 (hg : Gl X "list") (hm : X.mg "list" = none) (hm2 : X.mg "range" = none) (ha : PED X fi fa a fx) (hg2 : Gl X "range" := by rfl) (hc : X.calm = true := by rfl)
    (na : starEach [a] X.env = (false, eval a X.env) :: starEach [] X.env := by rfl)
    (nb : starEach [.Call (.Name "range" p2) [a] [] pos2] X.env = (false, eval (.Call (.Name "range" p2) [a] [] pos2) X.env) :: starEach [] X.env := by rfl) :
    PEF X fi fa (.Call (.Name "list" p) [.Call (.Name "range" p2) [a] [] pos2] [] pos) (fLstRg1 fx) := by
  obtain ⟨t, pa, oa⟩ := ha
  refine ⟨_, pe_listRg hc hg hm (prg_1 hg2 hm2 pa na) nb, fun σ H S ρ P Q r hf k => oa σ H S ρ _ _ r hf fun v H1 S1 d ρ1 h1 r1 t1 d1 => ?_⟩
  obtain ⟨n, rfl, h1, h2, hP⟩ := asI_inv h1
  refine ⟨n, den_int d1, ⟨by omega, by omega, by omega, by omega, by omega⟩, fun q hq => ?_⟩
  obtain ⟨a1, a2, a3⟩ := ok_new (o := .lst (rgV 0 n)) (d := .lst (rangeD 0 n.toNat)) t1 r1 hq (by
    have := dens_rg (K := X.K) (S := S1) 0 n
    rw [Int.sub_zero] at this
    exact this)
  exact k _ _ _ _ ρ1 hP a1 a2 a3
theorem pf_listRg2 (hg : Gl X "list") (hm : X.mg "list" = none) (hm2 : X.mg "range" = none) (ha : PED X fi fa a fx) (hb : PED X fi fa b fy) (hg2 : Gl X "range" := by rfl) (hc : X.calm = true := by rfl)
    (na : starEach [a, b] X.env = (false, eval a X.env) :: starEach [b] X.env := by rfl) (nb : starEach [b] X.env = (false, eval b X.env) :: starEach [] X.env := by rfl)
    (hp : (backTo pos2 (starEach [b] X.env)).any (·.1) = false := by rfl)
    (nc : starEach [.Call (.Name "range" p2) [a, b] [] pos2] X.env = (false, eval (.Call (.Name "range" p2) [a, b] [] pos2) X.env) :: starEach [] X.env := by rfl) :
    PEF X fi fa (.Call (.Name "list" p) [.Call (.Name "range" p2) [a, b] [] pos2] [] pos) (fLstRg2 fx fy) := by
  obtain ⟨t, pa, oa⟩ := ha
  obtain ⟨u, pb, ob⟩ := hb
  refine ⟨_, pe_listRg hc hg hm (prg_2 hg2 hm2 pa pb na nb hp) nc, fun σ H S ρ P Q r hf k => oa σ H S ρ _ _ r hf fun v H1 S1 d ρ1 h1 r1 t1 d1 => ob σ H1 S1 ρ1 _ _ r1 h1 fun w H2 S2 e ρ2 h2 r2 t2 d2 => ?_⟩
  obtain ⟨i, rfl, h3⟩ := asI_inv h2
  obtain ⟨j, rfl, b1, b2, b3, b4, hP⟩ := asI_inv h3
  refine ⟨i, j, den_int (d1.mono t2.exS), den_int d2, ⟨by omega, by omega, by omega, by omega, by omega⟩, fun q hq => ?_⟩
  obtain ⟨a1, a2, a3⟩ := ok_new (o := .lst (rgV i j)) (d := .lst (rangeD i (j - i).toNat)) (t1.trans t2) r2 hq (dens_rg i j)
  exact k _ _ _ _ ρ2 hP a1 a2 a3
end

/-! ### sum of ints -/
def gSumL : GD := fun ds P => match ds with
  | [x] => lstD x fun xs => intsD xs fun is => P (.int is.sum)
  | _ => False
theorem cd_sum {X : Cx} (hc : X.calm = true := by rfl) : CallD X (.builtin "sum") gSumL := by
  refine ⟨_, cr_sum hc, fun xs ds S H P Q ex hd hg k => ?_⟩
  unfold gSumL at hg
  split at hg
  · cases hd with
    | cons h t =>
      cases t
      obtain ⟨es, e, hg⟩ := lstD_inv hg
      obtain ⟨a, vs, rfl, h1, h2⟩ := den_lstR e h
      obtain ⟨is, rfl, _, hP⟩ := intsD_inv hg h2
      exact ⟨a, is, rfl, ex.l h1, k _ S H _ hP (Gr.refl ex) (.int _)⟩
  · exact hg.elim
end DL

/-! DLE: unpacking, displays with text keys, d.get, sorted of a dict, recursion. -/
namespace DL
open PySem PySem.Spec PyProof.Rows L2

section
variable {X : Cx} {fi : List Nat} {fa : Nat → Addr} {e f tg o : Expr} {fe fd fy fx : FE} {pos apos cpos : Pos} {g : FG}
/-! ### a, b = e -/
def fAsgG (f : FE) (g : FG) : FS := fun ρ P => f ρ fun d ρ1 => g d ρ1 fun ρ2 => P (.nx ρ2)
theorem psd_asgG {ws : List Nat} (h : PED X fi fa e fe) (hg : PGD X fi fa tg ws g) (hs : swapsWithSole [tg] e pos.line X.env = pure false := by rfl) (hw : swappedStores [tg] e X.env = pure none := by rfl)
    (h1 : (assignEach [tg] X.env).map (·.2) = [assign tg X.env] := by rfl) : PSD X fi fa (.Assign [tg] e pos) (fAsgG fe g) := by
  obtain ⟨t, p, ok⟩ := h
  obtain ⟨tg', p2, o2⟩ := hg
  exact ⟨_, ps_asg p p2 hs hw h1, fun σ H S ρ P E r hf k => ok σ H S ρ _ _ r hf fun v H' S' d ρ' hP r' t' hd => o2 σ H' S' ρ' v d _ _ r' hd hP fun σ2 H2 S2 ρ2 hP2 r2 t2 _ => k.1 σ2 H2 S2 ρ2 hP2 r2 (t'.trans t2)⟩

/-! ### d.get(k, x) -/
theorem pd_dget2 (hu : X.A.units + 1 < cLine) (ho : PED X fi fa o fd) (he : PED X fi fa e fy) (hf : PED X fi fa f fx) (m : M2 X o "get" apos e f cpos := by exact ⟨rfl, rfl, rfl, rfl⟩) : PED X fi fa (.Call (.Attribute o "get" apos) [e, f] [] cpos) (fDGet2 fd fy fx) := by
  obtain ⟨t1, p1, o1⟩ := ho
  obtain ⟨t2, p2, o2⟩ := he
  obtain ⟨t3, p3, o3⟩ := hf
  refine ⟨_, pe_dget2 hu p1 p2 p3 m, fun σ H S ρ P Q r hf k => o1 σ H S ρ _ _ r hf fun v H1 S1 d ρ1 ⟨hi, h1⟩ r1 t1 d1 => ?_⟩
  obtain ⟨a, rfl, hd⟩ := den_isD r1.ex hi d1
  refine ⟨a, rfl, hd, o2 σ H1 S1 ρ1 _ _ r1 h1 fun u H2 S2 y ρ2 h2 r2 t2 d2 => o3 σ H2 S2 ρ2 _ _ r2 h2 fun z H3 S3 x ρ3 h3 r3 t3 d3 => ?_⟩
  obtain ⟨a', ov, od, e1, gg, hP, q⟩ := dlook_get r3.ex (d1.mono (t2.exS.trans t3.exS)) (d2.mono t3.exS) h3
  cases e1
  refine ⟨ov, gg, k _ H3 S3 _ ρ3 hP r3 ((t1.trans t2).trans t3) ?_⟩
  rcases q with ⟨rfl, rfl⟩ | ⟨w, dw, rfl, rfl, hz⟩
  · exact d3
  · exact hz
end

/-! ### displays -/
def OkPs (K : PySem.W.Frag) (fi : List Nat) (fa : Nat → Addr) (trs : List (TE × TE)) (ks : List Key) (f : FA) : Prop := ∀ (σ : L2.St) (H S : Hp) (ρ : List Sl) (P : List D → List Sl → Prop) (Q : List (V × V) → Hp → Prop), Rel K fi fa σ H S ρ → f ρ P →
  (∀ vs H' S' ds ρ', vs.length = ks.length → P ds ρ' → Rel K fi fa σ H' S' ρ' → Tr σ H S ρ σ H' S' ρ' → Dens K S' vs ds → Q ((ks.map kV).zip vs) H') → tPairs trs σ H Q
def PPD (X : Cx) (fi : List Nat) (fa : Nat → Addr) (pos : Pos) (keys : List (Option Expr)) (values : List Expr) (ks : List Key) (f : FA) : Prop := ∃ trs, PPs X pos keys values trs ∧ OkPs X.K fi fa trs ks f
theorem putK_new {k : Key} {v : V} : ∀ {kvs : List (Key × V)}, k ∉ kvs.map (·.1) → putK kvs k v = kvs ++ [(k, v)] := fun {kvs} h => by
  unfold putK
  rw [if_neg (fun z => h ((any_mem k kvs).mp z))]
theorem mergeK_nd : ∀ (more kvs : List (Key × V)), ((kvs ++ more).map (·.1)).Nodup → mergeK kvs more = kvs ++ more
  | [], kvs, _ => (List.append_nil kvs).symm
  | p :: r, kvs, h => by
    have h1 : p.1 ∉ kvs.map (·.1) := fun z => by
      rw [List.map_append, List.map_cons] at h
      exact (List.nodup_append.mp h).2.2 p.1 z p.1 List.mem_cons_self rfl
    show mergeK (putK kvs p.1 p.2) r = _
    rw [putK_new h1, mergeK_nd r _ (by rw [List.append_assoc]; exact h), List.append_assoc]
    rfl
section
variable {X : Cx} {fi : List Nat} {fa : Nat → Addr} {e : Expr} {fe : FE} {fs : FA} {pos : Pos} {keys : List (Option Expr)} {values : List Expr} {ks : List Key}
theorem ppd_nil : PPD X fi fa pos [] [] [] fNil := ⟨_, pps_nil, fun σ H S ρ P Q r hf k => k [] H S [] ρ rfl hf r (Tr.refl _ _ _ _) .nil⟩
theorem ppd_cons {s : Str} {j : Nat} {p : Pos} (h : PED X fi fa e fe) (hr : PPD X fi fa pos keys values ks fs) : PPD X fi fa pos (some (.Constant (.str s) j p) :: keys) (e :: values) (.inr s :: ks) (fCons fe fs) := by
  obtain ⟨t, q, ok⟩ := h
  obtain ⟨trs, ps, oks⟩ := hr
  refine ⟨_, pps_cons pe_str q ps, fun σ H S ρ P Q r hf k => ?_⟩
  show t σ H fun y H2 => tPairs trs σ H2 fun ps H3 => Q ((V.str s, y) :: ps) H3
  exact ok σ H S ρ _ _ r hf fun v H1 S1 d ρ1 h1 r1 t1 d1 => oks σ H1 S1 ρ1 _ _ r1 h1 fun vs H2 S2 ds ρ2 hl h2 r2 t2 d2 =>
    k (v :: vs) H2 S2 (d :: ds) ρ2 (by rw [List.length_cons, List.length_cons, hl]) h2 r2 (t1.trans t2) (.cons (d1.mono t2.exS) d2)
def fDisp (ks : List Key) (fs : FA) : FE := fun ρ P => fs ρ fun ds ρ1 => P (.dK ks ds) ρ1
theorem zip_fst : ∀ {ks : List Key} {vs : List V}, vs.length = ks.length → (ks.zip vs).map (·.1) = ks ∧ (ks.zip vs).map (·.2) = vs ∧ (ks.map kV).zip vs = (ks.zip vs).map fun kv => (kV kv.1, kv.2)
  | [], [], _ => ⟨rfl, rfl, rfl⟩
  | [], _ :: _, h => by cases h
  | _ :: _, [], h => by cases h
  | k :: ks, v :: vs, h => by
    obtain ⟨a, b, c⟩ := zip_fst (ks := ks) (vs := vs) (Nat.succ.inj h)
    refine ⟨?_, ?_, ?_⟩
    · rw [List.zip_cons_cons, List.map_cons, a]
    · rw [List.zip_cons_cons, List.map_cons, b]
    · rw [List.map_cons, List.zip_cons_cons, List.zip_cons_cons, List.map_cons, c]
theorem pf_disp (h : PPD X fi fa pos keys values ks fs) (nd : ks.Nodup := by decide) (hn : ks.length ≤ 15 := by decide) (hall : keys.all (·.isSome) = true := by rfl) (hl : keys.length = values.length := by rfl) (h0 : keys ≠ [] := by exact fun z => List.noConfusion z)
    (h15 : keys.length ≤ 15 := by decide) : PEF X fi fa (.Dict keys values pos) (fDisp ks fs) := by
  obtain ⟨trs, p, ok⟩ := h
  refine ⟨_, pe_disp p hall hl h0 h15, fun σ H S ρ P Q r hf k a ha => ?_⟩
  have g0 : Gr S H S (upd H a (.dK [])) := Gr.hid r.ex ha
  refine ok σ _ S ρ _ _ (r.grow g0) hf fun vs H1 S1 ds ρ1 hlen hP r1 t1 hd => ?_
  have no : ¬ Owned σ ρ a := fun ⟨i, d, h1, h2⟩ => by
    obtain ⟨q, u, e1, e2, e3, e4⟩ := r.own i d h1
    rw [h2] at e1
    cases e1
    rw [ha] at e3
    cases e3
  obtain ⟨q1, q2, q3⟩ := t1.hides upd_same (r.ex.free ha) no (fun _ => HO.noConfusion)
  obtain ⟨z1, z2, z3⟩ := zip_fst hlen
  refine ⟨q1, ks.zip vs, z3, by rw [List.length_zip]; omega, ?_⟩
  have hm : mergeK [] (ks.zip vs) = ks.zip vs := mergeK_nd (ks.zip vs) [] (by rw [List.nil_append, z1]; exact nd)
  rw [hm]
  exact k _ _ S1 _ ρ1 hP (r1.hid q2 q3) ((g0.tr.trans t1).hid ha) ⟨a, _, rfl, .inl ha, q2, q3, upd_same, z1.symm, by rw [z2]; exact hd⟩
end

/-! ### sorted(d), d a dict of int keys -/
def gSortDI : GD := fun ds P => match ds with
  | [.dK ks _] => ∃ ns : List Int, ks = ns.map .inl ∧ ns.length < 64 ∧ ∀ ms : List Int, ms.Perm ns → ms.Pairwise (· ≤ ·) → P (.lst (ms.map .int))
  | _ => False
theorem cf_sortDI {X : Cx} (hc : X.calm = true := by rfl) : CallF X (.builtin "sorted") gSortDI := by
  refine ⟨_, call_sortedDI hc, fun xs ds S H P Q ex hd hg k => ?_⟩
  unfold gSortDI at hg
  split at hg
  · obtain ⟨ns, rfl, hl, hP⟩ := hg
    cases hd with
    | cons h t =>
      cases t
      obtain ⟨a, kvs, rfl, h1, h2, h3⟩ := den_dK h
      refine ⟨a, kvs, ns, rfl, ex.rd h1, h2.symm, hl, fun ys p hp hs hn => ?_⟩
      exact k p S _ _ _ (hP ys hp hs) hn (Gr.hid (o := .lst (ys.map V.int)) ex hn) (ex.free hn) upd_same (Dens.ints ys)
  · exact hg.elim

/-! ### x[k], x owned and staying so -/
section
variable {X : Cx} {fi : List Nat} {fa : Nat → Addr} {i : Expr} {fk : FE} {pos px : Pos} {x : Str}
def fIxO (j : Nat) (fk : FE) : FE := fun ρ P => ownD ρ j fun _ => fk ρ fun y ρ1 => asI y fun k => ownD ρ1 j fun c => lstO c fun ds => ∃ d, atI ds k = some d ∧ P d ρ1
theorem pd_ixO (j : Nat) (hk : PED X fi fa i fk) (hN : X.N[j]? = some x := by rfl) (hv : Vis X.env.scope x := by first | exact Or.inl rfl | exact Or.inr (Or.inl rfl) | exact Or.inr (Or.inr rfl)) (hd : (x == ("__debug__" : Str)) = false := by decide)
    (hcd : (x == ("__classdict__" : Str)) = false := by decide) (hs : PlainIx i := by exact fun _ _ => rfl) : PED X fi fa (.Subscript (.Name x px) i pos) (fIxO j fk) := by
  obtain ⟨t, p, ok⟩ := hk
  refine ⟨_, pe_ix ix_list (pv j hN hv hd hcd) p hs, fun σ H S ρ P Q r hf k => ?_⟩
  obtain ⟨c0, g0, hf⟩ := ownD_inv hf
  obtain ⟨q, o, e1, _⟩ := r.own j c0 g0
  refine ⟨_, e1, ok σ H S ρ _ _ r hf fun u H1 S1 y ρ1 h1 r1 t1 d1 => ?_⟩
  obtain ⟨n, rfl, h1⟩ := asI_inv h1
  obtain ⟨c, g1, h1⟩ := ownD_inv h1
  obtain ⟨q', o', e2, e3, e4, e5⟩ := r1.own j c g1
  rw [e1] at e2
  cases e2
  obtain ⟨vs, ds, rfl, rfl, hd, d, hm, hP⟩ := lstO_inv h1 e5
  obtain ⟨v, h3, h4⟩ := atI_den hd hm
  exact ⟨q, vs, n, v, rfl, den_int d1, SqL.of e4, h3, k v H1 S1 d ρ1 hP r1 t1 h4⟩
theorem dget_hod {K : PySem.W.Frag} {S H : Hp} {p : Addr} {o : HO} {u : V} {d y : D} {P : Option D → Prop} (ex : Ex S H) (hp : H p = some o) (ho : HOD K S o d) (hy : Den K S u y) (h : dlook d y P) :
    ∃ ov od, DGet H p u ov ∧ P od ∧ ((ov = none ∧ od = none) ∨ ∃ z dz, ov = some z ∧ od = some dz ∧ Den K S z dz) := by
  cases d with
  | dT ks vs =>
    cases o with
    | dT kvs =>
      obtain ⟨e1, hd⟩ := hod_dT ho
      obtain ⟨k, e, hP⟩ := h
      obtain ⟨b, rfl, h4⟩ := asTK_den e hy
      subst e1
      exact ⟨_, _, .inr ⟨kvs, k, b, .inl hp, rfl, ex _ _ h4, rfl⟩, hP, look_val k hd⟩
    | _ => exact (show False from ho).elim
  | dK ks vs =>
    cases o with
    | dK kvs =>
      obtain ⟨e1, hd⟩ := hod_dK ho
      obtain ⟨k, e, hP⟩ := h
      obtain ⟨e2, e3⟩ := asK_den e hy
      subst e1
      subst e2
      exact ⟨_, _, .inl ⟨kvs, k, .inl hp, rfl, rfl⟩, hP, look_val k hd⟩
    | _ => exact (show False from ho).elim
  | _ => exact (show False from h).elim
def fDGetO (j : Nat) (fk : FE) : FE := fun ρ P => ownD ρ j fun _ => fk ρ fun y ρ1 => ownD ρ1 j fun c => dlook c y fun o => ∃ d, o = some d ∧ P d ρ1
theorem pd_dgetO (j : Nat) (hu : X.A.units + 1 < cLine) (hk : PED X fi fa i fk) (hN : X.N[j]? = some x := by rfl) (hv : Vis X.env.scope x := by first | exact Or.inl rfl | exact Or.inr (Or.inl rfl) | exact Or.inr (Or.inr rfl)) (hd : (x == ("__debug__" : Str)) = false := by decide)
    (hcd : (x == ("__classdict__" : Str)) = false := by decide) (hs : NoSl i := by exact fun _ _ => rfl) : PED X fi fa (.Subscript (.Name x px) i pos) (fDGetO j fk) := by
  obtain ⟨t, p, ok⟩ := hk
  refine ⟨_, pe_dget hu (pv j hN hv hd hcd) p hs, fun σ H S ρ P Q r hf k => ?_⟩
  obtain ⟨c0, g0, hf⟩ := ownD_inv hf
  obtain ⟨q, o, e1, _⟩ := r.own j c0 g0
  refine ⟨_, e1, ok σ H S ρ _ _ r hf fun u H1 S1 y ρ1 h1 r1 t1 d1 => ?_⟩
  obtain ⟨c, g1, h1⟩ := ownD_inv h1
  obtain ⟨q', o', e2, e3, e4, e5⟩ := r1.own j c g1
  rw [e1] at e2
  cases e2
  obtain ⟨ov, od, gg, ⟨d, ed, hP⟩, z⟩ := dget_hod r1.ex e4 e5 d1 h1
  subst ed
  rcases z with ⟨_, z⟩ | ⟨w, dz, ew, e, hz⟩
  · cases z
  · cases e
    subst ew
    exact ⟨q, w, rfl, gg, k w H1 S1 _ ρ1 hP r1 t1 hz⟩
end

/-! ### recursion: the def at depth 0 promises nothing -/
section
variable {P : Program} {w : World} {K : PySem.W.Frag} {mg : Str → Option Value} {base : Heap} {CX : CXT} {k n : Nat} {f : Addr} {fd : FuncData} {ps : List Str}
theorem fn_never {sp : Sp} (h : ∀ vs H Q E, ¬ sp vs H Q E) : FnOk P w K mg base CX k f fd ps sp :=
  ⟨fun vs H Q E q => (h vs H Q E q).elim, fun A outer s H args us vs Q E hr he hb hv q => (h vs H Q E q).elim⟩
theorem fn_none : FnOk P w K mg base CX k f fd ps (spP K n fun _ _ => False) := fn_never fun vs H Q E h => by
  obtain ⟨_, _, _, _, _, _, h, _⟩ := h
  exact h
theorem fn_noneF : FnOk P w K mg base CX k f fd ps (spF K n fun _ _ => False) := fn_never fun vs H Q E h => by
  obtain ⟨_, _, _, _, _, _, h, _⟩ := h
  exact h
theorem fn_noneI : FnOk P w K mg base CX k f fd ps (spI K n fun _ _ _ => False) := fn_never fun vs H Q E h => by
  obtain ⟨_, _, _, _, _, _, _, _, _, _, _, _, _, _, h, _⟩ := h
  exact h
end
end DL

/-! DLB: what the combinators come to on typed contents: lemmas for the plain laws. -/
namespace DL
open PySem L2

/-! ### isinstance -/
def optP {α : Type} (o : Option α) (P : α → Prop) : Prop := match o with
  | some a => P a
  | none => False
@[simp] theorem optP_some {α : Type} (a : α) (P : α → Prop) : optP (some a) P = P a := rfl
def isiB (x : D) (n : String) : Option Bool := (tyN x).bind fun t => isiT t n
theorem gIsi_eq (x : D) (n : String) (P : D → Prop) : gIsi [x, .ty n] P = optP (isiB x n) fun b => P (.bl b) := by
  apply propext
  show (∃ t b, tyN x = some t ∧ isiT t n = some b ∧ P (.bl b)) ↔ _
  unfold isiB
  constructor
  · rintro ⟨t, b, h1, h2, h3⟩
    rw [h1]
    show optP (isiT t n) _
    rw [h2]
    exact h3
  · intro h
    cases h1 : tyN x with
    | none => rw [h1] at h; exact h.elim
    | some t =>
      rw [h1] at h
      have h : optP (isiT t n) fun b => P (.bl b) := h
      cases h2 : isiT t n with
      | none => rw [h2] at h; exact h.elim
      | some b => rw [h2] at h; exact ⟨t, b, rfl, h2, h⟩
section
variable (b : Bool) (i : Int) (s : Str) (xs : List D) (ks : List Key)
@[simp] theorem isi_int_int : isiB (.int i) "int" = some true := by simp [isiB, tyN, isiT]
@[simp] theorem isi_int_bool : isiB (.int i) "bool" = some false := by simp [isiB, tyN, isiT]
@[simp] theorem isi_int_tuple : isiB (.int i) "tuple" = some false := by simp [isiB, tyN, isiT]
@[simp] theorem isi_int_list : isiB (.int i) "list" = some false := by simp [isiB, tyN, isiT]
@[simp] theorem isi_int_str : isiB (.int i) "str" = some false := by simp [isiB, tyN, isiT]
@[simp] theorem isi_bl_int : isiB (.bl b) "int" = some true := by simp [isiB, tyN, isiT]
@[simp] theorem isi_bl_bool : isiB (.bl b) "bool" = some true := by simp [isiB, tyN, isiT]
@[simp] theorem isi_bl_tuple : isiB (.bl b) "tuple" = some false := by simp [isiB, tyN, isiT]
@[simp] theorem isi_bl_list : isiB (.bl b) "list" = some false := by simp [isiB, tyN, isiT]
@[simp] theorem isi_bl_str : isiB (.bl b) "str" = some false := by simp [isiB, tyN, isiT]
@[simp] theorem isi_non_int : isiB .non "int" = some false := by simp [isiB, tyN, isiT]
@[simp] theorem isi_non_bool : isiB .non "bool" = some false := by simp [isiB, tyN, isiT]
@[simp] theorem isi_non_tuple : isiB .non "tuple" = some false := by simp [isiB, tyN, isiT]
@[simp] theorem isi_non_list : isiB .non "list" = some false := by simp [isiB, tyN, isiT]
@[simp] theorem isi_non_str : isiB .non "str" = some false := by simp [isiB, tyN, isiT]
@[simp] theorem isi_str_int : isiB (.str s) "int" = some false := by simp [isiB, tyN, isiT]
@[simp] theorem isi_str_bool : isiB (.str s) "bool" = some false := by simp [isiB, tyN, isiT]
@[simp] theorem isi_str_tuple : isiB (.str s) "tuple" = some false := by simp [isiB, tyN, isiT]
@[simp] theorem isi_str_list : isiB (.str s) "list" = some false := by simp [isiB, tyN, isiT]
@[simp] theorem isi_str_str : isiB (.str s) "str" = some true := by simp [isiB, tyN, isiT]
@[simp] theorem isi_lst_int : isiB (.lst xs) "int" = some false := by simp [isiB, tyN, isiT]
@[simp] theorem isi_lst_bool : isiB (.lst xs) "bool" = some false := by simp [isiB, tyN, isiT]
@[simp] theorem isi_lst_tuple : isiB (.lst xs) "tuple" = some false := by simp [isiB, tyN, isiT]
@[simp] theorem isi_lst_list : isiB (.lst xs) "list" = some true := by simp [isiB, tyN, isiT]
@[simp] theorem isi_lst_str : isiB (.lst xs) "str" = some false := by simp [isiB, tyN, isiT]
@[simp] theorem isi_tup_int : isiB (.tup xs) "int" = some false := by simp [isiB, tyN, isiT]
@[simp] theorem isi_tup_bool : isiB (.tup xs) "bool" = some false := by simp [isiB, tyN, isiT]
@[simp] theorem isi_tup_tuple : isiB (.tup xs) "tuple" = some true := by simp [isiB, tyN, isiT]
@[simp] theorem isi_tup_list : isiB (.tup xs) "list" = some false := by simp [isiB, tyN, isiT]
@[simp] theorem isi_tup_str : isiB (.tup xs) "str" = some false := by simp [isiB, tyN, isiT]
@[simp] theorem isi_dK_int : isiB (.dK ks xs) "int" = some false := by simp [isiB, tyN, isiT]
@[simp] theorem isi_dK_bool : isiB (.dK ks xs) "bool" = some false := by simp [isiB, tyN, isiT]
@[simp] theorem isi_dK_tuple : isiB (.dK ks xs) "tuple" = some false := by simp [isiB, tyN, isiT]
@[simp] theorem isi_dK_list : isiB (.dK ks xs) "list" = some false := by simp [isiB, tyN, isiT]
@[simp] theorem isi_dK_str : isiB (.dK ks xs) "str" = some false := by simp [isiB, tyN, isiT]
end

/-! ### subscripts, bools, ints -/
theorem gIx_eq (x : D) (k : Int) (P : D → Prop) : gIx x (.int k) P = optP ((seqL x).bind fun xs => atI xs k) P := by
  unfold gIx optP
  cases seqL x with
  | none => simp
  | some xs =>
    cases h : atI xs k with
    | none => simp [h]
    | some d => simp [h]
theorem ev_gIx_lst (xs : List D) (k : Int) (P : D → Prop) : gIx (.lst xs) (.int k) P = optP (atI xs k) P := gIx_eq _ _ _
theorem ev_gIx_tup (xs : List D) (k : Int) (P : D → Prop) : gIx (.tup xs) (.int k) P = optP (atI xs k) P := gIx_eq _ _ _
theorem ev_gIx_rol (xs : List D) (k : Int) (P : D → Prop) : gIx (.rol xs) (.int k) P = optP (atI xs k) P := gIx_eq _ _ _
@[simp] theorem seqL_lst (xs : List D) : seqL (.lst xs) = some xs := rfl
@[simp] theorem seqL_tup (xs : List D) : seqL (.tup xs) = some xs := rfl
@[simp] theorem seqL_rol (xs : List D) : seqL (.rol xs) = some xs := rfl
theorem atI_nn {xs : List D} {k : Nat} : atI xs (k : Int) = xs[k]? := by
  unfold atI ixN
  by_cases h : k < xs.length
  · simp [h]
  · simp [h]
@[simp] theorem atI_zero (x : D) (xs : List D) : atI (x :: xs) 0 = some x := by
  have := atI_nn (xs := x :: xs) (k := 0)
  simpa using this
@[simp] theorem atI_one (x y : D) (xs : List D) : atI (x :: y :: xs) 1 = some y := by
  have := atI_nn (xs := x :: y :: xs) (k := 1)
  simpa using this
@[simp] theorem atI_two (x y z : D) (xs : List D) : atI (x :: y :: z :: xs) 2 = some z := by
  have := atI_nn (xs := x :: y :: z :: xs) (k := 2)
  simpa using this
theorem blsD_eq : ∀ (bs : List Bool) (P : List Bool → Prop), blsD (bs.map .bl) P = P bs
  | [], P => rfl
  | b :: bs, P => by
    show blsD (bs.map .bl) (fun is => P (b :: is)) = _
    rw [blsD_eq bs]
theorem intsD_eq : ∀ (bs : List Int) (P : List Int → Prop), intsD (bs.map .int) P = P bs
  | [], P => rfl
  | b :: bs, P => by
    show intsD (bs.map .int) (fun is => P (b :: is)) = _
    rw [intsD_eq bs]
theorem gAll_eq (bs : List Bool) (P : D → Prop) : gAll [.lst (bs.map .bl)] P = P (.bl (bs.all id)) := blsD_eq bs _
theorem gAny_eq (bs : List Bool) (P : D → Prop) : gAny [.lst (bs.map .bl)] P = P (.bl (bs.any id)) := blsD_eq bs _

/-! ### evaluation, arm by arm -/
def rng1 (ds : List D) (P : List D → Prop) : Prop := match ds with
  | [.int j] => j ≤ 100000 ∧ -100000 ≤ j ∧ P (rangeD 0 j.toNat)
  | _ => False
def rng2 (ds : List D) (P : List D → Prop) : Prop := match ds with
  | [.int i, .int j] => (j ≤ 100000 ∧ -100000 ≤ j ∧ i ≤ 100000 ∧ -100000 ≤ i) ∧ P (rangeD i (j - i).toNat)
  | _ => False
def zip2 (ds : List D) (P : List D → Prop) : Prop := match ds with
  | [.lst xs, .lst ys] => P (zipD xs ys)
  | [.tup xs, .tup ys] => P (zipD xs ys)
  | _ => False
def slotV (o : Option Sl) (P Q : D → Prop) : Prop := match o with
  | some (.val d) => P d
  | some (.own d) => Q d
  | _ => False
def slotO (o : Option Sl) (P : D → Prop) : Prop := match o with
  | some (.own d) => P d
  | _ => False
theorem ev_asB_bl (b : Bool) (P : Bool → Prop) : asB (.bl b) P = P b := rfl
theorem ev_ixN_30 : ixN 3 0 = some 0 := rfl
theorem ev_ixN_31 : ixN 3 1 = some 1 := rfl
theorem ev_ixN_32 : ixN 3 2 = some 2 := rfl
theorem ev_ixS (n : Nat) (P : Nat → Prop) : (∃ m, some n = some m ∧ P m) = P n := propext ⟨fun ⟨_, e, h⟩ => by cases e; exact h, fun h => ⟨_, rfl, h⟩⟩
theorem ev_asI_int (i : Int) (P : Int → Prop) : asI (.int i) P = P i := rfl
theorem ev_gAdd_int (i j : Int) (P : D → Prop) : gAdd (.int i) (.int j) P = P (.int (i + j)) := rfl
theorem ev_gAdd_tup (xs ys : List D) (P : D → Prop) : gAdd (.tup xs) (.tup ys) P = (xs.length + ys.length ≤ 100000 ∧ P (.tup (xs ++ ys))) := rfl
theorem ev_gAdd_lst (xs ys : List D) (P : D → Prop) : gAdd (.lst xs) (.lst ys) P = (xs.length + ys.length ≤ 100000 ∧ P (.lst (xs ++ ys))) := rfl
theorem ev_gAdd_str (xs ys : Str) (P : D → Prop) : gAdd (.str xs) (.str ys) P = (xs.length + ys.length ≤ 100000 ∧ P (.str (xs ++ ys))) := rfl
theorem ev_gMul_int (i j : Int) (P : D → Prop) : gMul (.int i) (.int j) P = ((CMul i j ∨ CMulW i j) ∧ P (.int (i * j))) := rfl
theorem ev_gMul_tup (xs : List D) (k : Int) (P : D → Prop) : gMul (.tup xs) (.int k) P = (xs ≠ [] ∧ 1 ≤ k ∧ k ≤ 1000 ∧ xs.length ≤ 100 ∧ P (.tup (List.replicate k.toNat xs).flatten)) := rfl
theorem ev_gMul_lst (xs : List D) (k : Int) (P : D → Prop) : gMul (.lst xs) (.int k) P = (0 ≤ k ∧ k ≤ 1000 ∧ xs.length ≤ 100 ∧ P (.lst (List.replicate k.toNat xs).flatten)) := rfl
theorem ev_gMul_str (s : Str) (k : Int) (P : D → Prop) : gMul (.str s) (.int k) P = (s.length ≤ 16 ∧ 0 ≤ k ∧ k ≤ 1000 ∧ P (.str (PySem.Txt.mul s k))) := rfl
theorem ev_gI_int (C : Int → Int → Prop) (h : Int → Int → D) (i j : Int) (P : D → Prop) : gI C h (.int i) (.int j) P = (C i j ∧ P (h i j)) := rfl
theorem ev_gC_int (h : Int → Int → Bool) (i j : Int) (P : D → Prop) : gC h (.int i) (.int j) P = P (.bl (h i j)) := rfl
theorem ev_gLt_int (i j : Int) (P : D → Prop) : gLt (.int i) (.int j) P = P (.bl (decide (i < j))) := rfl
theorem ev_gNeg_int (i : Int) (P : D → Prop) : gNeg (.int i) P = P (.int (-i)) := rfl
theorem ev_gIs_bl (a b : Bool) (P : D → Prop) : gIs (.bl a) (.bl b) P = P (.bl (decide (a = b))) := rfl
theorem ev_gIsNot_bl (a b : Bool) (P : D → Prop) : gIsNot (.bl a) (.bl b) P = P (.bl (!decide (a = b))) := rfl
theorem ev_gInt_int (i : Int) (P : D → Prop) : gInt [.int i] P = P (.int i) := rfl
theorem ev_gInt_bl (b : Bool) (P : D → Prop) : gInt [.bl b] P = P (.int (if b then 1 else 0)) := rfl
theorem ev_gInt2_int (h : Int → Int → Int) (i j : Int) (P : D → Prop) : gInt2 h [.int i, .int j] P = P (.int (h i j)) := rfl
theorem ev_gAbs_int (i : Int) (P : D → Prop) : gAbs [.int i] P = P (.int (if i < 0 then -i else i)) := rfl
theorem ev_gTuple_lst (xs : List D) (P : D → Prop) : gTuple [.lst xs] P = P (.tup xs) := rfl
theorem ev_gTuple_rol (xs : List D) (P : D → Prop) : gTuple [.rol xs] P = P (.tup xs) := rfl
theorem ev_gTuple_tup (xs : List D) (P : D → Prop) : gTuple [.tup xs] P = P (.tup xs) := rfl
theorem ev_gList_dT (ks : List (List Key)) (vs : List D) (P : D → Prop) : gList [.dT ks vs] P = P (.lst (ks.map fun k => .tup (k.map kD))) := rfl
theorem ev_gList_dK (ks : List Key) (vs : List D) (P : D → Prop) : gList [.dK ks vs] P = P (.lst (ks.map kD)) := rfl
theorem ev_gLen_str (s : Str) (P : D → Prop) : gLen [.str s] P = (s.length ≤ 100000 ∧ P (.int s.length)) := rfl
theorem ev_gLen_dT (ks : List (List Key)) (vs : List D) (P : D → Prop) : gLen [.dT ks vs] P = P (.int ks.length) := rfl
theorem ev_gLen_dK (ks : List Key) (vs : List D) (P : D → Prop) : gLen [.dK ks vs] P = P (.int ks.length) := rfl
theorem ev_lstD_lst (xs : List D) (P : List D → Prop) : lstD (.lst xs) P = P xs := rfl
theorem ev_lstD_rol (xs : List D) (P : List D → Prop) : lstD (.rol xs) P = P xs := rfl
theorem ev_tupD_tup (xs : List D) (P : List D → Prop) : tupD (.tup xs) P = P xs := rfl
theorem ev_lstO_lst (xs : List D) (P : List D → Prop) : lstO (.lst xs) P = P xs := rfl
theorem ev_gSl_lst (xs : List D) (l h : Option Int) (P : D → Prop) : gSl (.lst xs) l h P = P (.lst (cutD xs l h)) := rfl
theorem ev_gSl_rol (xs : List D) (l h : Option Int) (P : D → Prop) : gSl (.rol xs) l h P = P (.lst (cutD xs l h)) := rfl
theorem ev_gSl_tup (xs : List D) (l h : Option Int) (P : D → Prop) : gSl (.tup xs) l h P = P (.tup (cutD xs l h)) := rfl
theorem ev_dlook_dT (ks : List (List Key)) (vs : List D) (y : D) (P : Option D → Prop) : dlook (.dT ks vs) y P = ∃ k, asTK y = some k ∧ P (look ks vs k) := rfl
theorem ev_dlook_dK (ks : List Key) (vs : List D) (y : D) (P : Option D → Prop) : dlook (.dK ks vs) y P = ∃ k, asK y = some k ∧ P (look ks vs k) := rfl
theorem ev_dput_dT (ks : List (List Key)) (vs : List D) (y x : D) (P : D → Prop) : dput (.dT ks vs) y x P = ∃ k, asTK y = some k ∧ ks.length < 100000 ∧ P (.dT (putKs ks k) (putVs ks vs k x)) := rfl
theorem ev_dput_dK (ks : List Key) (vs : List D) (y x : D) (P : D → Prop) : dput (.dK ks vs) y x P = ∃ k, asK y = some k ∧ ks.length < 100000 ∧ P (.dK (putKs ks k) (putVs ks vs k x)) := rfl
theorem ev_retP_nx (P : D → Prop) (ρ : List Sl) : retP P (.nx ρ) = P .non := rfl
theorem ev_retP_rt (P : D → Prop) (d : D) (ρ : List Sl) : retP P (.rt d ρ) = P d := rfl
theorem ev_retP_rf (P : D → Prop) (d : D) (ρ : List Sl) : retP P (.rf d ρ) = P d := rfl
theorem ev_retF_rf (P : D → Prop) (d : D) (ρ : List Sl) : retF P (.rf d ρ) = P d := rfl
theorem ev_retI_nx (P : D → D → Prop) (ρ : List Sl) : retI P (.nx ρ) = ownD ρ 0 fun c => P .non c := rfl
theorem ev_retI_rt (P : D → D → Prop) (d : D) (ρ : List Sl) : retI P (.rt d ρ) = ownD ρ 0 fun c => P d c := rfl
theorem ev_retI_rf (P : D → D → Prop) (d : D) (ρ : List Sl) : retI P (.rf d ρ) = ownD ρ 0 fun c => P d c := rfl
theorem ev_andThen_nx (F : FS) (P : Fl → Prop) (ρ : List Sl) : andThen F P (.nx ρ) = F ρ P := rfl
theorem ev_andThen_rt (F : FS) (P : Fl → Prop) (d : D) (ρ : List Sl) : andThen F P (.rt d ρ) = P (.rt d ρ) := rfl
theorem ev_andThen_rf (F : FS) (P : Fl → Prop) (d : D) (ρ : List Sl) : andThen F P (.rf d ρ) = P (.rf d ρ) := rfl
theorem ev_andThen_bk (F : FS) (P : Fl → Prop) (ρ : List Sl) : andThen F P (.bk ρ) = P (.bk ρ) := rfl
theorem ev_andThen_ct (F : FS) (P : Fl → Prop) (ρ : List Sl) : andThen F P (.ct ρ) = P (.ct ρ) := rfl
theorem ev_frz_own (d : D) : frz (.own d) = .val d := rfl
theorem ev_frz_val (d : D) : frz (.val d) = .val d := rfl
theorem ev_frz_non : frz .non = .non := rfl
theorem ev_scal_int (i : Int) : (scalD (.int i) = true) = True := eq_true rfl
theorem ev_scal_bl (i : Bool) : (scalD (.bl i) = true) = True := eq_true rfl
theorem ev_scal_str (i : Str) : (scalD (.str i) = true) = True := eq_true rfl
theorem ev_scal_non : (scalD .non = true) = True := eq_true rfl
theorem ev_fRng1_int (fs : FA) (ρ : List Sl) (P : List D → List Sl → Prop) : fRng1 fs ρ P = fs ρ fun ds ρ1 => rng1 ds fun xs => P xs ρ1 := by
  unfold fRng1
  congr 1
theorem ev_fRng2_int (fs : FA) (ρ : List Sl) (P : List D → List Sl → Prop) : fRng2 fs ρ P = fs ρ fun ds ρ1 => rng2 ds fun xs => P xs ρ1 := by
  unfold fRng2
  congr 1
theorem ev_rng1_int (j : Int) (P : List D → Prop) : rng1 [.int j] P = (j ≤ 100000 ∧ -100000 ≤ j ∧ P (rangeD 0 j.toNat)) := rfl
theorem ev_rng2_int (i j : Int) (P : List D → Prop) : rng2 [.int i, .int j] P = ((j ≤ 100000 ∧ -100000 ≤ j ∧ i ≤ 100000 ∧ -100000 ≤ i) ∧ P (rangeD i (j - i).toNat)) := rfl
theorem ev_fZip_eq (fs : FA) (ρ : List Sl) (P : List D → List Sl → Prop) : fZip fs ρ P = fs ρ fun ds ρ1 => zip2 ds fun xs => P xs ρ1 := by
  unfold fZip
  congr 1
theorem ev_zip2_lst (xs ys : List D) (P : List D → Prop) : zip2 [.lst xs, .lst ys] P = P (zipD xs ys) := rfl
theorem ev_zip2_tup (xs ys : List D) (P : List D → Prop) : zip2 [.tup xs, .tup ys] P = P (zipD xs ys) := rfl
theorem ev_gdTup_tup (n : Nat) (fs : FGs) (ds : List D) (ρ : List Sl) (P : List Sl → Prop) : gdTup n fs (.tup ds) ρ P = (ds.length = n ∧ fs ds ρ P) := rfl
theorem ev_slotV_val (d : D) (P : D → Prop) (Q : D → Prop) : slotV (some (.val d)) P Q = P d := rfl
theorem ev_slotV_own (d : D) (P : D → Prop) (Q : D → Prop) : slotV (some (.own d)) P Q = Q d := rfl
theorem ev_fVar_eq (i : Nat) (ρ : List Sl) (P : D → List Sl → Prop) : fVar i ρ P = slotV ρ[i]? (fun d => P d ρ) (fun d => P d (ρ.set i (.val d))) := rfl
theorem ev_fVarF_eq (i : Nat) (ρ : List Sl) (P : D → List Sl → Prop) : fVarF i ρ P = slotO ρ[i]? (fun d => P d (ρ.set i .non)) := rfl
theorem ev_ownD_eq (ρ : List Sl) (i : Nat) (P : D → Prop) : ownD ρ i P = slotO ρ[i]? P := rfl
theorem ev_slotO_own (d : D) (P : D → Prop) : slotO (some (.own d)) P = P d := rfl

theorem ev_gdCons (f : FG) (fs : FGs) (d : D) (ds : List D) (ρ : List Sl) (P : List Sl → Prop) : gdCons f fs (d :: ds) ρ P = f d ρ fun ρ1 => fs ds ρ1 P :=
  propext ⟨fun ⟨_, _, e, h⟩ => by cases e; exact h, fun h => ⟨d, ds, rfl, h⟩⟩
theorem ev_gdNil (ρ : List Sl) (P : List Sl → Prop) : gdNil [] ρ P = P ρ := propext ⟨fun h => h.2, fun h => ⟨rfl, h⟩⟩

/-! ### equality on typed contents -/
theorem gLen_seq (x : D) (xs : List D) (P : D → Prop) (h : seqL x = some xs) : gLen [x] P = P (.int xs.length) := by
  cases x with
  | lst ys => cases h; exact propext ⟨fun ⟨_, e, h⟩ => by cases e; exact h, fun h => ⟨_, rfl, h⟩⟩
  | tup ys => cases h; exact propext ⟨fun ⟨_, e, h⟩ => by cases e; exact h, fun h => ⟨_, rfl, h⟩⟩
  | rol ys => cases h; exact propext ⟨fun ⟨_, e, h⟩ => by cases e; exact h, fun h => ⟨_, rfl, h⟩⟩
  | _ => cases h
theorem ev_gLen_lst (xs : List D) (P : D → Prop) : gLen [.lst xs] P = P (.int xs.length) := gLen_seq _ _ P rfl
theorem ev_gLen_tup (xs : List D) (P : D → Prop) : gLen [.tup xs] P = P (.int xs.length) := gLen_seq _ _ P rfl
theorem ev_gLen_rol (xs : List D) (P : D → Prop) : gLen [.rol xs] P = P (.int xs.length) := gLen_seq _ _ P rfl
/-- data whose equality is that of what they are made from -/
structure Dat {α : Type} (f : α → D) (n : Nat) : Prop where
  plain : ∀ a, (toP (f a)).plain = true
  depth : ∀ a, (toP (f a)).depth ≤ n
  eqv : ∀ a b, PyData.eqv (toP (f a)) (toP (f b)) = true ↔ a = b
theorem gEq_dat {α : Type} [DecidableEq α] {f : α → D} {n : Nat} (h : Dat f n) (hn : n ≤ 60) (a b : α) (P : D → Prop) : gEq (f a) (f b) P = P (.bl (decide (a = b))) := by
  have e : PyData.eqv (toP (f a)) (toP (f b)) = decide (a = b) := by
    by_cases q : a = b
    · rw [decide_eq_true q]; exact (h.eqv a b).mpr q
    · rw [decide_eq_false q]
      cases z : PyData.eqv (toP (f a)) (toP (f b)) with
      | false => rfl
      | true => exact absurd ((h.eqv a b).mp z) q
  unfold gEq
  rw [e]
  exact propext ⟨fun h => h.2, fun q => ⟨⟨h.plain a, h.plain b, .inl (Nat.le_trans (h.depth a) hn)⟩, q⟩⟩
theorem gNe_dat {α : Type} [DecidableEq α] {f : α → D} {n : Nat} (h : Dat f n) (hn : n ≤ 60) (a b : α) (P : D → Prop) : gNe (f a) (f b) P = P (.bl (!decide (a = b))) := by
  have e : PyData.eqv (toP (f a)) (toP (f b)) = decide (a = b) := by
    by_cases q : a = b
    · rw [decide_eq_true q]; exact (h.eqv a b).mpr q
    · rw [decide_eq_false q]
      cases z : PyData.eqv (toP (f a)) (toP (f b)) with
      | false => rfl
      | true => exact absurd ((h.eqv a b).mp z) q
  unfold gNe
  rw [e]
  exact propext ⟨fun h => h.2, fun q => ⟨⟨h.plain a, h.plain b, .inl (Nat.le_trans (h.depth a) hn)⟩, q⟩⟩
theorem dat_int : Dat D.int 1 := ⟨fun _ => rfl, fun a => by show PyData.depth (.int a) ≤ 1; simp [PyData.depth], fun a b => by show PyData.eqv (.int a) (.int b) = true ↔ _; simp [PyData.eqv]⟩
theorem dat_bl : Dat D.bl 1 := ⟨fun _ => rfl, fun a => by show PyData.depth (.bool a) ≤ 1; simp [PyData.depth], fun a b => by show PyData.eqv (.bool a) (.bool b) = true ↔ _; simp [PyData.eqv]⟩
theorem dat_str : Dat D.str 1 := ⟨fun _ => rfl, fun a => by show PyData.depth (.str a) ≤ 1; simp [PyData.depth], fun a b => by show PyData.eqv (.str a) (.str b) = true ↔ _; simp [PyData.eqv]⟩
section
variable {α : Type} {f : α → D} {n : Nat}
theorem dat_all (h : Dat f n) : ∀ xs : List α, PyData.plainAll (toPs (xs.map f)) = true ∧ PyData.depthAll (toPs (xs.map f)) ≤ n
  | [] => ⟨rfl, by show PyData.depthAll [] ≤ n; simp [PyData.depthAll]⟩
  | x :: xs => by
    obtain ⟨h1, h2⟩ := dat_all h xs
    have d := h.depth x
    constructor
    · show ((toP (f x)).plain && PyData.plainAll (toPs (xs.map f))) = true
      rw [h.plain, h1]; rfl
    · show PyData.depthAll (toP (f x) :: toPs (xs.map f)) ≤ n
      simp only [PyData.depthAll]
      omega
theorem eqv_all (h : Dat f n) : ∀ xs ys : List α, PyData.eqvAll (toPs (xs.map f)) (toPs (ys.map f)) = true ↔ xs = ys
  | [], [] => by show PyData.eqvAll [] [] = true ↔ _; simp [PyData.eqvAll]
  | [], y :: ys => by show PyData.eqvAll [] (toP (f y) :: toPs (ys.map f)) = true ↔ _; simp [PyData.eqvAll]
  | x :: xs, [] => by show PyData.eqvAll (toP (f x) :: toPs (xs.map f)) [] = true ↔ _; simp [PyData.eqvAll]
  | x :: xs, y :: ys => by
    show PyData.eqvAll (toP (f x) :: toPs (xs.map f)) (toP (f y) :: toPs (ys.map f)) = true ↔ _
    rw [PyData.eqvAll, Bool.and_eq_true, h.eqv, eqv_all h xs ys, List.cons.injEq]
theorem dat_tup (h : Dat f n) : Dat (fun xs : List α => D.tup (xs.map f)) (n + 1) := by
  refine ⟨fun xs => ?_, fun xs => ?_, fun xs ys => ?_⟩
  · show PyData.plain (.tuple (toPs (xs.map f))) = true
    rw [PyData.plain]; exact (dat_all h xs).1
  · show PyData.depth (.tuple (toPs (xs.map f))) ≤ n + 1
    have := (dat_all h xs).2
    simp only [PyData.depth]
    omega
  · show PyData.eqv (.tuple (toPs (xs.map f))) (.tuple (toPs (ys.map f))) = true ↔ _
    rw [PyData.eqv]; exact eqv_all h xs ys
theorem dat_lst (h : Dat f n) : Dat (fun xs : List α => D.lst (xs.map f)) (n + 1) := by
  refine ⟨fun xs => ?_, fun xs => ?_, fun xs ys => ?_⟩
  · show PyData.plain (.list (toPs (xs.map f))) = true
    rw [PyData.plain]; exact (dat_all h xs).1
  · show PyData.depth (.list (toPs (xs.map f))) ≤ n + 1
    have := (dat_all h xs).2
    simp only [PyData.depth]
    omega
  · show PyData.eqv (.list (toPs (xs.map f))) (.list (toPs (ys.map f))) = true ↔ _
    rw [PyData.eqv]; exact eqv_all h xs ys
end
theorem dat_tupI : Dat tupI 2 := dat_tup dat_int
theorem dat_tupsI : Dat (fun xs : List (List Int) => D.lst (xs.map tupI)) 3 := dat_lst dat_tupI
theorem ev_gEq_int (a b : Int) (P : D → Prop) : gEq (.int a) (.int b) P = P (.bl (decide (a = b))) := gEq_dat dat_int (by decide) a b P
theorem ev_gNe_int (a b : Int) (P : D → Prop) : gNe (.int a) (.int b) P = P (.bl (!decide (a = b))) := gNe_dat dat_int (by decide) a b P
theorem ev_gEq_bl (a b : Bool) (P : D → Prop) : gEq (.bl a) (.bl b) P = P (.bl (decide (a = b))) := gEq_dat dat_bl (by decide) a b P
theorem ev_gNe_bl (a b : Bool) (P : D → Prop) : gNe (.bl a) (.bl b) P = P (.bl (!decide (a = b))) := gNe_dat dat_bl (by decide) a b P
theorem gEq_tupI (a b : List Int) (P : D → Prop) : gEq (tupI a) (tupI b) P = P (.bl (decide (a = b))) := gEq_dat dat_tupI (by decide) a b P
theorem gNe_tupI (a b : List Int) (P : D → Prop) : gNe (tupI a) (tupI b) P = P (.bl (!decide (a = b))) := gNe_dat dat_tupI (by decide) a b P
theorem gEq_tupsI (a b : List (List Int)) (P : D → Prop) : gEq (.lst (a.map tupI)) (.lst (b.map tupI)) P = P (.bl (decide (a = b))) := gEq_dat dat_tupsI (by decide) a b P
theorem gNe_tupsI (a b : List (List Int)) (P : D → Prop) : gNe (.lst (a.map tupI)) (.lst (b.map tupI)) P = P (.bl (!decide (a = b))) := gNe_dat dat_tupsI (by decide) a b P

/-! ### comprehensions over ranges, zips -/
theorem rangeD_get {lo : Int} {n i : Nat} {d : D} (h : (rangeD lo n)[i]? = some d) : i < n ∧ d = .int (lo + i) := by
  unfold rangeD at h
  rw [List.getElem?_map] at h
  cases q : (List.range n)[i]? with
  | none => rw [q] at h; cases h
  | some j =>
    rw [q] at h
    have hl := (List.getElem?_eq_some_iff.mp q).1
    rw [List.length_range] at hl
    rw [List.getElem?_range hl] at q
    cases q
    exact ⟨hl, (Option.some.inj h).symm⟩
theorem rangeD_len (lo : Int) (n : Nat) : (rangeD lo n).length = n := by unfold rangeD; rw [List.length_map, List.length_range]
theorem lc_range {g : FG} {fe : FE} {vs : List Nat} {P : List D → List Sl → Prop} {ρ : List Sl} (n : Nat) (h : Nat → D) (hn : n ≤ 100000)
    (step : ∀ i, i < n → ∀ k : D → List Sl → Prop, (∀ ρ3, wipeS ρ3 vs = ρ → k (h i) ρ3) → g (.int (i : Int)) ρ fun ρ1 => fe ρ1 k) (fin : P ((List.range n).map h) ρ) : lcGo g fYes fe vs (rangeD 0 n) [] ρ P := by
  have key : ∀ (m s : Nat) (acc : List D), s + m = n → acc = (List.range s).map h → lcGo g fYes fe vs ((List.range' s m).map fun i => D.int (0 + (i : Nat))) acc ρ P := by
    intro m
    induction m with
    | zero =>
      intro s acc e ea
      have : s = n := by omega
      subst this
      subst ea
      exact fin
    | succ m ih =>
      intro s acc e ea
      rw [List.range'_succ, List.map_cons]
      show g (.int (0 + (s : Nat))) ρ fun ρ1 => _
      rw [Int.zero_add]
      refine step s (by omega) _ fun ρ3 e3 => ⟨?_, ?_⟩
      · rw [ea, List.length_map, List.length_range]; omega
      · rw [e3]
        refine ih (s + 1) _ (by omega) ?_
        rw [ea, List.range_succ, List.map_append]
        rfl
  have := key n 0 [] (by omega) rfl
  unfold rangeD
  rw [List.range_eq_range']
  exact this
theorem zipD_ints : ∀ a b : List Int, zipD (a.map .int) (b.map .int) = List.zipWith (fun x y => D.tup [.int x, .int y]) a b
  | [], _ => by simp [zipD]
  | _ :: _, [] => by simp [zipD]
  | x :: a, y :: b => by
    rw [List.map_cons, List.map_cons, List.zipWith_cons_cons, ← zipD_ints a b]
    rfl
theorem lc_zip {g : FG} {fe : FE} {vs : List Nat} {P : List D → List Sl → Prop} {ρ : List Sl} (h : Int → Int → D) : ∀ (a b : List Int) (acc : List D), acc.length + a.length ≤ 100000 →
    (∀ (x y : Int) (k : D → List Sl → Prop), (∀ ρ3, wipeS ρ3 vs = ρ → k (h x y) ρ3) → g (.tup [.int x, .int y]) ρ fun ρ1 => fe ρ1 k) → P (acc ++ List.zipWith h a b) ρ → lcGo g fYes fe vs (zipD (a.map .int) (b.map .int)) acc ρ P
  | [], _, acc, _, _, fin => by
    rw [List.zipWith_nil_left, List.append_nil] at fin
    exact fin
  | _ :: _, [], acc, _, _, fin => by
    rw [List.zipWith_nil_right, List.append_nil] at fin
    exact fin
  | x :: a, y :: b, acc, hl, step, fin => by
    rw [List.length_cons] at hl
    show g (.tup [.int x, .int y]) ρ fun ρ1 => _
    refine step x y _ fun ρ3 e3 => ⟨by omega, ?_⟩
    rw [e3]
    refine lc_zip h a b _ (by rw [List.length_append, List.length_singleton]; omega) step ?_
    rw [List.append_assoc]
    exact fin
/-! ### tuples and lists of ints, as they are -/
def lstI (L : List Int) : D := .lst (L.map .int)
theorem map_snoc (L : List Int) (l : Int) : (L ++ [l]).map D.int = L.map D.int ++ [D.int l] := by rw [List.map_append]; rfl
theorem ev_gAdd_tupI1 (g : List Int) (l : Int) (P : D → Prop) : gAdd (tupI g) (.tup [.int l]) P = (g.length + 1 ≤ 100000 ∧ P (tupI (g ++ [l]))) := by
  unfold tupI
  rw [ev_gAdd_tup, List.length_map, map_snoc]
  rfl
theorem ev_gAdd_tupI2 (g : List Int) (l : Int) (P : D → Prop) : gAdd (.tup [.int l]) (tupI g) P = (1 + g.length ≤ 100000 ∧ P (tupI (l :: g))) := by
  unfold tupI
  rw [ev_gAdd_tup, List.length_map]
  rfl
theorem ev_gLen_tupI (g : List Int) (P : D → Prop) : gLen [tupI g] P = P (.int g.length) := by unfold tupI; rw [ev_gLen_tup, List.length_map]
theorem ev_gLen_lstI (g : List Int) (P : D → Prop) : gLen [lstI g] P = P (.int g.length) := by unfold lstI; rw [ev_gLen_lst, List.length_map]
theorem ev_tupD_tupI (g : List Int) (P : List D → Prop) : tupD (tupI g) P = P (g.map .int) := rfl
theorem ev_lstD_lstI (g : List Int) (P : List D → Prop) : lstD (lstI g) P = P (g.map .int) := rfl
theorem isi_tupI_tuple (g : List Int) : isiB (tupI g) "tuple" = some true := isi_tup_tuple _
theorem isi_tupI_list (g : List Int) : isiB (tupI g) "list" = some false := isi_tup_list _
theorem isi_tupI_int (g : List Int) : isiB (tupI g) "int" = some false := isi_tup_int _
theorem isi_lstI_list (g : List Int) : isiB (lstI g) "list" = some true := isi_lst_list _
def atN (xs : List Int) (k : Int) : Option Int := (ixN xs.length k).bind (xs[·]?)
theorem atI_map (xs : List Int) (k : Int) : atI (xs.map .int) k = (atN xs k).map D.int := by
  unfold atI atN
  rw [List.length_map]
  cases ixN xs.length k with
  | none => rfl
  | some n => rw [Option.bind_some, Option.bind_some, List.getElem?_map]
theorem ev_gIx_tupI (xs : List Int) (k : Int) (P : D → Prop) : gIx (tupI xs) (.int k) P = optP (atN xs k) fun i => P (.int i) := by
  rw [gIx_eq]
  show optP (atI (xs.map .int) k) P = _
  rw [atI_map]
  cases atN xs k <;> rfl
theorem ev_gIx_lstI (xs : List Int) (k : Int) (P : D → Prop) : gIx (lstI xs) (.int k) P = optP (atN xs k) fun i => P (.int i) := by
  rw [gIx_eq]
  show optP (atI (xs.map .int) k) P = _
  rw [atI_map]
  cases atN xs k <;> rfl
theorem atN_nat {xs : List Int} {k : Nat} (h : k < xs.length) : atN xs (k : Int) = some (xs.getD k 0) := by
  unfold atN ixN
  rw [if_pos (by omega), if_pos (by omega), Option.bind_some]
  rw [List.getElem?_eq_getElem (by simpa using h), List.getD_eq_getElem?_getD, List.getElem?_eq_getElem h]
  simp
theorem ev_lstO_lstI (g : List Int) (P : List D → Prop) : lstO (lstI g) P = P (g.map .int) := rfl
theorem seqL_tupI (xs : List Int) : seqL (tupI xs) = some (xs.map .int) := rfl
theorem ev_gTuple_ints (xs : List Int) (P : D → Prop) : gTuple [.lst (xs.map .int)] P = P (tupI xs) := rfl
theorem ev_pow15 : (10 : Int) ^ Int.toNat 15 = 1000000000000000 := by decide
theorem ev_atI_last (xs : List D) (x : D) : atI (xs ++ [x]) (-1) = some x := by
  unfold atI ixN
  rw [List.length_append, List.length_singleton]
  rw [if_neg (by omega), if_pos (by omega)]
  rw [Option.bind_some]
  have : ((-1 : Int) + ((xs.length + 1 : Nat) : Int)).toNat = xs.length := by omega
  rw [this, List.getElem?_append_right (Nat.le_refl _), Nat.sub_self]
  rfl
theorem cmul_r (i : Int) {j : Int} (h : -(2 ^ 64) < j ∧ j < 2 ^ 64) : CMul i j ∨ CMulW i j := .inl (.inr h)
theorem cmul_l (j : Int) {i : Int} (h : -(2 ^ 64) < i ∧ i < 2 ^ 64) : CMul i j ∨ CMulW i j := .inl (.inl h)
theorem cdivW {i j : Int} (h : 0 < j) (h2 : j < 10 ^ 16) : CDivW i j := wide_div (b := 60) h (by omega) (by decide) (by decide)
theorem cpow10 {j : Int} (h : 0 ≤ j) (h2 : j ≤ 1000000) : CPow 10 j := ⟨h, h2, by decide⟩
theorem gList_seq (x : D) (xs : List D) (P : D → Prop) (h : seqL x = some xs) : gList [x] P = P (.lst xs) := by
  cases x with
  | lst ys => cases h; exact propext ⟨fun ⟨_, e, h⟩ => by cases e; exact h, fun h => ⟨_, rfl, h⟩⟩
  | tup ys => cases h; exact propext ⟨fun ⟨_, e, h⟩ => by cases e; exact h, fun h => ⟨_, rfl, h⟩⟩
  | rol ys => cases h; exact propext ⟨fun ⟨_, e, h⟩ => by cases e; exact h, fun h => ⟨_, rfl, h⟩⟩
  | _ => cases h
theorem ev_gList_lst (xs : List D) (P : D → Prop) : gList [.lst xs] P = P (.lst xs) := gList_seq _ _ P rfl
theorem ev_gList_tup (xs : List D) (P : D → Prop) : gList [.tup xs] P = P (.lst xs) := gList_seq _ _ P rfl
theorem ev_gList_rol (xs : List D) (P : D → Prop) : gList [.rol xs] P = P (.lst xs) := gList_seq _ _ P rfl
theorem ev_gList_tupI (xs : List Int) (P : D → Prop) : gList [tupI xs] P = P (lstI xs) := gList_seq _ _ P rfl
theorem ev_gSl_tupI (xs : List Int) (l h : Option Int) (P : D → Prop) : gSl (tupI xs) l h P = P (.tup (cutD (xs.map .int) l h)) := rfl
theorem isi_lstI_tuple (g : List Int) : isiB (lstI g) "tuple" = some false := isi_lst_tuple _
theorem mem_cutD {ds : List D} {l h : Option Int} {x : D} (m : x ∈ cutD ds l h) : x ∈ ds := List.mem_of_mem_drop (List.mem_of_mem_take m)
theorem ev_gLt_tupI (a b : List Int) (P : D → Prop) : gLt (tupI a) (tupI b) P = P (.bl (HT.lexLt a b)) := by
  show (intsD (a.map .int) fun is => intsD (b.map .int) fun js => P (.bl (HT.lexLt is js))) = _
  rw [intsD_eq, intsD_eq]
theorem atI_mapN {α : Type} (f : α → D) {xs : List α} {k : Nat} {x : α} (h : xs[k]? = some x) : atI (xs.map f) (k : Int) = some (f x) := by
  rw [atI_nn, List.getElem?_map, h]
  rfl
theorem look_some {κ : Type} [DecidableEq κ] (k : κ) : ∀ (ks : List κ) (vs : List D), vs.length = ks.length → (look ks vs k).isSome = decide (k ∈ ks)
  | [], [], _ => by rw [decide_eq_false (fun h => nomatch h)]; rfl
  | k' :: ks, v :: vs, h => by
    unfold look
    by_cases e : k' = k
    · rw [if_pos e, decide_eq_true (by rw [e]; exact List.mem_cons_self)]
      rfl
    · rw [if_neg e, look_some k ks vs (Nat.succ.inj h)]
      refine decide_eq_decide.mpr ⟨fun h => List.mem_cons_of_mem _ h, fun h => ?_⟩
      rcases List.mem_cons.mp h with h | h
      · exact absurd h.symm e
      · exact h
theorem look_mem {κ : Type} [DecidableEq κ] {k : κ} {ks : List κ} {vs : List D} (h : vs.length = ks.length) (hk : k ∈ ks) : (look ks vs k).isSome = true := by
  rw [look_some k ks vs h]
  exact decide_eq_true hk
theorem repl_len {κ : Type} [DecidableEq κ] (k : κ) (x : D) : ∀ (ks : List κ) (vs : List D), vs.length = ks.length → (replV ks vs k x).length = ks.length
  | [], [], _ => rfl
  | k' :: ks, v :: vs, h => by
    unfold replV
    rw [List.length_cons, List.length_cons, repl_len k x ks vs (Nat.succ.inj h)]
theorem put_len {κ : Type} [DecidableEq κ] {k : κ} {x : D} {ks : List κ} {vs : List D} (h : vs.length = ks.length) : (putVs ks vs k x).length = (putKs ks k).length := by
  unfold putVs putKs
  split
  · exact repl_len k x ks vs h
  · rw [List.length_append, List.length_append, h]; rfl
theorem lex_tot : ∀ a b : List Int, HT.lexLt a b = false → HT.lexLt b a = false → a = b
  | [], [], _, _ => rfl
  | [], _ :: _, h, _ => (nomatch h)
  | _ :: _, [], _, h => (nomatch h)
  | x :: a, y :: b, h1, h2 => by
    rw [HT.lexLt_cons] at h1 h2
    by_cases e : x = y
    · subst e
      rw [if_pos rfl] at h1 h2
      rw [lex_tot a b h1 h2]
    · rw [if_neg e] at h1
      rw [if_neg (Ne.symm e)] at h2
      have := of_decide_eq_false h1
      have := of_decide_eq_false h2
      omega
/-- a slice, of any list -/
def cutL {α : Type} (xs : List α) (l h : Option Int) : List α := (xs.drop (HT.sIx xs.length 0 l)).take (HT.sIx xs.length xs.length h - HT.sIx xs.length 0 l)
theorem cutD_map {α : Type} (f : α → D) (xs : List α) (l h : Option Int) : cutD (xs.map f) l h = (cutL xs l h).map f := by
  unfold cutD cutL
  rw [List.length_map, ← List.map_drop, ← List.map_take]
theorem mem_cutL {α : Type} {xs : List α} {l h : Option Int} {x : α} (m : x ∈ cutL xs l h) : x ∈ xs := List.mem_of_mem_drop (List.mem_of_mem_take m)
theorem len_cutL {α : Type} (xs : List α) (l h : Option Int) : (cutL xs l h).length ≤ xs.length := by
  unfold cutL
  rw [List.length_take, List.length_drop]
  omega
theorem ev_gSumL (bs : List Int) (P : D → Prop) : gSumL [.lst (bs.map .int)] P = P (.int bs.sum) := intsD_eq bs _
theorem ev_keysD_dT (ks : List (List Key)) (vs : List D) (P : List D → Prop) : keysD (.dT ks vs) P = P (ks.map fun k => .tup (k.map kD)) := rfl
theorem ev_keysD_dK (ks : List Key) (vs : List D) (P : List D → Prop) : keysD (.dK ks vs) P = P (ks.map kD) := rfl
/-! ### loops over mapped lists -/
theorem lc_mapT {α : Type} {g : FG} {fe : FE} {vs : List Nat} {P : List D → List Sl → Prop} {ρ : List Sl} (f F : α → D) : ∀ (xs : List α) (acc : List D), acc.length + xs.length ≤ 100000 →
    (∀ x ∈ xs, ∀ k : D → List Sl → Prop, (∀ ρ3, wipeS ρ3 vs = ρ → k (F x) ρ3) → g (f x) ρ fun ρ1 => fe ρ1 k) → P (acc ++ xs.map F) ρ → lcGo g fYes fe vs (xs.map f) acc ρ P
  | [], acc, _, _, h => by
    rw [List.map_nil, List.append_nil] at h
    exact h
  | x :: xs, acc, hl, hs, h => by
    rw [List.length_cons] at hl
    show g (f x) ρ fun ρ1 => fYes ρ1 fun b ρ2 => _
    refine hs x List.mem_cons_self _ fun ρ3 e => ?_
    refine ⟨by omega, ?_⟩
    rw [e]
    refine lc_mapT f F xs (acc ++ [F x]) (by rw [List.length_append, List.length_singleton]; omega) (fun y hy => hs y (List.mem_cons_of_mem _ hy)) ?_
    rw [List.append_assoc]
    exact h
theorem for_invT {α : Type} {g : FG} {B : FS} {P : Fl → Prop} (f : α → D) (I : Nat → List Sl → Prop) (xs : List α) (ρ : List Sl) (h0 : I 0 ρ)
    (hs : ∀ (j : Nat) (x : α) (ρ : List Sl), xs[j]? = some x → I j ρ → ∀ k : Fl → Prop, (∀ ρ', I (j + 1) ρ' → k (.nx ρ') ∧ k (.ct ρ')) → (∀ ρ', P (.nx ρ') → k (.bk ρ')) → (∀ d ρ', P (.rt d ρ') → k (.rt d ρ')) → (∀ d ρ', P (.rf d ρ') → k (.rf d ρ')) →
      g (f x) ρ fun ρ1 => B ρ1 k) (hd : ∀ ρ, I xs.length ρ → P (.nx ρ)) : forGo g B (xs.map f) ρ P := by
  refine for_inv I _ 0 ρ h0 (fun j d ρ hj hI k h1 h2 h3 h4 => ?_) (fun ρ hI => hd ρ ?_)
  · rw [List.getElem?_map] at hj
    cases q : xs[j]? with
    | none => rw [q] at hj; cases hj
    | some x =>
      rw [q] at hj
      cases hj
      rw [Nat.zero_add] at hI
      refine hs j x ρ q hI k (fun ρ' h => h1 ρ' ?_) h2 h3 h4
      rw [Nat.zero_add]
      exact h
  · rw [Nat.zero_add, List.length_map] at hI
    exact hI
theorem for_invD {g : FG} {B : FS} {P : Fl → Prop} (I : Nat → List Sl → Prop) (xs : List D) (ρ : List Sl) (h0 : I 0 ρ)
    (hs : ∀ (j : Nat) (x : D) (ρ : List Sl), xs[j]? = some x → I j ρ → ∀ k : Fl → Prop, (∀ ρ', I (j + 1) ρ' → k (.nx ρ') ∧ k (.ct ρ')) → (∀ ρ', P (.nx ρ') → k (.bk ρ')) → (∀ d ρ', P (.rt d ρ') → k (.rt d ρ')) → (∀ d ρ', P (.rf d ρ') → k (.rf d ρ')) →
      g x ρ fun ρ1 => B ρ1 k) (hd : ∀ ρ, I xs.length ρ → P (.nx ρ)) : forGo g B xs ρ P := by
  have := for_invT id I xs ρ h0 hs hd
  rw [List.map_id] at this
  exact this
theorem for_range {g : FG} {B : FS} {P : Fl → Prop} (I : Nat → List Sl → Prop) (lo : Int) (n : Nat) (ρ : List Sl) (h0 : I 0 ρ)
    (hs : ∀ (j : Nat) (ρ : List Sl), j < n → I j ρ → ∀ k : Fl → Prop, (∀ ρ', I (j + 1) ρ' → k (.nx ρ') ∧ k (.ct ρ')) → (∀ ρ', P (.nx ρ') → k (.bk ρ')) → (∀ d ρ', P (.rt d ρ') → k (.rt d ρ')) → (∀ d ρ', P (.rf d ρ') → k (.rf d ρ')) →
      g (.int (lo + j)) ρ fun ρ1 => B ρ1 k) (hd : ∀ ρ, I n ρ → P (.nx ρ)) : forGo g B (rangeD lo n) ρ P := by
  refine for_inv I _ 0 ρ h0 (fun j d ρ hj hI k h1 h2 h3 h4 => ?_) (fun ρ hI => hd ρ ?_)
  · obtain ⟨hj', rfl⟩ := rangeD_get hj
    rw [Nat.zero_add] at hI
    refine hs j ρ hj' hI k (fun ρ' h => h1 ρ' ?_) h2 h3 h4
    rw [Nat.zero_add]
    exact h
  · rw [Nat.zero_add, rangeD_len] at hI
    exact hI
theorem lc_invT {α : Type} {g : FG} {t : FT} {fe : FE} {vs : List Nat} {P : List D → List Sl → Prop} (f : α → D) (I : Nat → List D → List Sl → Prop) (xs : List α) (ρ : List Sl) (h0 : I 0 [] ρ)
    (hs : ∀ (j : Nat) (x : α) (acc : List D) (ρ : List Sl), xs[j]? = some x → I j acc ρ → ∀ k : List D → List Sl → Prop, (∀ acc' ρ', I (j + 1) acc' ρ' → k acc' ρ') →
      g (f x) ρ fun ρ1 => t ρ1 fun b ρ2 => if b = true then fe ρ2 fun x ρ3 => acc.length < 100000 ∧ k (acc ++ [x]) (wipeS ρ3 vs) else k acc (wipeS ρ2 vs))
    (hd : ∀ acc ρ, I xs.length acc ρ → P acc ρ) : lcGo g t fe vs (xs.map f) [] ρ P := by
  refine lc_inv I _ 0 [] ρ h0 (fun j d acc ρ hj hI k h1 => ?_) (fun acc ρ hI => hd acc ρ ?_)
  · rw [List.getElem?_map] at hj
    cases q : xs[j]? with
    | none => rw [q] at hj; cases hj
    | some x =>
      rw [q] at hj
      cases hj
      rw [Nat.zero_add] at hI
      refine hs j x acc ρ q hI k fun acc' ρ' h => h1 acc' ρ' ?_
      rw [Nat.zero_add]
      exact h
  · rw [Nat.zero_add, List.length_map] at hI
    exact hI
theorem lc_rangeI {g : FG} {t : FT} {fe : FE} {vs : List Nat} {P : List D → List Sl → Prop} (I : Nat → List D → List Sl → Prop) (lo : Int) (n : Nat) (ρ : List Sl) (h0 : I 0 [] ρ)
    (hs : ∀ (j : Nat) (acc : List D) (ρ : List Sl), j < n → I j acc ρ → ∀ k : List D → List Sl → Prop, (∀ acc' ρ', I (j + 1) acc' ρ' → k acc' ρ') →
      g (.int (lo + j)) ρ fun ρ1 => t ρ1 fun b ρ2 => if b = true then fe ρ2 fun x ρ3 => acc.length < 100000 ∧ k (acc ++ [x]) (wipeS ρ3 vs) else k acc (wipeS ρ2 vs))
    (hd : ∀ acc ρ, I n acc ρ → P acc ρ) : lcGo g t fe vs (rangeD lo n) [] ρ P := by
  refine lc_inv I _ 0 [] ρ h0 (fun j d acc ρ hj hI k h1 => ?_) (fun acc ρ hI => hd acc ρ ?_)
  · obtain ⟨hj', rfl⟩ := rangeD_get hj
    rw [Nat.zero_add] at hI
    refine hs j acc ρ hj' hI k fun acc' ρ' h => h1 acc' ρ' ?_
    rw [Nat.zero_add]
    exact h
  · rw [Nat.zero_add, rangeD_len] at hI
    exact hI
theorem bool_if {b : Bool} {A B : Prop} (h1 : b = true → A) (h2 : b = false → B) : if b = true then A else B := by
  cases b with
  | true => rw [if_pos rfl]; exact h1 rfl
  | false => rw [if_neg Bool.false_ne_true]; exact h2 rfl
theorem bool_ifF {b : Bool} {A B : Prop} (h1 : b = false → A) (h2 : b = true → B) : if b = false then A else B := by
  cases b with
  | false => rw [if_pos rfl]; exact h1 rfl
  | true => rw [if_neg (fun h => nomatch h)]; exact h2 rfl
end DL

/-! DLC: evaluation, head first (printed by mkC.py). -/
namespace DL
open PySem L2
inductive Tg {α : Type} (a : α) : Type | mk
def AP1 {β : Type} (m : (β → Prop) → Prop) (P : β → Prop) (_t : Tg P) : Prop := m P
def AP2 {β γ : Type} (m : (β → γ → Prop) → Prop) (P : β → γ → Prop) (_t : Tg P) : Prop := m P
def BR (b : Bool) (A B : Unit → Prop) (_t : Tg A) (_u : Tg B) : Prop := if b = true then A () else B ()
theorem AP1_eq {β : Type} (m : (β → Prop) → Prop) (P : β → Prop) (t : Tg P) : AP1 m P t = m P := propext (iff_of_eq rfl)
theorem AP2_eq {β γ : Type} (m : (β → γ → Prop) → Prop) (P : β → γ → Prop) (t : Tg P) : AP2 m P t = m P := propext (iff_of_eq rfl)
theorem BR_eq (b : Bool) (A B : Unit → Prop) (t : Tg A) (u : Tg B) : BR b A B t u = if b = true then A () else B () := propext (iff_of_eq rfl)
def slotQ (o : Option Sl) (P : Bool × D → Prop) : Prop := match o with
  | some (.val d) => P (true, d)
  | some (.own d) => P (false, d)
  | _ => False
theorem ex_optP {α : Type} (o : Option α) (P : α → Prop) : (∃ n, o = some n ∧ P n) = optP o P := by
  cases o with
  | none => exact propext ⟨fun ⟨_, e, _⟩ => (nomatch e), fun h => (show False from h).elim⟩
  | some a => exact propext ⟨fun ⟨_, e, h⟩ => by cases e; exact h, fun h => ⟨_, rfl, h⟩⟩
theorem asKs_ints : ∀ xs : List Int, asKs (xs.map .int) = some (xs.map .inl)
  | [] => rfl
  | x :: xs => by
    rw [List.map_cons, asKs, asKs_ints xs]
    rfl
theorem w_fVar {i ρ P} : fVar i ρ P = AP2 (fVar i ρ) P .mk := propext (iff_of_eq (rfl))
theorem c_fVar {i ρ P} {tg : Tg P} : AP2 (fVar i ρ) P tg = (AP1 (slotQ ρ[i]?) (fun q => BR q.1 (fun _ => P q.2 ρ) (fun _ => P q.2 (ρ.set i (.val q.2))) .mk .mk) .mk) := propext (iff_of_eq (by
  show fVar i ρ P = _
  rw [ev_fVar_eq]
  cases ρ[i]? with
  | none => rfl
  | some s => cases s <;> rfl))
theorem w_fC {d ρ P} : fC d ρ P = AP2 (fC d ρ) P .mk := propext (iff_of_eq (rfl))
theorem c_fC {d ρ P} {tg : Tg P} : AP2 (fC d ρ) P tg = (P d ρ) := propext (iff_of_eq (rfl))
theorem w_fOp {g fx fy ρ P} : fOp g fx fy ρ P = AP2 (fOp g fx fy ρ) P .mk := propext (iff_of_eq (rfl))
theorem c_fOp {g fx fy ρ P} {tg : Tg P} : AP2 (fOp g fx fy ρ) P tg = (AP2 (fx ρ) (fun x ρ1 => AP2 (fy ρ1) (fun y ρ2 => AP1 (g x y) (fun z => P z ρ2) .mk) .mk) .mk) := propext (iff_of_eq (rfl))
theorem w_fTst {f ρ P} : fTst f ρ P = AP2 (fTst f ρ) P .mk := propext (iff_of_eq (rfl))
theorem c_fTst {f ρ P} {tg : Tg P} : AP2 (fTst f ρ) P tg = (AP2 (f ρ) (fun d ρ1 => AP1 (asB d) (fun b => P b ρ1) .mk) .mk) := propext (iff_of_eq (rfl))
theorem w_fAnd {t u ρ P} : fAnd t u ρ P = AP2 (fAnd t u ρ) P .mk := propext (iff_of_eq (rfl))
theorem c_fAnd {t u ρ P} {tg : Tg P} : AP2 (fAnd t u ρ) P tg = (AP2 (t ρ) (fun b ρ1 => BR b (fun _ => AP2 (u ρ1) P .mk) (fun _ => P false ρ1) .mk .mk) .mk) := propext (iff_of_eq (rfl))
theorem w_fOr {t u ρ P} : fOr t u ρ P = AP2 (fOr t u ρ) P .mk := propext (iff_of_eq (rfl))
theorem c_fOr {t u ρ P} {tg : Tg P} : AP2 (fOr t u ρ) P tg = (AP2 (t ρ) (fun b ρ1 => BR b (fun _ => P true ρ1) (fun _ => AP2 (u ρ1) P .mk) .mk .mk) .mk) := propext (iff_of_eq (rfl))
theorem w_fNot {t ρ P} : fNot t ρ P = AP2 (fNot t ρ) P .mk := propext (iff_of_eq (rfl))
theorem c_fNot {t ρ P} {tg : Tg P} : AP2 (fNot t ρ) P tg = (AP2 (t ρ) (fun b ρ1 => P (!b) ρ1) .mk) := propext (iff_of_eq (rfl))
theorem w_fAndV {f g ρ P} : fAndV f g ρ P = AP2 (fAndV f g ρ) P .mk := propext (iff_of_eq (rfl))
theorem c_fAndV {f g ρ P} {tg : Tg P} : AP2 (fAndV f g ρ) P tg = (AP2 (f ρ) (fun d ρ1 => AP1 (asB d) (fun b => BR b (fun _ => AP2 (g ρ1) P .mk) (fun _ => P (.bl false) ρ1) .mk .mk) .mk) .mk) := propext (iff_of_eq (rfl))
theorem w_fOrV {f g ρ P} : fOrV f g ρ P = AP2 (fOrV f g ρ) P .mk := propext (iff_of_eq (rfl))
theorem c_fOrV {f g ρ P} {tg : Tg P} : AP2 (fOrV f g ρ) P tg = (AP2 (f ρ) (fun d ρ1 => AP1 (asB d) (fun b => BR b (fun _ => P (.bl true) ρ1) (fun _ => AP2 (g ρ1) P .mk) .mk .mk) .mk) .mk) := propext (iff_of_eq (rfl))
theorem w_fNotV {f ρ P} : fNotV f ρ P = AP2 (fNotV f ρ) P .mk := propext (iff_of_eq (rfl))
theorem c_fNotV {f ρ P} {tg : Tg P} : AP2 (fNotV f ρ) P tg = (AP2 (f ρ) (fun d ρ1 => AP1 (asB d) (fun b => P (.bl (!b)) ρ1) .mk) .mk) := propext (iff_of_eq (rfl))
theorem w_fIf {t f g ρ P} : fIf t f g ρ P = AP2 (fIf t f g ρ) P .mk := propext (iff_of_eq (rfl))
theorem c_fIf {t f g ρ P} {tg : Tg P} : AP2 (fIf t f g ρ) P tg = (AP2 (t ρ) (fun b ρ1 => BR b (fun _ => AP2 (f ρ1) P .mk) (fun _ => AP2 (g ρ1) P .mk) .mk .mk) .mk) := propext (iff_of_eq (rfl))
theorem w_fUn {g fx ρ P} : fUn g fx ρ P = AP2 (fUn g fx ρ) P .mk := propext (iff_of_eq (rfl))
theorem c_fUn {g fx ρ P} {tg : Tg P} : AP2 (fUn g fx ρ) P tg = (AP2 (fx ρ) (fun x ρ1 => AP1 (g x) (fun z => P z ρ1) .mk) .mk) := propext (iff_of_eq (rfl))
theorem w_fNil {ρ P} : fNil ρ P = AP2 (fNil ρ) P .mk := propext (iff_of_eq (rfl))
theorem c_fNil {ρ P} {tg : Tg P} : AP2 (fNil ρ) P tg = (P [] ρ) := propext (iff_of_eq (rfl))
theorem w_fCons {f fs ρ P} : fCons f fs ρ P = AP2 (fCons f fs ρ) P .mk := propext (iff_of_eq (rfl))
theorem c_fCons {f fs ρ P} {tg : Tg P} : AP2 (fCons f fs ρ) P tg = (AP2 (f ρ) (fun d ρ1 => AP2 (fs ρ1) (fun ds ρ2 => P (d :: ds) ρ2) .mk) .mk) := propext (iff_of_eq (rfl))
theorem w_fTup {fs ρ P} : fTup fs ρ P = AP2 (fTup fs ρ) P .mk := propext (iff_of_eq (rfl))
theorem c_fTup {fs ρ P} {tg : Tg P} : AP2 (fTup fs ρ) P tg = (AP2 (fs ρ) (fun ds ρ1 => ds.length ≤ 100000 ∧ P (.tup ds) ρ1) .mk) := propext (iff_of_eq (rfl))
theorem w_fLst {fs ρ P} : fLst fs ρ P = AP2 (fLst fs ρ) P .mk := propext (iff_of_eq (rfl))
theorem c_fLst {fs ρ P} {tg : Tg P} : AP2 (fLst fs ρ) P tg = (AP2 (fs ρ) (fun ds ρ1 => ds.length ≤ 100000 ∧ P (.lst ds) ρ1) .mk) := propext (iff_of_eq (rfl))
theorem w_fCall {g fs ρ P} : fCall g fs ρ P = AP2 (fCall g fs ρ) P .mk := propext (iff_of_eq (rfl))
theorem c_fCall {g fs ρ P} {tg : Tg P} : AP2 (fCall g fs ρ) P tg = (AP2 (fs ρ) (fun ds ρ1 => AP1 (g ds) (fun d => P d ρ1) .mk) .mk) := propext (iff_of_eq (rfl))
theorem w_fVarF {i ρ P} : fVarF i ρ P = AP2 (fVarF i ρ) P .mk := propext (iff_of_eq (rfl))
theorem c_fVarF {i ρ P} {tg : Tg P} : AP2 (fVarF i ρ) P tg = (AP1 (slotO ρ[i]?) (fun d => P d (ρ.set i .non)) .mk) := propext (iff_of_eq (rfl))
theorem w_fPure {f ρ P} : fPure f ρ P = AP2 (fPure f ρ) P .mk := propext (iff_of_eq (rfl))
theorem c_fPure {f ρ P} {tg : Tg P} : AP2 (fPure f ρ) P tg = (AP2 (f (ρ.map frz)) (fun d _ => scalD d = true ∧ P d ρ) .mk) := propext (iff_of_eq (rfl))
theorem w_fPureT {f ρ P} : fPureT f ρ P = AP2 (fPureT f ρ) P .mk := propext (iff_of_eq (rfl))
theorem c_fPureT {f ρ P} {tg : Tg P} : AP2 (fPureT f ρ) P tg = (AP2 (f (ρ.map frz)) (fun b _ => P b ρ) .mk) := propext (iff_of_eq (rfl))
theorem w_fNext {ρ P} : fNext ρ P = AP1 (fNext ρ) P .mk := propext (iff_of_eq (rfl))
theorem c_fNext {ρ P} {tg : Tg P} : AP1 (fNext ρ) P tg = (P (.nx ρ)) := propext (iff_of_eq (rfl))
theorem w_fSeq {F G ρ P} : fSeq F G ρ P = AP1 (fSeq F G ρ) P .mk := propext (iff_of_eq (rfl))
theorem c_fSeq {F G ρ P} {tg : Tg P} : AP1 (fSeq F G ρ) P tg = (AP1 (F ρ) (andThen G P) .mk) := propext (iff_of_eq (rfl))
theorem w_fBrk {ρ P} : fBrk ρ P = AP1 (fBrk ρ) P .mk := propext (iff_of_eq (rfl))
theorem c_fBrk {ρ P} {tg : Tg P} : AP1 (fBrk ρ) P tg = (P (.bk ρ)) := propext (iff_of_eq (rfl))
theorem w_fCnt {ρ P} : fCnt ρ P = AP1 (fCnt ρ) P .mk := propext (iff_of_eq (rfl))
theorem c_fCnt {ρ P} {tg : Tg P} : AP1 (fCnt ρ) P tg = (P (.ct ρ)) := propext (iff_of_eq (rfl))
theorem w_fDrop {f ρ P} : fDrop f ρ P = AP1 (fDrop f ρ) P .mk := propext (iff_of_eq (rfl))
theorem c_fDrop {f ρ P} {tg : Tg P} : AP1 (fDrop f ρ) P tg = (AP2 (f ρ) (fun _ ρ1 => P (.nx ρ1)) .mk) := propext (iff_of_eq (rfl))
theorem w_fRet {f ρ P} : fRet f ρ P = AP1 (fRet f ρ) P .mk := propext (iff_of_eq (rfl))
theorem c_fRet {f ρ P} {tg : Tg P} : AP1 (fRet f ρ) P tg = (AP2 (f ρ) (fun d ρ1 => P (.rt d ρ1)) .mk) := propext (iff_of_eq (rfl))
theorem w_fRetF {f ρ P} : fRetF f ρ P = AP1 (fRetF f ρ) P .mk := propext (iff_of_eq (rfl))
theorem c_fRetF {f ρ P} {tg : Tg P} : AP1 (fRetF f ρ) P tg = (AP2 (f ρ) (fun d ρ1 => P (.rf d ρ1)) .mk) := propext (iff_of_eq (rfl))
theorem w_fRetN {ρ P} : fRetN ρ P = AP1 (fRetN ρ) P .mk := propext (iff_of_eq (rfl))
theorem c_fRetN {ρ P} {tg : Tg P} : AP1 (fRetN ρ) P tg = (P (.rt .non ρ)) := propext (iff_of_eq (rfl))
theorem w_fIfS {t F G ρ P} : fIfS t F G ρ P = AP1 (fIfS t F G ρ) P .mk := propext (iff_of_eq (rfl))
theorem c_fIfS {t F G ρ P} {tg : Tg P} : AP1 (fIfS t F G ρ) P tg = (AP2 (t ρ) (fun b ρ1 => BR b (fun _ => AP1 (F ρ1) P .mk) (fun _ => AP1 (G ρ1) P .mk) .mk .mk) .mk) := propext (iff_of_eq (rfl))
theorem w_fSet {i f ρ P} : fSet i f ρ P = AP1 (fSet i f ρ) P .mk := propext (iff_of_eq (rfl))
theorem c_fSet {i f ρ P} {tg : Tg P} : AP1 (fSet i f ρ) P tg = (AP2 (f ρ) (fun d ρ1 => P (.nx (ρ1.set i (.val d)))) .mk) := propext (iff_of_eq (rfl))
theorem w_fSetF {i f ρ P} : fSetF i f ρ P = AP1 (fSetF i f ρ) P .mk := propext (iff_of_eq (rfl))
theorem c_fSetF {i f ρ P} {tg : Tg P} : AP1 (fSetF i f ρ) P tg = (AP2 (f ρ) (fun d ρ1 => P (.nx (ρ1.set i (.own d)))) .mk) := propext (iff_of_eq (rfl))
theorem w_gdName {i d ρ P} : gdName i d ρ P = AP1 (gdName i d ρ) P .mk := propext (iff_of_eq (rfl))
theorem c_gdName {i d ρ P} {tg : Tg P} : AP1 (gdName i d ρ) P tg = (P (ρ.set i (.val d))) := propext (iff_of_eq (rfl))
theorem w_gdNil {ds ρ P} : gdNil ds ρ P = AP1 (gdNil ds ρ) P .mk := propext (iff_of_eq (rfl))
theorem w_gdCons {f fs ds ρ P} : gdCons f fs ds ρ P = AP1 (gdCons f fs ds ρ) P .mk := propext (iff_of_eq (rfl))
theorem w_gdTup {n fs d ρ P} : gdTup n fs d ρ P = AP1 (gdTup n fs d ρ) P .mk := propext (iff_of_eq (rfl))
theorem w_fSeqI {f ρ P} : fSeqI f ρ P = AP2 (fSeqI f ρ) P .mk := propext (iff_of_eq (rfl))
theorem c_fSeqI {f ρ P} {tg : Tg P} : AP2 (fSeqI f ρ) P tg = (AP2 (f ρ) (fun d ρ1 => AP1 (seqD d) (fun ds => P ds ρ1) .mk) .mk) := propext (iff_of_eq (rfl))
theorem w_fLstI {f ρ P} : fLstI f ρ P = AP2 (fLstI f ρ) P .mk := propext (iff_of_eq (rfl))
theorem c_fLstI {f ρ P} {tg : Tg P} : AP2 (fLstI f ρ) P tg = (AP2 (f ρ) (fun d ρ1 => AP1 (lstD d) (fun ds => P ds ρ1) .mk) .mk) := propext (iff_of_eq (rfl))
theorem w_fTupI {f ρ P} : fTupI f ρ P = AP2 (fTupI f ρ) P .mk := propext (iff_of_eq (rfl))
theorem c_fTupI {f ρ P} {tg : Tg P} : AP2 (fTupI f ρ) P tg = (AP2 (f ρ) (fun d ρ1 => AP1 (tupD d) (fun ds => P ds ρ1) .mk) .mk) := propext (iff_of_eq (rfl))
theorem w_fRng1 {fs ρ P} : fRng1 fs ρ P = AP2 (fRng1 fs ρ) P .mk := propext (iff_of_eq (rfl))
theorem c_fRng1 {fs ρ P} {tg : Tg P} : AP2 (fRng1 fs ρ) P tg = (AP2 (fs ρ) (fun ds ρ1 => AP1 (rng1 ds) (fun xs => P xs ρ1) .mk) .mk) := propext (iff_of_eq (ev_fRng1_int fs ρ P))
theorem w_fRng2 {fs ρ P} : fRng2 fs ρ P = AP2 (fRng2 fs ρ) P .mk := propext (iff_of_eq (rfl))
theorem c_fRng2 {fs ρ P} {tg : Tg P} : AP2 (fRng2 fs ρ) P tg = (AP2 (fs ρ) (fun ds ρ1 => AP1 (rng2 ds) (fun xs => P xs ρ1) .mk) .mk) := propext (iff_of_eq (ev_fRng2_int fs ρ P))
theorem w_fZip {fs ρ P} : fZip fs ρ P = AP2 (fZip fs ρ) P .mk := propext (iff_of_eq (rfl))
theorem c_fZip {fs ρ P} {tg : Tg P} : AP2 (fZip fs ρ) P tg = (AP2 (fs ρ) (fun ds ρ1 => AP1 (zip2 ds) (fun xs => P xs ρ1) .mk) .mk) := propext (iff_of_eq (ev_fZip_eq fs ρ P))
theorem w_fFor {i g B ρ P} : fFor i g B ρ P = AP1 (fFor i g B ρ) P .mk := propext (iff_of_eq (rfl))
theorem c_fFor {i g B ρ P} {tg : Tg P} : AP1 (fFor i g B ρ) P tg = (AP2 (i ρ) (fun ds ρ1 => AP1 (forGo g B ds ρ1) P .mk) .mk) := propext (iff_of_eq (rfl))
theorem w_fYes {ρ P} : fYes ρ P = AP2 (fYes ρ) P .mk := propext (iff_of_eq (rfl))
theorem c_fYes {ρ P} {tg : Tg P} : AP2 (fYes ρ) P tg = (P true ρ) := propext (iff_of_eq (rfl))
theorem w_fLc {i g t fe vs ρ P} : fLc i g t fe vs ρ P = AP2 (fLc i g t fe vs ρ) P .mk := propext (iff_of_eq (rfl))
theorem c_fLc {i g t fe vs ρ P} {tg : Tg P} : AP2 (fLc i g t fe vs ρ) P tg = (AP2 (i ρ) (fun ds ρ1 => AP2 (lcGo g t fe vs ds [] (wipeS ρ1 vs)) (fun acc ρ2 => P (.lst acc) ρ2) .mk) .mk) := propext (iff_of_eq (rfl))
theorem w_fCallP {n g fs ρ P} : fCallP n g fs ρ P = AP2 (fCallP n g fs ρ) P .mk := propext (iff_of_eq (rfl))
theorem c_fCallP {n g fs ρ P} {tg : Tg P} : AP2 (fCallP n g fs ρ) P tg = (AP2 (fs ρ) (fun ds ρ1 => ds.length = n ∧ AP1 (g ds) (fun d => P d ρ1) .mk) .mk) := propext (iff_of_eq (rfl))
theorem w_fCallI {i n g fs ρ P} : fCallI i n g fs ρ P = AP2 (fCallI i n g fs ρ) P .mk := propext (iff_of_eq (rfl))
theorem c_fCallI {i n g fs ρ P} {tg : Tg P} : AP2 (fCallI i n g fs ρ) P tg = (AP1 (ownD ρ i) (fun _ => AP2 (fs ρ) (fun ds ρ1 => ds.length = n ∧ AP1 (ownD ρ1 i) (fun c => AP2 (g c ds) (fun d c' => P d (ρ1.set i (.own c'))) .mk) .mk) .mk) .mk) := propext (iff_of_eq (rfl))
theorem w_fPN {ρ P} : fPN ρ P = AP2 (fPN ρ) P .mk := propext (iff_of_eq (rfl))
theorem c_fPN {ρ P} {tg : Tg P} : AP2 (fPN ρ) P tg = (P none ρ) := propext (iff_of_eq (rfl))
theorem w_fPS {f ρ P} : fPS f ρ P = AP2 (fPS f ρ) P .mk := propext (iff_of_eq (rfl))
theorem c_fPS {f ρ P} {tg : Tg P} : AP2 (fPS f ρ) P tg = (AP2 (f ρ) (fun d ρ1 => AP1 (asI d) (fun i => P (some i) ρ1) .mk) .mk) := propext (iff_of_eq (rfl))
theorem w_fSl {f lo hi ρ P} : fSl f lo hi ρ P = AP2 (fSl f lo hi ρ) P .mk := propext (iff_of_eq (rfl))
theorem c_fSl {f lo hi ρ P} {tg : Tg P} : AP2 (fSl f lo hi ρ) P tg = (AP2 (f ρ) (fun d ρ1 => AP2 (lo ρ1) (fun l ρ2 => AP2 (hi ρ2) (fun h ρ3 => AP1 (gSl d l h) (fun x => P x ρ3) .mk) .mk) .mk) .mk) := propext (iff_of_eq (rfl))
theorem w_fDGet {fd fy ρ P} : fDGet fd fy ρ P = AP2 (fDGet fd fy ρ) P .mk := propext (iff_of_eq (rfl))
theorem c_fDGet {fd fy ρ P} {tg : Tg P} : AP2 (fDGet fd fy ρ) P tg = (AP2 (fd ρ) (fun d ρ1 => AP2 (fy ρ1) (fun y ρ2 => AP1 (dlook d y) (fun o => AP1 (optP o) (fun x => P x ρ2) .mk) .mk) .mk) .mk) := propext (iff_of_eq (by
  unfold fDGet AP2
  simp only [ex_optP]
  rfl))
theorem w_fDIn {neg fy fd ρ P} : fDIn neg fy fd ρ P = AP2 (fDIn neg fy fd ρ) P .mk := propext (iff_of_eq (rfl))
theorem c_fDIn {neg fy fd ρ P} {tg : Tg P} : AP2 (fDIn neg fy fd ρ) P tg = (AP2 (fy ρ) (fun y ρ1 => AP2 (fd ρ1) (fun d ρ2 => AP1 (dlook d y) (fun o => P (.bl (neg != o.isSome)) ρ2) .mk) .mk) .mk) := propext (iff_of_eq (rfl))
theorem w_fDGet2 {fd fy fx ρ P} : fDGet2 fd fy fx ρ P = AP2 (fDGet2 fd fy fx ρ) P .mk := propext (iff_of_eq (rfl))
theorem c_fDGet2 {fd fy fx ρ P} {tg : Tg P} : AP2 (fDGet2 fd fy fx ρ) P tg = (AP2 (fd ρ) (fun d ρ1 => isDict d = true ∧ AP2 (fy ρ1) (fun y ρ2 => AP2 (fx ρ2) (fun x ρ3 => AP1 (dlook d y) (fun o => P (o.getD x) ρ3) .mk) .mk) .mk) .mk) := propext (iff_of_eq (rfl))
theorem w_fSetO {j fe fk ρ P} : fSetO j fe fk ρ P = AP1 (fSetO j fe fk ρ) P .mk := propext (iff_of_eq (rfl))
theorem c_fSetO {j fe fk ρ P} {tg : Tg P} : AP1 (fSetO j fe fk ρ) P tg = (AP2 (fe ρ) (fun x ρ1 => AP1 (ownD ρ1 j) (fun _ => AP2 (fk ρ1) (fun y ρ2 => AP1 (asI y) (fun k => AP1 (ownD ρ2 j) (fun c => AP1 (lstO c) (fun ds => AP1 (optP (ixN ds.length k)) (fun n => P (.nx (ρ2.set j (.own (.lst (ds.set n x)))))) .mk) .mk) .mk) .mk) .mk) .mk) .mk) := propext (iff_of_eq (by
  unfold fSetO AP1
  simp only [ex_optP]
  rfl))
theorem w_fApp {j fe ρ P} : fApp j fe ρ P = AP1 (fApp j fe ρ) P .mk := propext (iff_of_eq (rfl))
theorem c_fApp {j fe ρ P} {tg : Tg P} : AP1 (fApp j fe ρ) P tg = (AP1 (ownD ρ j) (fun c0 => AP1 (lstO c0) (fun _ => AP2 (fe ρ) (fun x ρ1 => AP1 (ownD ρ1 j) (fun c => AP1 (lstO c) (fun ds => ds.length < 100000 ∧ P (.nx (ρ1.set j (.own (.lst (ds ++ [x])))))) .mk) .mk) .mk) .mk) .mk) := propext (iff_of_eq (rfl))
theorem w_fExt {j fe ρ P} : fExt j fe ρ P = AP1 (fExt j fe ρ) P .mk := propext (iff_of_eq (rfl))
theorem c_fExt {j fe ρ P} {tg : Tg P} : AP1 (fExt j fe ρ) P tg = (AP1 (ownD ρ j) (fun c0 => AP1 (lstO c0) (fun _ => AP2 (fe ρ) (fun x ρ1 => AP1 (lstO x) (fun es => AP1 (ownD ρ1 j) (fun c => AP1 (lstO c) (fun ds => ds.length + es.length ≤ 100000 ∧ P (.nx (ρ1.set j (.own (.lst (ds ++ es)))))) .mk) .mk) .mk) .mk) .mk) .mk) := propext (iff_of_eq (rfl))
theorem w_fDPut {j fv fk ρ P} : fDPut j fv fk ρ P = AP1 (fDPut j fv fk ρ) P .mk := propext (iff_of_eq (rfl))
theorem c_fDPut {j fv fk ρ P} {tg : Tg P} : AP1 (fDPut j fv fk ρ) P tg = (AP2 (fv ρ) (fun x ρ1 => AP1 (ownD ρ1 j) (fun _ => AP2 (fk ρ1) (fun y ρ2 => AP1 (ownD ρ2 j) (fun c => AP1 (dput c y x) (fun c' => P (.nx (ρ2.set j (.own c')))) .mk) .mk) .mk) .mk) .mk) := propext (iff_of_eq (rfl))
theorem w_fListO {j ρ P} : fListO j ρ P = AP2 (fListO j ρ) P .mk := propext (iff_of_eq (rfl))
theorem c_fListO {j ρ P} {tg : Tg P} : AP2 (fListO j ρ) P tg = (AP1 (ownD ρ j) (fun c => AP1 (gList [c]) (fun d => P d ρ) .mk) .mk) := propext (iff_of_eq (rfl))
theorem w_fCallK {ix n m g fs ρ P} : fCallK ix n m g fs ρ P = AP2 (fCallK ix n m g fs ρ) P .mk := propext (iff_of_eq (rfl))
theorem c_fCallK {ix n m g fs ρ P} {tg : Tg P} : AP2 (fCallK ix n m g fs ρ) P tg = (AP2 (fs ρ) (fun ds ρ1 => ds.length = m ∧ (permL ix ds).length = n ∧ AP1 (g (permL ix ds)) (fun d => P d ρ1) .mk) .mk) := propext (iff_of_eq (rfl))
theorem w_fChain {g h fx fy fz ρ P} : fChain g h fx fy fz ρ P = AP2 (fChain g h fx fy fz ρ) P .mk := propext (iff_of_eq (rfl))
theorem c_fChain {g h fx fy fz ρ P} {tg : Tg P} : AP2 (fChain g h fx fy fz ρ) P tg = (AP2 (fx ρ) (fun x ρ1 => AP2 (fy ρ1) (fun y ρ2 => AP1 (g x y) (fun d => AP1 (asB d) (fun k => BR k (fun _ => AP2 (fz ρ2) (fun z ρ3 => AP1 (h y z) (fun d => P d ρ3) .mk) .mk) (fun _ => P (.bl false) ρ2) .mk .mk) .mk) .mk) .mk) .mk) := propext (iff_of_eq (rfl))
theorem w_fDicI {j ρ P} : fDicI j ρ P = AP2 (fDicI j ρ) P .mk := propext (iff_of_eq (rfl))
theorem c_fDicI {j ρ P} {tg : Tg P} : AP2 (fDicI j ρ) P tg = (AP2 (fVar j ρ) (fun d ρ1 => AP1 (keysD d) (fun ds => P ds ρ1) .mk) .mk) := propext (iff_of_eq (rfl))
theorem w_fLstRg1 {fx ρ P} : fLstRg1 fx ρ P = AP2 (fLstRg1 fx ρ) P .mk := propext (iff_of_eq (rfl))
theorem c_fLstRg1 {fx ρ P} {tg : Tg P} : AP2 (fLstRg1 fx ρ) P tg = (AP2 (fx ρ) (fun x ρ1 => AP1 (asI x) (fun n => n ≤ 100000 ∧ -100000 ≤ n ∧ P (.lst (rangeD 0 n.toNat)) ρ1) .mk) .mk) := propext (iff_of_eq (rfl))
theorem w_fLstRg2 {fx fy ρ P} : fLstRg2 fx fy ρ P = AP2 (fLstRg2 fx fy ρ) P .mk := propext (iff_of_eq (rfl))
theorem c_fLstRg2 {fx fy ρ P} {tg : Tg P} : AP2 (fLstRg2 fx fy ρ) P tg = (AP2 (fx ρ) (fun x ρ1 => AP2 (fy ρ1) (fun y ρ2 => AP1 (asI x) (fun i => AP1 (asI y) (fun j => i ≤ 100000 ∧ -100000 ≤ i ∧ j ≤ 100000 ∧ -100000 ≤ j ∧ P (.lst (rangeD i (j - i).toNat)) ρ2) .mk) .mk) .mk) .mk) := propext (iff_of_eq (rfl))
theorem w_fAsgG {f g ρ P} : fAsgG f g ρ P = AP1 (fAsgG f g ρ) P .mk := propext (iff_of_eq (rfl))
theorem c_fAsgG {f g ρ P} {tg : Tg P} : AP1 (fAsgG f g ρ) P tg = (AP2 (f ρ) (fun d ρ1 => AP1 (g d ρ1) (fun ρ2 => P (.nx ρ2)) .mk) .mk) := propext (iff_of_eq (rfl))
theorem w_fDisp {ks fs ρ P} : fDisp ks fs ρ P = AP2 (fDisp ks fs ρ) P .mk := propext (iff_of_eq (rfl))
theorem c_fDisp {ks fs ρ P} {tg : Tg P} : AP2 (fDisp ks fs ρ) P tg = (AP2 (fs ρ) (fun ds ρ1 => P (.dK ks ds) ρ1) .mk) := propext (iff_of_eq (rfl))
theorem w_fIxO {j fk ρ P} : fIxO j fk ρ P = AP2 (fIxO j fk ρ) P .mk := propext (iff_of_eq (rfl))
theorem c_fIxO {j fk ρ P} {tg : Tg P} : AP2 (fIxO j fk ρ) P tg = (AP1 (ownD ρ j) (fun _ => AP2 (fk ρ) (fun y ρ1 => AP1 (asI y) (fun k => AP1 (ownD ρ1 j) (fun c => AP1 (lstO c) (fun ds => ∃ d, atI ds k = some d ∧ P d ρ1) .mk) .mk) .mk) .mk) .mk) := propext (iff_of_eq (rfl))
theorem w_fDGetO {j fk ρ P} : fDGetO j fk ρ P = AP2 (fDGetO j fk ρ) P .mk := propext (iff_of_eq (rfl))
theorem c_fDGetO {j fk ρ P} {tg : Tg P} : AP2 (fDGetO j fk ρ) P tg = (AP1 (ownD ρ j) (fun _ => AP2 (fk ρ) (fun y ρ1 => AP1 (ownD ρ1 j) (fun c => AP1 (dlook c y) (fun o => ∃ d, o = some d ∧ P d ρ1) .mk) .mk) .mk) .mk) := propext (iff_of_eq (rfl))
theorem a_gIsi_eq (x : D) (n : String) (P : D → Prop) {tg : Tg P} : AP1 (gIsi [x, .ty n]) P tg = (AP1 (optP (isiB x n)) (fun b => P (.bl b)) .mk) := propext (iff_of_eq (gIsi_eq x n P))
theorem a_ev_gIx_lst (xs : List D) (k : Int) (P : D → Prop) {tg : Tg P} : AP1 (gIx (.lst xs) (.int k)) P tg = (AP1 (optP (atI xs k)) P .mk) := propext (iff_of_eq (ev_gIx_lst xs k P))
theorem a_ev_gIx_tup (xs : List D) (k : Int) (P : D → Prop) {tg : Tg P} : AP1 (gIx (.tup xs) (.int k)) P tg = (AP1 (optP (atI xs k)) P .mk) := propext (iff_of_eq (ev_gIx_tup xs k P))
theorem a_ev_gIx_rol (xs : List D) (k : Int) (P : D → Prop) {tg : Tg P} : AP1 (gIx (.rol xs) (.int k)) P tg = (AP1 (optP (atI xs k)) P .mk) := propext (iff_of_eq (ev_gIx_rol xs k P))
theorem a_gAll_eq (bs : List Bool) (P : D → Prop) {tg : Tg P} : AP1 (gAll [.lst (bs.map .bl)]) P tg = (P (.bl (bs.all id))) := propext (iff_of_eq (gAll_eq bs P))
theorem a_gAny_eq (bs : List Bool) (P : D → Prop) {tg : Tg P} : AP1 (gAny [.lst (bs.map .bl)]) P tg = (P (.bl (bs.any id))) := propext (iff_of_eq (gAny_eq bs P))
theorem a_ev_asB_bl (b : Bool) (P : Bool → Prop) {tg : Tg P} : AP1 (asB (.bl b)) P tg = (P b) := propext (iff_of_eq (ev_asB_bl b P))
theorem a_ev_asI_int (i : Int) (P : Int → Prop) {tg : Tg P} : AP1 (asI (.int i)) P tg = (P i) := propext (iff_of_eq (ev_asI_int i P))
theorem a_ev_gAdd_int (i j : Int) (P : D → Prop) {tg : Tg P} : AP1 (gAdd (.int i) (.int j)) P tg = (P (.int (i + j))) := propext (iff_of_eq (ev_gAdd_int i j P))
theorem a_ev_gAdd_tup (xs ys : List D) (P : D → Prop) {tg : Tg P} : AP1 (gAdd (.tup xs) (.tup ys)) P tg = ((xs.length + ys.length ≤ 100000 ∧ P (.tup (xs ++ ys)))) := propext (iff_of_eq (ev_gAdd_tup xs ys P))
theorem a_ev_gAdd_lst (xs ys : List D) (P : D → Prop) {tg : Tg P} : AP1 (gAdd (.lst xs) (.lst ys)) P tg = ((xs.length + ys.length ≤ 100000 ∧ P (.lst (xs ++ ys)))) := propext (iff_of_eq (ev_gAdd_lst xs ys P))
theorem a_ev_gAdd_str (xs ys : Str) (P : D → Prop) {tg : Tg P} : AP1 (gAdd (.str xs) (.str ys)) P tg = ((xs.length + ys.length ≤ 100000 ∧ P (.str (xs ++ ys)))) := propext (iff_of_eq (ev_gAdd_str xs ys P))
theorem a_ev_gMul_int (i j : Int) (P : D → Prop) {tg : Tg P} : AP1 (gMul (.int i) (.int j)) P tg = (((CMul i j ∨ CMulW i j) ∧ P (.int (i * j)))) := propext (iff_of_eq (ev_gMul_int i j P))
theorem a_ev_gMul_tup (xs : List D) (k : Int) (P : D → Prop) {tg : Tg P} : AP1 (gMul (.tup xs) (.int k)) P tg = ((xs ≠ [] ∧ 1 ≤ k ∧ k ≤ 1000 ∧ xs.length ≤ 100 ∧ P (.tup (List.replicate k.toNat xs).flatten))) := propext (iff_of_eq (ev_gMul_tup xs k P))
theorem a_ev_gMul_lst (xs : List D) (k : Int) (P : D → Prop) {tg : Tg P} : AP1 (gMul (.lst xs) (.int k)) P tg = ((0 ≤ k ∧ k ≤ 1000 ∧ xs.length ≤ 100 ∧ P (.lst (List.replicate k.toNat xs).flatten))) := propext (iff_of_eq (ev_gMul_lst xs k P))
theorem a_ev_gMul_str (s : Str) (k : Int) (P : D → Prop) {tg : Tg P} : AP1 (gMul (.str s) (.int k)) P tg = ((s.length ≤ 16 ∧ 0 ≤ k ∧ k ≤ 1000 ∧ P (.str (PySem.Txt.mul s k)))) := propext (iff_of_eq (ev_gMul_str s k P))
theorem a_ev_gI_int (C : Int → Int → Prop) (h : Int → Int → D) (i j : Int) (P : D → Prop) {tg : Tg P} : AP1 (gI C h (.int i) (.int j)) P tg = ((C i j ∧ P (h i j))) := propext (iff_of_eq (ev_gI_int C h i j P))
theorem a_ev_gC_int (h : Int → Int → Bool) (i j : Int) (P : D → Prop) {tg : Tg P} : AP1 (gC h (.int i) (.int j)) P tg = (P (.bl (h i j))) := propext (iff_of_eq (ev_gC_int h i j P))
theorem a_ev_gLt_int (i j : Int) (P : D → Prop) {tg : Tg P} : AP1 (gLt (.int i) (.int j)) P tg = (P (.bl (decide (i < j)))) := propext (iff_of_eq (ev_gLt_int i j P))
theorem a_ev_gNeg_int (i : Int) (P : D → Prop) {tg : Tg P} : AP1 (gNeg (.int i)) P tg = (P (.int (-i))) := propext (iff_of_eq (ev_gNeg_int i P))
theorem a_ev_gIs_bl (a b : Bool) (P : D → Prop) {tg : Tg P} : AP1 (gIs (.bl a) (.bl b)) P tg = (P (.bl (decide (a = b)))) := propext (iff_of_eq (ev_gIs_bl a b P))
theorem a_ev_gIsNot_bl (a b : Bool) (P : D → Prop) {tg : Tg P} : AP1 (gIsNot (.bl a) (.bl b)) P tg = (P (.bl (!decide (a = b)))) := propext (iff_of_eq (ev_gIsNot_bl a b P))
theorem a_ev_gInt_int (i : Int) (P : D → Prop) {tg : Tg P} : AP1 (gInt [.int i]) P tg = (P (.int i)) := propext (iff_of_eq (ev_gInt_int i P))
theorem a_ev_gInt_bl (b : Bool) (P : D → Prop) {tg : Tg P} : AP1 (gInt [.bl b]) P tg = (P (.int (if b then 1 else 0))) := propext (iff_of_eq (ev_gInt_bl b P))
theorem a_ev_gInt2_int (h : Int → Int → Int) (i j : Int) (P : D → Prop) {tg : Tg P} : AP1 (gInt2 h [.int i, .int j]) P tg = (P (.int (h i j))) := propext (iff_of_eq (ev_gInt2_int h i j P))
theorem a_ev_gAbs_int (i : Int) (P : D → Prop) {tg : Tg P} : AP1 (gAbs [.int i]) P tg = (P (.int (if i < 0 then -i else i))) := propext (iff_of_eq (ev_gAbs_int i P))
theorem a_ev_gTuple_lst (xs : List D) (P : D → Prop) {tg : Tg P} : AP1 (gTuple [.lst xs]) P tg = (P (.tup xs)) := propext (iff_of_eq (ev_gTuple_lst xs P))
theorem a_ev_gTuple_rol (xs : List D) (P : D → Prop) {tg : Tg P} : AP1 (gTuple [.rol xs]) P tg = (P (.tup xs)) := propext (iff_of_eq (ev_gTuple_rol xs P))
theorem a_ev_gTuple_tup (xs : List D) (P : D → Prop) {tg : Tg P} : AP1 (gTuple [.tup xs]) P tg = (P (.tup xs)) := propext (iff_of_eq (ev_gTuple_tup xs P))
theorem a_ev_gList_dT (ks : List (List Key)) (vs : List D) (P : D → Prop) {tg : Tg P} : AP1 (gList [.dT ks vs]) P tg = (P (.lst (ks.map fun k => .tup (k.map kD)))) := propext (iff_of_eq (ev_gList_dT ks vs P))
theorem a_ev_gList_dK (ks : List Key) (vs : List D) (P : D → Prop) {tg : Tg P} : AP1 (gList [.dK ks vs]) P tg = (P (.lst (ks.map kD))) := propext (iff_of_eq (ev_gList_dK ks vs P))
theorem a_ev_gLen_str (s : Str) (P : D → Prop) {tg : Tg P} : AP1 (gLen [.str s]) P tg = ((s.length ≤ 100000 ∧ P (.int s.length))) := propext (iff_of_eq (ev_gLen_str s P))
theorem a_ev_gLen_dT (ks : List (List Key)) (vs : List D) (P : D → Prop) {tg : Tg P} : AP1 (gLen [.dT ks vs]) P tg = (P (.int ks.length)) := propext (iff_of_eq (ev_gLen_dT ks vs P))
theorem a_ev_gLen_dK (ks : List Key) (vs : List D) (P : D → Prop) {tg : Tg P} : AP1 (gLen [.dK ks vs]) P tg = (P (.int ks.length)) := propext (iff_of_eq (ev_gLen_dK ks vs P))
theorem a_ev_lstD_lst (xs : List D) (P : List D → Prop) {tg : Tg P} : AP1 (lstD (.lst xs)) P tg = (P xs) := propext (iff_of_eq (ev_lstD_lst xs P))
theorem a_ev_lstD_rol (xs : List D) (P : List D → Prop) {tg : Tg P} : AP1 (lstD (.rol xs)) P tg = (P xs) := propext (iff_of_eq (ev_lstD_rol xs P))
theorem a_ev_tupD_tup (xs : List D) (P : List D → Prop) {tg : Tg P} : AP1 (tupD (.tup xs)) P tg = (P xs) := propext (iff_of_eq (ev_tupD_tup xs P))
theorem a_ev_lstO_lst (xs : List D) (P : List D → Prop) {tg : Tg P} : AP1 (lstO (.lst xs)) P tg = (P xs) := propext (iff_of_eq (ev_lstO_lst xs P))
theorem a_ev_gSl_lst (xs : List D) (l h : Option Int) (P : D → Prop) {tg : Tg P} : AP1 (gSl (.lst xs) l h) P tg = (P (.lst (cutD xs l h))) := propext (iff_of_eq (ev_gSl_lst xs l h P))
theorem a_ev_gSl_rol (xs : List D) (l h : Option Int) (P : D → Prop) {tg : Tg P} : AP1 (gSl (.rol xs) l h) P tg = (P (.lst (cutD xs l h))) := propext (iff_of_eq (ev_gSl_rol xs l h P))
theorem a_ev_gSl_tup (xs : List D) (l h : Option Int) (P : D → Prop) {tg : Tg P} : AP1 (gSl (.tup xs) l h) P tg = (P (.tup (cutD xs l h))) := propext (iff_of_eq (ev_gSl_tup xs l h P))
theorem a_ev_retP_nx (P : D → Prop) (ρ : List Sl) : retP P (.nx ρ) = (P .non) := propext (iff_of_eq (ev_retP_nx P ρ))
theorem a_ev_retP_rt (P : D → Prop) (d : D) (ρ : List Sl) : retP P (.rt d ρ) = (P d) := propext (iff_of_eq (ev_retP_rt P d ρ))
theorem a_ev_retP_rf (P : D → Prop) (d : D) (ρ : List Sl) : retP P (.rf d ρ) = (P d) := propext (iff_of_eq (ev_retP_rf P d ρ))
theorem a_ev_retF_rf (P : D → Prop) (d : D) (ρ : List Sl) : retF P (.rf d ρ) = (P d) := propext (iff_of_eq (ev_retF_rf P d ρ))
theorem a_ev_retI_nx (P : D → D → Prop) (ρ : List Sl) : retI P (.nx ρ) = (AP1 (ownD ρ 0) (fun c => P .non c) .mk) := propext (iff_of_eq (ev_retI_nx P ρ))
theorem a_ev_retI_rt (P : D → D → Prop) (d : D) (ρ : List Sl) : retI P (.rt d ρ) = (AP1 (ownD ρ 0) (fun c => P d c) .mk) := propext (iff_of_eq (ev_retI_rt P d ρ))
theorem a_ev_retI_rf (P : D → D → Prop) (d : D) (ρ : List Sl) : retI P (.rf d ρ) = (AP1 (ownD ρ 0) (fun c => P d c) .mk) := propext (iff_of_eq (ev_retI_rf P d ρ))
theorem a_ev_andThen_nx (F : FS) (P : Fl → Prop) (ρ : List Sl) : andThen F P (.nx ρ) = (AP1 (F ρ) P .mk) := propext (iff_of_eq (ev_andThen_nx F P ρ))
theorem a_ev_andThen_rt (F : FS) (P : Fl → Prop) (d : D) (ρ : List Sl) : andThen F P (.rt d ρ) = (P (.rt d ρ)) := propext (iff_of_eq (ev_andThen_rt F P d ρ))
theorem a_ev_andThen_rf (F : FS) (P : Fl → Prop) (d : D) (ρ : List Sl) : andThen F P (.rf d ρ) = (P (.rf d ρ)) := propext (iff_of_eq (ev_andThen_rf F P d ρ))
theorem a_ev_andThen_bk (F : FS) (P : Fl → Prop) (ρ : List Sl) : andThen F P (.bk ρ) = (P (.bk ρ)) := propext (iff_of_eq (ev_andThen_bk F P ρ))
theorem a_ev_andThen_ct (F : FS) (P : Fl → Prop) (ρ : List Sl) : andThen F P (.ct ρ) = (P (.ct ρ)) := propext (iff_of_eq (ev_andThen_ct F P ρ))
theorem a_ev_rng1_int (j : Int) (P : List D → Prop) {tg : Tg P} : AP1 (rng1 [.int j]) P tg = ((j ≤ 100000 ∧ -100000 ≤ j ∧ P (rangeD 0 j.toNat))) := propext (iff_of_eq (ev_rng1_int j P))
theorem a_ev_rng2_int (i j : Int) (P : List D → Prop) {tg : Tg P} : AP1 (rng2 [.int i, .int j]) P tg = (((j ≤ 100000 ∧ -100000 ≤ j ∧ i ≤ 100000 ∧ -100000 ≤ i) ∧ P (rangeD i (j - i).toNat))) := propext (iff_of_eq (ev_rng2_int i j P))
theorem a_ev_zip2_lst (xs ys : List D) (P : List D → Prop) {tg : Tg P} : AP1 (zip2 [.lst xs, .lst ys]) P tg = (P (zipD xs ys)) := propext (iff_of_eq (ev_zip2_lst xs ys P))
theorem a_ev_zip2_tup (xs ys : List D) (P : List D → Prop) {tg : Tg P} : AP1 (zip2 [.tup xs, .tup ys]) P tg = (P (zipD xs ys)) := propext (iff_of_eq (ev_zip2_tup xs ys P))
theorem a_ev_slotO_own (d : D) (P : D → Prop) {tg : Tg P} : AP1 (slotO (some (.own d))) P tg = (P d) := propext (iff_of_eq (ev_slotO_own d P))
theorem a_ev_gdCons (f : FG) (fs : FGs) (d : D) (ds : List D) (ρ : List Sl) (P : List Sl → Prop) {tg : Tg P} : AP1 (gdCons f fs (d :: ds) ρ) P tg = (AP1 (f d ρ) (fun ρ1 => AP1 (fs ds ρ1) P .mk) .mk) := propext (iff_of_eq (ev_gdCons f fs d ds ρ P))
theorem a_ev_gdNil (ρ : List Sl) (P : List Sl → Prop) {tg : Tg P} : AP1 (gdNil [] ρ) P tg = (P ρ) := propext (iff_of_eq (ev_gdNil ρ P))
theorem a_ev_gLen_lst (xs : List D) (P : D → Prop) {tg : Tg P} : AP1 (gLen [.lst xs]) P tg = (P (.int xs.length)) := propext (iff_of_eq (ev_gLen_lst xs P))
theorem a_ev_gLen_tup (xs : List D) (P : D → Prop) {tg : Tg P} : AP1 (gLen [.tup xs]) P tg = (P (.int xs.length)) := propext (iff_of_eq (ev_gLen_tup xs P))
theorem a_ev_gLen_rol (xs : List D) (P : D → Prop) {tg : Tg P} : AP1 (gLen [.rol xs]) P tg = (P (.int xs.length)) := propext (iff_of_eq (ev_gLen_rol xs P))
theorem a_ev_gEq_int (a b : Int) (P : D → Prop) {tg : Tg P} : AP1 (gEq (.int a) (.int b)) P tg = (P (.bl (decide (a = b)))) := propext (iff_of_eq (ev_gEq_int a b P))
theorem a_ev_gNe_int (a b : Int) (P : D → Prop) {tg : Tg P} : AP1 (gNe (.int a) (.int b)) P tg = (P (.bl (!decide (a = b)))) := propext (iff_of_eq (ev_gNe_int a b P))
theorem a_ev_gEq_bl (a b : Bool) (P : D → Prop) {tg : Tg P} : AP1 (gEq (.bl a) (.bl b)) P tg = (P (.bl (decide (a = b)))) := propext (iff_of_eq (ev_gEq_bl a b P))
theorem a_ev_gNe_bl (a b : Bool) (P : D → Prop) {tg : Tg P} : AP1 (gNe (.bl a) (.bl b)) P tg = (P (.bl (!decide (a = b)))) := propext (iff_of_eq (ev_gNe_bl a b P))
theorem a_ev_gAdd_tupI1 (g : List Int) (l : Int) (P : D → Prop) {tg : Tg P} : AP1 (gAdd (tupI g) (.tup [.int l])) P tg = ((g.length + 1 ≤ 100000 ∧ P (tupI (g ++ [l])))) := propext (iff_of_eq (ev_gAdd_tupI1 g l P))
theorem a_ev_gAdd_tupI2 (g : List Int) (l : Int) (P : D → Prop) {tg : Tg P} : AP1 (gAdd (.tup [.int l]) (tupI g)) P tg = ((1 + g.length ≤ 100000 ∧ P (tupI (l :: g)))) := propext (iff_of_eq (ev_gAdd_tupI2 g l P))
theorem a_ev_gLen_tupI (g : List Int) (P : D → Prop) {tg : Tg P} : AP1 (gLen [tupI g]) P tg = (P (.int g.length)) := propext (iff_of_eq (ev_gLen_tupI g P))
theorem a_ev_gLen_lstI (g : List Int) (P : D → Prop) {tg : Tg P} : AP1 (gLen [lstI g]) P tg = (P (.int g.length)) := propext (iff_of_eq (ev_gLen_lstI g P))
theorem a_ev_tupD_tupI (g : List Int) (P : List D → Prop) {tg : Tg P} : AP1 (tupD (tupI g)) P tg = (P (g.map .int)) := propext (iff_of_eq (ev_tupD_tupI g P))
theorem a_ev_lstD_lstI (g : List Int) (P : List D → Prop) {tg : Tg P} : AP1 (lstD (lstI g)) P tg = (P (g.map .int)) := propext (iff_of_eq (ev_lstD_lstI g P))
theorem a_ev_gIx_tupI (xs : List Int) (k : Int) (P : D → Prop) {tg : Tg P} : AP1 (gIx (tupI xs) (.int k)) P tg = (AP1 (optP (atN xs k)) (fun i => P (.int i)) .mk) := propext (iff_of_eq (ev_gIx_tupI xs k P))
theorem a_ev_gIx_lstI (xs : List Int) (k : Int) (P : D → Prop) {tg : Tg P} : AP1 (gIx (lstI xs) (.int k)) P tg = (AP1 (optP (atN xs k)) (fun i => P (.int i)) .mk) := propext (iff_of_eq (ev_gIx_lstI xs k P))
theorem a_ev_lstO_lstI (g : List Int) (P : List D → Prop) {tg : Tg P} : AP1 (lstO (lstI g)) P tg = (P (g.map .int)) := propext (iff_of_eq (ev_lstO_lstI g P))
theorem a_ev_gTuple_ints (xs : List Int) (P : D → Prop) {tg : Tg P} : AP1 (gTuple [.lst (xs.map .int)]) P tg = (P (tupI xs)) := propext (iff_of_eq (ev_gTuple_ints xs P))
theorem a_ev_gList_lst (xs : List D) (P : D → Prop) {tg : Tg P} : AP1 (gList [.lst xs]) P tg = (P (.lst xs)) := propext (iff_of_eq (ev_gList_lst xs P))
theorem a_ev_gList_tup (xs : List D) (P : D → Prop) {tg : Tg P} : AP1 (gList [.tup xs]) P tg = (P (.lst xs)) := propext (iff_of_eq (ev_gList_tup xs P))
theorem a_ev_gList_rol (xs : List D) (P : D → Prop) {tg : Tg P} : AP1 (gList [.rol xs]) P tg = (P (.lst xs)) := propext (iff_of_eq (ev_gList_rol xs P))
theorem a_ev_gList_tupI (xs : List Int) (P : D → Prop) {tg : Tg P} : AP1 (gList [tupI xs]) P tg = (P (lstI xs)) := propext (iff_of_eq (ev_gList_tupI xs P))
theorem a_ev_gSl_tupI (xs : List Int) (l h : Option Int) (P : D → Prop) {tg : Tg P} : AP1 (gSl (tupI xs) l h) P tg = (P (.tup (cutD (xs.map .int) l h))) := propext (iff_of_eq (ev_gSl_tupI xs l h P))
theorem a_ev_gLt_tupI (a b : List Int) (P : D → Prop) {tg : Tg P} : AP1 (gLt (tupI a) (tupI b)) P tg = (P (.bl (HT.lexLt a b))) := propext (iff_of_eq (ev_gLt_tupI a b P))
theorem a_ev_gSumL (bs : List Int) (P : D → Prop) {tg : Tg P} : AP1 (gSumL [.lst (bs.map .int)]) P tg = (P (.int bs.sum)) := propext (iff_of_eq (ev_gSumL bs P))
theorem a_ev_keysD_dT (ks : List (List Key)) (vs : List D) (P : List D → Prop) {tg : Tg P} : AP1 (keysD (.dT ks vs)) P tg = (P (ks.map fun k => .tup (k.map kD))) := propext (iff_of_eq (ev_keysD_dT ks vs P))
theorem a_ev_keysD_dK (ks : List Key) (vs : List D) (P : List D → Prop) {tg : Tg P} : AP1 (keysD (.dK ks vs)) P tg = (P (ks.map kD)) := propext (iff_of_eq (ev_keysD_dK ks vs P))
theorem w_gAdd {x : D} {y : D} {P : D → Prop} : gAdd x y P = AP1 (gAdd x y) P .mk := propext (iff_of_eq (rfl))
theorem w_gMul {x : D} {y : D} {P : D → Prop} : gMul x y P = AP1 (gMul x y) P .mk := propext (iff_of_eq (rfl))
theorem w_gEq {x : D} {y : D} {P : D → Prop} : gEq x y P = AP1 (gEq x y) P .mk := propext (iff_of_eq (rfl))
theorem w_gNe {x : D} {y : D} {P : D → Prop} : gNe x y P = AP1 (gNe x y) P .mk := propext (iff_of_eq (rfl))
theorem w_gLt {x : D} {y : D} {P : D → Prop} : gLt x y P = AP1 (gLt x y) P .mk := propext (iff_of_eq (rfl))
theorem w_gIs {x : D} {y : D} {P : D → Prop} : gIs x y P = AP1 (gIs x y) P .mk := propext (iff_of_eq (rfl))
theorem w_gIsNot {x : D} {y : D} {P : D → Prop} : gIsNot x y P = AP1 (gIsNot x y) P .mk := propext (iff_of_eq (rfl))
theorem w_gIx {x : D} {y : D} {P : D → Prop} : gIx x y P = AP1 (gIx x y) P .mk := propext (iff_of_eq (rfl))
theorem w_gSub {x : D} {y : D} {P : D → Prop} : gSub x y P = AP1 (gSub x y) P .mk := propext (iff_of_eq (rfl))
theorem w_gMod {x : D} {y : D} {P : D → Prop} : gMod x y P = AP1 (gMod x y) P .mk := propext (iff_of_eq (rfl))
theorem w_gDiv {x : D} {y : D} {P : D → Prop} : gDiv x y P = AP1 (gDiv x y) P .mk := propext (iff_of_eq (rfl))
theorem w_gPow {x : D} {y : D} {P : D → Prop} : gPow x y P = AP1 (gPow x y) P .mk := propext (iff_of_eq (rfl))
theorem w_gLe {x : D} {y : D} {P : D → Prop} : gLe x y P = AP1 (gLe x y) P .mk := propext (iff_of_eq (rfl))
theorem w_gGt {x : D} {y : D} {P : D → Prop} : gGt x y P = AP1 (gGt x y) P .mk := propext (iff_of_eq (rfl))
theorem w_gGe {x : D} {y : D} {P : D → Prop} : gGe x y P = AP1 (gGe x y) P .mk := propext (iff_of_eq (rfl))
theorem w_gInB {n : Bool} {x : D} {y : D} {P : D → Prop} : gInB n x y P = AP1 (gInB n x y) P .mk := propext (iff_of_eq (rfl))
theorem w_gI {C : Int → Int → Prop} {h : Int → Int → D} {x : D} {y : D} {P : D → Prop} : gI C h x y P = AP1 (gI C h x y) P .mk := propext (iff_of_eq (rfl))
theorem w_gC {h : Int → Int → Bool} {x : D} {y : D} {P : D → Prop} : gC h x y P = AP1 (gC h x y) P .mk := propext (iff_of_eq (rfl))
theorem w_gNeg {x : D} {P : D → Prop} : gNeg x P = AP1 (gNeg x) P .mk := propext (iff_of_eq (rfl))
theorem w_gSl {d : D} {lo : Option Int} {hi : Option Int} {P : D → Prop} : gSl d lo hi P = AP1 (gSl d lo hi) P .mk := propext (iff_of_eq (rfl))
theorem w_gLen {ds : List D} {P : D → Prop} : gLen ds P = AP1 (gLen ds) P .mk := propext (iff_of_eq (rfl))
theorem w_gAll {ds : List D} {P : D → Prop} : gAll ds P = AP1 (gAll ds) P .mk := propext (iff_of_eq (rfl))
theorem w_gAny {ds : List D} {P : D → Prop} : gAny ds P = AP1 (gAny ds) P .mk := propext (iff_of_eq (rfl))
theorem w_gSum {ds : List D} {P : D → Prop} : gSum ds P = AP1 (gSum ds) P .mk := propext (iff_of_eq (rfl))
theorem w_gTuple {ds : List D} {P : D → Prop} : gTuple ds P = AP1 (gTuple ds) P .mk := propext (iff_of_eq (rfl))
theorem w_gList {ds : List D} {P : D → Prop} : gList ds P = AP1 (gList ds) P .mk := propext (iff_of_eq (rfl))
theorem w_gInt {ds : List D} {P : D → Prop} : gInt ds P = AP1 (gInt ds) P .mk := propext (iff_of_eq (rfl))
theorem w_gAbs {ds : List D} {P : D → Prop} : gAbs ds P = AP1 (gAbs ds) P .mk := propext (iff_of_eq (rfl))
theorem w_gIsi {ds : List D} {P : D → Prop} : gIsi ds P = AP1 (gIsi ds) P .mk := propext (iff_of_eq (rfl))
theorem w_gSortT {ds : List D} {P : D → Prop} : gSortT ds P = AP1 (gSortT ds) P .mk := propext (iff_of_eq (rfl))
theorem w_gSortD {ds : List D} {P : D → Prop} : gSortD ds P = AP1 (gSortD ds) P .mk := propext (iff_of_eq (rfl))
theorem w_gSumL {ds : List D} {P : D → Prop} : gSumL ds P = AP1 (gSumL ds) P .mk := propext (iff_of_eq (rfl))
theorem w_gInt2 {h : Int → Int → Int} {ds : List D} {P : D → Prop} : gInt2 h ds P = AP1 (gInt2 h ds) P .mk := propext (iff_of_eq (rfl))
theorem w_asB {d : D} {P : Bool → Prop} : asB d P = AP1 (asB d) P .mk := propext (iff_of_eq (rfl))
theorem w_asI {d : D} {P : Int → Prop} : asI d P = AP1 (asI d) P .mk := propext (iff_of_eq (rfl))
theorem w_lstD {d : D} {P : List D → Prop} : lstD d P = AP1 (lstD d) P .mk := propext (iff_of_eq (rfl))
theorem w_tupD {d : D} {P : List D → Prop} : tupD d P = AP1 (tupD d) P .mk := propext (iff_of_eq (rfl))
theorem w_seqD {d : D} {P : List D → Prop} : seqD d P = AP1 (seqD d) P .mk := propext (iff_of_eq (rfl))
theorem w_lstO {d : D} {P : List D → Prop} : lstO d P = AP1 (lstO d) P .mk := propext (iff_of_eq (rfl))
theorem w_keysD {d : D} {P : List D → Prop} : keysD d P = AP1 (keysD d) P .mk := propext (iff_of_eq (rfl))
theorem w_dlook {d : D} {y : D} {P : Option D → Prop} : dlook d y P = AP1 (dlook d y) P .mk := propext (iff_of_eq (rfl))
theorem w_dput {c : D} {y : D} {x : D} {P : D → Prop} : dput c y x P = AP1 (dput c y x) P .mk := propext (iff_of_eq (rfl))
theorem w_ownD {ρ : List Sl} {i : Nat} {P : D → Prop} : ownD ρ i P = AP1 (ownD ρ i) P .mk := propext (iff_of_eq (rfl))
theorem w_rng1 {ds : List D} {P : List D → Prop} : rng1 ds P = AP1 (rng1 ds) P .mk := propext (iff_of_eq (rfl))
theorem w_rng2 {ds : List D} {P : List D → Prop} : rng2 ds P = AP1 (rng2 ds) P .mk := propext (iff_of_eq (rfl))
theorem w_zip2 {ds : List D} {P : List D → Prop} : zip2 ds P = AP1 (zip2 ds) P .mk := propext (iff_of_eq (rfl))
theorem w_slotO {o : Option Sl} {P : D → Prop} : slotO o P = AP1 (slotO o) P .mk := propext (iff_of_eq (rfl))
theorem w_optP {α : Type} {o : Option α} {P : α → Prop} : optP o P = AP1 (optP o) P .mk := propext (iff_of_eq (rfl))
theorem w_forGo {g : FG} {B : FS} {ds : List D} {ρ : List Sl} {P : Fl → Prop} : forGo g B ds ρ P = AP1 (forGo g B ds ρ) P .mk := propext (iff_of_eq (rfl))
theorem w_lcGo {g : FG} {u : FT} {fe : FE} {vs : List Nat} {ds acc : List D} {ρ : List Sl} {P : List D → List Sl → Prop} : lcGo g u fe vs ds acc ρ P = AP2 (lcGo g u fe vs ds acc ρ) P .mk := propext (iff_of_eq (rfl))
theorem c_dlook_dT {ks : List (List Key)} {vs : List D} {y : D} {P : Option D → Prop} {t : Tg P} : AP1 (dlook (.dT ks vs) y) P t = AP1 (optP (asTK y)) (fun k => P (look ks vs k)) .mk := propext (iff_of_eq ((ex_optP _ _)))
theorem c_dlook_dK {ks : List Key} {vs : List D} {y : D} {P : Option D → Prop} {t : Tg P} : AP1 (dlook (.dK ks vs) y) P t = AP1 (optP (asK y)) (fun k => P (look ks vs k)) .mk := propext (iff_of_eq ((ex_optP _ _)))
theorem c_dput_dT {ks : List (List Key)} {vs : List D} {y x : D} {P : D → Prop} {t : Tg P} : AP1 (dput (.dT ks vs) y x) P t = AP1 (optP (asTK y)) (fun k => ks.length < 100000 ∧ P (.dT (putKs ks k) (putVs ks vs k x))) .mk := propext (iff_of_eq ((ex_optP _ _)))
theorem c_dput_dK {ks : List Key} {vs : List D} {y x : D} {P : D → Prop} {t : Tg P} : AP1 (dput (.dK ks vs) y x) P t = AP1 (optP (asK y)) (fun k => ks.length < 100000 ∧ P (.dK (putKs ks k) (putVs ks vs k x))) .mk := propext (iff_of_eq ((ex_optP _ _)))
theorem c_asTK_tupI {xs : List Int} : asTK (tupI xs) = some (xs.map .inl) := asKs_ints xs
theorem c_optP_some {α : Type} {a : α} {P : α → Prop} {t : Tg P} : AP1 (optP (some a)) P t = P a := propext (iff_of_eq (rfl))
theorem c_slotQ_val {d : D} {P : Bool × D → Prop} {t : Tg P} : AP1 (slotQ (some (.val d))) P t = P (true, d) := propext (iff_of_eq (rfl))
theorem c_slotQ_own {d : D} {P : Bool × D → Prop} {t : Tg P} : AP1 (slotQ (some (.own d))) P t = P (false, d) := propext (iff_of_eq (rfl))
theorem c_ownD {ρ : List Sl} {i : Nat} {P : D → Prop} {t : Tg P} : AP1 (ownD ρ i) P t = AP1 (slotO ρ[i]?) P .mk := propext (iff_of_eq (rfl))
theorem c_gdTup {n : Nat} {fs : FGs} {ds : List D} {ρ : List Sl} {P : List Sl → Prop} {t : Tg P} : AP1 (gdTup n fs (.tup ds) ρ) P t = (ds.length = n ∧ AP1 (fs ds ρ) P .mk) := propext (iff_of_eq (rfl))
theorem c_BR_true {A B : Unit → Prop} {t : Tg A} {u : Tg B} : BR true A B t u = A () := propext (iff_of_eq (rfl))
theorem c_BR_false {A B : Unit → Prop} {t : Tg A} {u : Tg B} : BR false A B t u = B () := propext (iff_of_eq (rfl))
end DL

/-! DLM: plain facts of lists of ints (moments), shared by the laws. -/
namespace DL
open PySem L2
def imax (i j : Int) : Int := if j > i then j else i
def imin (i j : Int) : Int := if j < i then j else i
def befL (a b : List Int) : Bool := (List.zipWith (fun x y => decide (x ≤ y)) a b).all id
def joinL (a b : List Int) : List Int := List.zipWith imax a b
def meetL (a b : List Int) : List Int := List.zipWith imin a b
theorem zw_map {α : Type} (f : Int → Int → α) (h : α → D) : ∀ a b : List Int, List.zipWith (fun x y => h (f x y)) a b = (List.zipWith f a b).map h
  | [], _ => rfl
  | _ :: _, [] => rfl
  | x :: a, y :: b => by rw [List.zipWith_cons_cons, List.zipWith_cons_cons, List.map_cons, zw_map f h a b]

/-- not negative -/
def NN (L : List Int) : Prop := ∀ x ∈ L, 0 ≤ x
def okM (n : Nat) (p : List Int) : Prop := p.length = n ∧ NN p
theorem all_true {α : Type} (f : α → Bool) (xs : List α) (h : ∀ x ∈ xs, f x = true) : (xs.map f).all id = true := by
  rw [List.all_map]
  exact List.all_eq_true.mpr h
theorem range_zip {α : Type} (f : Int → Int → α) (a b : List Int) (h : a.length = b.length) : (List.range a.length).map (fun i => f (a.getD i 0) (b.getD i 0)) = List.zipWith f a b := by
  refine List.ext_getElem ?_ fun i h1 h2 => ?_
  · rw [List.length_map, List.length_range, List.length_zipWith, ← h, Nat.min_self]
  · rw [List.length_map, List.length_range] at h1
    rw [List.getElem_map, List.getElem_range, List.getElem_zipWith, List.getD_eq_getElem?_getD, List.getD_eq_getElem?_getD, List.getElem?_eq_getElem h1, List.getElem?_eq_getElem (by omega)]
    rfl
theorem joinL_len {n : Nat} {a b : List Int} (ha : a.length = n) (hb : b.length = n) : (joinL a b).length = n := by unfold joinL; rw [List.length_zipWith, ha, hb, Nat.min_self]
theorem meetL_len {n : Nat} {a b : List Int} (ha : a.length = n) (hb : b.length = n) : (meetL a b).length = n := by unfold meetL; rw [List.length_zipWith, ha, hb, Nat.min_self]
theorem zw_getD (f : Int → Int → Int) {n : Nat} {a b : List Int} (ha : a.length = n) (hb : b.length = n) {i : Nat} (hi : i < n) : (List.zipWith f a b).getD i 0 = f (a.getD i 0) (b.getD i 0) := by
  rw [List.getD_eq_getElem?_getD, List.getD_eq_getElem?_getD, List.getD_eq_getElem?_getD, List.getElem?_eq_getElem (l := List.zipWith f a b) (by rw [List.length_zipWith]; omega), List.getElem?_eq_getElem (l := a) (by omega), List.getElem?_eq_getElem (l := b) (by omega), List.getElem_zipWith]
  rfl
theorem NN_getD {a : List Int} (h : NN a) (i : Nat) : 0 ≤ a.getD i 0 := by
  rw [List.getD_eq_getElem?_getD]
  cases q : a[i]? with
  | none => exact Int.le_refl 0
  | some x => exact h x (List.mem_of_getElem? q)
theorem NN_of {a : List Int} (h : ∀ i, i < a.length → 0 ≤ a.getD i 0) : NN a := fun x hx => by
  obtain ⟨i, hi, rfl⟩ := List.mem_iff_getElem.mp hx
  have := h i hi
  rw [List.getD_eq_getElem?_getD, List.getElem?_eq_getElem hi] at this
  exact this
theorem joinL_ok {n : Nat} {a b : List Int} (ha : okM n a) (hb : okM n b) : okM n (joinL a b) := by
  refine ⟨joinL_len ha.1 hb.1, NN_of fun i hi => ?_⟩
  rw [joinL_len ha.1 hb.1] at hi
  unfold joinL
  rw [zw_getD _ ha.1 hb.1 hi]
  have := NN_getD ha.2 i
  have := NN_getD hb.2 i
  unfold imax
  split <;> omega
theorem meetL_ok {n : Nat} {a b : List Int} (ha : okM n a) (hb : okM n b) : okM n (meetL a b) := by
  refine ⟨meetL_len ha.1 hb.1, NN_of fun i hi => ?_⟩
  rw [meetL_len ha.1 hb.1] at hi
  unfold meetL
  rw [zw_getD _ ha.1 hb.1 hi]
  have := NN_getD ha.2 i
  have := NN_getD hb.2 i
  unfold imin
  split <;> omega
theorem ext_n {n : Nat} {a b : List Int} (ha : a.length = n) (hb : b.length = n) (h : ∀ i, a.getD i 0 = b.getD i 0) : a = b := by
  refine List.ext_getElem (by omega) fun i h1 h2 => ?_
  have := h i
  rw [List.getD_eq_getElem?_getD, List.getD_eq_getElem?_getD, List.getElem?_eq_getElem h1, List.getElem?_eq_getElem h2] at this
  exact this
theorem getD_out {a : List Int} {i : Nat} (h : a.length ≤ i) : a.getD i 0 = 0 := by
  rw [List.getD_eq_getElem?_getD, List.getElem?_eq_none h]
  rfl
theorem jg {n : Nat} {a b : List Int} (ha : a.length = n) (hb : b.length = n) (i : Nat) : (joinL a b).getD i 0 = imax (a.getD i 0) (b.getD i 0) := by
  by_cases h : i < n
  · exact zw_getD imax ha hb h
  · rw [getD_out (by rw [joinL_len ha hb]; omega), getD_out (by omega), getD_out (by omega)]
    rfl
theorem imax_le {a b c : Int} : imax a b ≤ c ↔ a ≤ c ∧ b ≤ c := by unfold imax; split <;> omega
theorem imax_cases (a b : Int) : (imax a b = a ∧ b ≤ a) ∨ (imax a b = b ∧ a ≤ b) := by unfold imax; split <;> omega
theorem imax_swap (s m a : Int) : imax (imax s m) a = imax (imax s a) m := by
  unfold imax
  repeat' (first | omega | split)
theorem imax_idem (s a : Int) : imax (imax s a) a = imax s a := by
  unfold imax
  repeat' (first | omega | split)
theorem imax_comm (s a : Int) : imax s a = imax a s := by
  unfold imax
  repeat' (first | omega | split)
theorem imax_self (s : Int) : imax s s = s := by
  unfold imax
  repeat' (first | omega | split)
theorem take_q {α : Type} {l : List α} {j : Nat} {x : α} (q : l[j]? = some x) : l.take (j + 1) = l.take j ++ [x] := by
  rw [List.take_succ, q]
  rfl
theorem mem_take_q {α : Type} {l : List α} {j : Nat} {x y : α} (q : l[j]? = some x) : y ∈ l.take (j + 1) ↔ y ∈ l.take j ∨ y = x := by
  rw [take_q q, List.mem_append, List.mem_singleton]
/-- a tuple that is below p and has p's number at each place, among the given ones -/
def below (a b : List Int) : Prop := ∀ i, a.getD i 0 ≤ b.getD i 0
theorem befL_iff {n : Nat} {a b : List Int} (ha : a.length = n) (hb : b.length = n) : befL a b = true ↔ below a b := by
  unfold befL
  rw [← range_zip (fun x y => decide (x ≤ y)) a b (by omega), List.all_map, List.all_eq_true]
  constructor
  · intro h i
    by_cases hi : i < n
    · exact of_decide_eq_true (h i (List.mem_range.mpr (by omega)))
    · rw [getD_out (by omega), getD_out (by omega)]
      exact Int.le_refl 0
  · intro h i _
    exact decide_eq_true (h i)
abbrev ky (p : List Int) : List Key := p.map .inl
theorem ky_inj {p q : List Int} (h : ky p = ky q) : p = q := by
  induction p generalizing q with
  | nil => cases q with
    | nil => rfl
    | cons _ _ => cases h
  | cons x p ih => cases q with
    | nil => cases h
    | cons y q =>
      have h1 : (Sum.inl x : Key) = .inl y := (List.cons.inj h).1
      have h2 := (List.cons.inj h).2
      rw [ih h2, Sum.inl.inj h1]
theorem mem_ky {p : List Int} {S : List (List Int)} : ky p ∈ S.map ky ↔ p ∈ S := by
  rw [List.mem_map]
  exact ⟨fun ⟨q, hq, e⟩ => ky_inj e ▸ hq, fun h => ⟨p, h, rfl⟩⟩
/-- the set with one more -/
def addS (S : List (List Int)) (p : List Int) : List (List Int) := if p ∈ S then S else S ++ [p]
theorem putKs_ky (S : List (List Int)) (p : List Int) : putKs (S.map ky) (ky p) = (addS S p).map ky := by
  unfold putKs addS
  by_cases h : p ∈ S
  · rw [if_pos (mem_ky.mpr h), if_pos h]
  · rw [if_neg (fun z => h (mem_ky.mp z)), if_neg h, List.map_append]
    rfl
theorem mem_addS {S : List (List Int)} {p q : List Int} : q ∈ addS S p ↔ q ∈ S ∨ q = p := by
  unfold addS
  split
  · exact ⟨.inl, fun h => h.elim id fun e => e ▸ by assumption⟩
  · rw [List.mem_append, List.mem_singleton]
theorem nodup_addS {S : List (List Int)} {p : List Int} (h : S.Nodup) : (addS S p).Nodup := by
  unfold addS
  split
  · exact h
  · rename_i hp
    rw [List.nodup_append]
    exact ⟨h, List.nodup_cons.mpr ⟨fun h => (nomatch h), List.nodup_nil⟩, fun a ha b hb e => hp (by rw [List.mem_singleton.mp hb] at e; exact e ▸ ha)⟩
theorem len_addS (S : List (List Int)) (p : List Int) : (addS S p).length ≤ S.length + 1 := by
  unfold addS
  split
  · omega
  · rw [List.length_append, List.length_singleton]; exact Nat.le_refl _
theorem keys_tupI (S : List (List Int)) : (S.map ky).map (fun k => D.tup (k.map kD)) = S.map tupI := by
  rw [List.map_map]
  refine List.map_congr_left fun p _ => ?_
  show D.tup ((p.map Sum.inl).map kD) = _
  rw [List.map_map]
  rfl
theorem any_true {α : Type} (f : α → Bool) (xs : List α) (x : α) (hx : x ∈ xs) (h : f x = true) : (xs.map f).any id = true := by
  rw [List.any_map]
  exact List.any_eq_true.mpr ⟨x, hx, h⟩
theorem all_t {α : Type} (xs : List α) : (xs.map fun _ => true).all id = true := all_true _ _ fun _ _ => rfl

/-! ### sorted pairs (moment, int) -/
def pc (c : List Int × Int) : D := .tup [tupI c.1, .int c.2]
theorem toPs_ints : ∀ xs : List Int, toPs (xs.map .int) = xs.map PyData.int
  | [] => rfl
  | x :: xs => by
    show PyData.int x :: toPs (xs.map .int) = _
    rw [toPs_ints xs]
    rfl
theorem toP_pc (c : List Int × Int) : toP (pc c) = .tuple [.tuple (c.1.map .int), .int c.2] := by
  show PyData.tuple [.tuple (toPs (c.1.map .int)), .int c.2] = _
  rw [toPs_ints]
theorem lexLt_lt : ∀ xs ys : List Int, HT.lexLt xs ys = decide (xs < ys)
  | [], [] => rfl
  | [], y :: ys => by
    rw [decide_eq_true (List.nil_lt_cons _ _)]
    rfl
  | x :: xs, [] => by
    rw [decide_eq_false (List.not_lt_nil _)]
    rfl
  | x :: xs, y :: ys => by
    rw [HT.lexLt_cons, lexLt_lt xs ys]
    by_cases e : x = y
    · subst e
      rw [if_pos rfl]
      refine decide_eq_decide.mpr ?_
      rw [List.cons_lt_cons_iff]
      exact ⟨fun h => .inr ⟨rfl, h⟩, fun h => h.elim (fun h => absurd h (Int.lt_irrefl _)) fun h => h.2⟩
    · rw [if_neg e]
      refine decide_eq_decide.mpr ?_
      rw [List.cons_lt_cons_iff]
      exact ⟨.inl, fun h => h.elim id fun h => absurd h.1 e⟩
open PySem.W in
theorem pc_le {x y : List Int × Int} (h : dataLe false (fun c => toP (pc c)) x y = true) (hne : x.1 ≠ y.1) : HT.lexLt x.1 y.1 = true := by
  have h : (!dataLt (toP (pc y)) (toP (pc x))) = true := h
  rw [toP_pc, toP_pc, dataLt_pair (by rw [alike]; exact alike_ints _ _) (by rw [alike])] at h
  have e : PyData.eqv (.tuple (y.1.map .int)) (.tuple (x.1.map .int)) = false := by
    cases q : PyData.eqv (.tuple (y.1.map .int)) (.tuple (x.1.map .int)) with
    | false => rfl
    | true =>
      have := (dat_tupI.eqv y.1 x.1).mp (by show PyData.eqv (.tuple (toPs (y.1.map .int))) (.tuple (toPs (x.1.map .int))) = true; rw [toPs_ints, toPs_ints]; exact q)
      exact absurd this.symm hne
  rw [e, if_neg Bool.false_ne_true, dataLt_tuple] at h
  have h2 : rowLt (y.1.map .int) (x.1.map .int) = false := by
    rw [Bool.not_eq_true'] at h
    exact h
  rw [dataLt_ints, ← lexLt_lt] at h2
  cases q : HT.lexLt x.1 y.1 with
  | true => rfl
  | false => exact absurd (lex_tot _ _ q h2) hne
open PySem.W in
theorem gSortD_pc (cs : List (List Int × Int)) (P : D → Prop) (nd : cs.Pairwise fun x y => x.1 ≠ y.1) (h : ∀ cs' : List (List Int × Int), cs'.Perm cs → cs'.Pairwise (fun x y => HT.lexLt x.1 y.1 = true) → P (.lst (cs'.map pc))) : gSortD [.lst (cs.map pc)] P := by
  refine ⟨_, .inl rfl, fun x hx => ?_, ?_, ?_, ?_⟩
  · obtain ⟨c, _, rfl⟩ := List.mem_map.mp hx
    have p1 := dat_tupI.plain c.1
    have p2 := dat_tupI.depth c.1
    constructor
    · show PyData.plainAll [toP (tupI c.1), .int c.2] = true
      simp only [PyData.plainAll, p1, PyData.plain, Bool.and_self]
    · show PyData.depth (.tuple [toP (tupI c.1), .int c.2]) ≤ 60
      simp only [PyData.depth, PyData.depthAll]
      omega
  · rw [List.map_map]
    refine AllAlike.of fun b b' => ?_
    show alike (toP (pc b)) (toP (pc b')) = true
    rw [toP_pc, toP_pc]
    simp only [alike, alikeAll, alike_ints, Bool.and_self]
  · rw [List.map_map]
    refine Sortable.tuples fun b => ⟨_, _, toP_pc b⟩
  · have e := List.map_mergeSort (r := dataLe false fun c => toP (pc c)) (s := dataLe false toP) (f := pc) (l := cs) (fun _ _ _ _ => rfl)
    rw [← e]
    refine h _ (List.mergeSort_perm _ _) ?_
    have p1 := sort_pairwise (sortLe_total (PyProof.Rows.listOrd PyProof.Rows.itemOrd) false fun c => keyToks (toP (pc c))) cs
    have p2 : (cs.mergeSort (dataLe false fun c => toP (pc c))).Pairwise fun x y => x.1 ≠ y.1 := (List.mergeSort_perm cs _).symm.pairwise nd (fun h e => h e.symm)
    exact List.Pairwise.imp (fun h => pc_le h.1 h.2) (p1.and p2)

/-! ### a comprehension with a test that changes nothing -/
theorem lc_filt {α : Type} {g : FG} {t : FT} {fe : FE} {vs : List Nat} {P : List D → List Sl → Prop} {ρ : List Sl} (f F : α → D) (p : α → Bool) : ∀ (xs : List α) (acc : List D), acc.length + xs.length ≤ 100000 →
    (∀ x ∈ xs, ∀ (k : D → List Sl → Prop) (k0 : List Sl → Prop), (p x = true → ∀ ρ3, wipeS ρ3 vs = ρ → k (F x) ρ3) → (p x = false → ∀ ρ2, wipeS ρ2 vs = ρ → k0 ρ2) → g (f x) ρ fun ρ1 => t ρ1 fun b ρ2 => if b = true then fe ρ2 k else k0 ρ2) →
    P (acc ++ (xs.filter p).map F) ρ → lcGo g t fe vs (xs.map f) acc ρ P
  | [], acc, _, _, h => by
    rw [List.filter_nil, List.map_nil, List.append_nil] at h
    exact h
  | x :: xs, acc, hl, hs, h => by
    rw [List.length_cons] at hl
    refine hs x List.mem_cons_self _ _ (fun e ρ3 e3 => ?_) (fun e ρ2 e2 => ?_)
    · refine ⟨by omega, ?_⟩
      rw [e3]
      refine lc_filt f F p xs (acc ++ [F x]) (by rw [List.length_append, List.length_singleton]; omega) (fun y hy => hs y (List.mem_cons_of_mem _ hy)) ?_
      rw [List.filter_cons_of_pos e] at h
      rw [List.append_assoc]
      exact h
    · rw [e2]
      refine lc_filt f F p xs acc (by omega) (fun y hy => hs y (List.mem_cons_of_mem _ hy)) ?_
      rw [List.filter_cons_of_neg (by rw [e]; exact Bool.false_ne_true)] at h
      exact h

/-! ### a dict over a list of moments -/
theorem look_map (F : List Int → D) (p : List Int) : ∀ B : List (List Int), p ∈ B → look (B.map ky) (B.map F) (ky p) = some (F p)
  | [], h => (nomatch h)
  | q :: B, h => by
    rw [List.map_cons, List.map_cons]
    unfold look
    by_cases e : ky q = ky p
    · rw [if_pos e, ky_inj e]
    · rw [if_neg e]
      refine look_map F p B ?_
      rcases List.mem_cons.mp h with h | h
      · exact absurd (by rw [h]) e
      · exact h
theorem put_new (F : List Int → D) {B : List (List Int)} {p : List Int} (x : D) (h : p ∉ B) : putKs (B.map ky) (ky p) = (B ++ [p]).map ky ∧ putVs (B.map ky) (B.map F) (ky p) x = B.map F ++ [x] := by
  have : ky p ∉ B.map ky := fun z => h (mem_ky.mp z)
  unfold putKs putVs
  rw [if_neg this, if_neg this, List.map_append]
  exact ⟨rfl, rfl⟩
end DL

/-! K01B: each def of the law law_k01_whole_corners_add_up by contents (printed by gen.py). -/
namespace LK01
open PySem L2 DL
def b_before : FS := (fRet (fCall gAll (fCons (fLc (fZip (fCons (fVar 0) (fCons (fVar 1) fNil))) (gdTup 2 (gdCons (gdName 2) (gdCons (gdName 3) gdNil))) fYes (fOp gLe (fVar 2) (fVar 3)) [2, 3]) fNil)))
def g_before : GD := fun ds P => b_before (sl0 2 ds) (retP P)
def b_join_of : FS := (fRet (fCall gTuple (fCons (fLc (fZip (fCons (fVar 0) (fCons (fVar 1) fNil))) (gdTup 2 (gdCons (gdName 2) (gdCons (gdName 3) gdNil))) fYes (fCall (gInt2 fun i j => if j > i then j else i) (fCons (fVar 2) (fCons (fVar 3) fNil))) [2, 3]) fNil)))
def g_join_of : GD := fun ds P => b_join_of (sl0 2 ds) (retP P)
def b_meet_of : FS := (fRet (fCall gTuple (fCons (fLc (fZip (fCons (fVar 0) (fCons (fVar 1) fNil))) (gdTup 2 (gdCons (gdName 2) (gdCons (gdName 3) gdNil))) fYes (fCall (gInt2 fun i j => if j < i then j else i) (fCons (fVar 2) (fCons (fVar 3) fNil))) [2, 3]) fNil)))
def g_meet_of : GD := fun ds P => b_meet_of (sl0 2 ds) (retP P)
def b_corners : FS := (fSeq (fSet 1 (fLst (fCons (fTup (fCons (fTup fNil) (fCons (fC (.int 1)) fNil))) fNil)))
    (fSeq (fFor (fTupI (fVar 0)) (gdName 2) (fSeq (fSet 3 (fLc (fLstI (fVar 1)) (gdTup 2 (gdCons (gdName 5) (gdCons (gdName 6) gdNil))) fYes (fTup (fCons (fOp gAdd (fVar 5) (fTup (fCons (fVar 2) fNil))) (fCons (fVar 6) fNil))) [5, 6]))
    (fSeq (fSet 4 (fLc (fLstI (fVar 1)) (gdTup 2 (gdCons (gdName 5) (gdCons (gdName 6) gdNil))) (fTst (fOp gGt (fVar 2) (fC (.int 0)))) (fTup (fCons (fOp gAdd (fVar 5) (fTup (fCons (fOp gSub (fVar 2) (fC (.int 1))) fNil))) (fCons (fUn gNeg (fVar 6)) fNil))) [5, 6]))
    (fSet 1 (fOp gAdd (fVar 4) (fVar 3))))))
    (fRet (fCall gSortD (fCons (fVar 1) fNil)))))
def g_corners : GD := fun ds P => b_corners (sl0 6 ds) (retP P)
def b_law_pot : FS := (fSeq (fSetF 1 (fLst (fCons (fC (.int 0)) (fCons (fC (.int 20011)) (fCons (fC (.int 0)) fNil)))))
    (fSeq (fFor (fLstI (fVar 0)) (gdName 2) (fSeq (fIfS (fPureT (fAnd (fTst (fOp gEq (fOp gIx (fVar 1) (fC (.int 0))) (fC (.int 0)))) (fTst (fOp gGe (fVar 2) (fOp gPow (fC (.int 10)) (fC (.int 18))))))) (fSetO 1 (fVar 2) (fC (.int 0))) fNext)
    (fSetO 1 (fPure (fOp gMod (fCall gInt (fCons (fOp gAdd (fOp gAdd (fOp gMul (fOp gIx (fVar 1) (fC (.int 1))) (fC (.int 48271))) (fOp gMul (fVar 2) (fC (.int 69621)))) (fC (.int 7))) fNil)) (fC (.int 2147483647)))) (fC (.int 1)))))
    (fRetF (fVarF 1))))
def g_law_pot : GD := fun ds P => b_law_pot (sl0 2 ds) (retF P)
def b_law_draw : FS := (fSeq (fIfS (fPureT (fTst (fOp gGt (fOp gIx (fVar 0) (fC (.int 0))) (fC (.int 0))))) (fSeq (fSet 2 (fPure (fOp gMod (fCall gInt (fCons (fOp gIx (fVar 0) (fC (.int 0))) fNil)) (fVar 1))))
    (fSeq (fSetO 0 (fPure (fOp gDiv (fOp gIx (fVar 0) (fC (.int 0))) (fVar 1))) (fC (.int 0)))
    (fRet (fVar 2)))) fNext)
    (fSeq (fSetO 0 (fPure (fOp gAdd (fOp gIx (fVar 0) (fC (.int 2))) (fC (.int 1)))) (fC (.int 2)))
    (fSeq (fSetO 0 (fPure (fOp gMod (fCall gInt (fCons (fOp gAdd (fOp gMul (fOp gIx (fVar 0) (fC (.int 1))) (fC (.int 48271))) (fOp gMul (fOp gIx (fVar 0) (fC (.int 2))) (fC (.int 69621)))) fNil)) (fC (.int 2147483647)))) (fC (.int 1)))
    (fRet (fPure (fOp gMod (fOp gMod (fCall gInt (fCons (fOp gAdd (fOp gMul (fOp gDiv (fOp gIx (fVar 0) (fC (.int 1))) (fC (.int 32))) (fC (.int 30269))) (fOp gMod (fCall gInt (fCons (fOp gIx (fVar 0) (fC (.int 1))) fNil)) (fC (.int 8191)))) fNil)) (fC (.int 1000003))) (fVar 1)))))))
def g_law_draw : GI := fun c ds P => b_law_draw (slI 1 c ds) (retI P)
def b_law_great : FS := (fSeq (fSet 1 (fCallI 0 1 g_law_draw (fCons (fOp gPow (fC (.int 10)) (fC (.int 15))) fNil)))
    (fRet (fOp gAdd (fOp gMul (fVar 1) (fOp gPow (fC (.int 10)) (fC (.int 15)))) (fCallI 0 1 g_law_draw (fCons (fOp gPow (fC (.int 10)) (fC (.int 15))) fNil)))))
def g_law_great : GI := fun c ds P => b_law_great (slI 1 c ds) (retI P)
def b_law_amount : FS := (fSeq (fSet 1 (fCallI 0 1 g_law_draw (fCons (fC (.int 9)) fNil)))
    (fSeq (fIfS (fTst (fOp gEq (fVar 1) (fC (.int 7)))) (fRet (fCallI 0 0 g_law_great fNil)) fNext)
    (fSeq (fIfS (fTst (fOp gEq (fVar 1) (fC (.int 8)))) (fRet (fOp gSub (fC (.int 0)) (fCallI 0 0 g_law_great fNil))) fNext)
    (fRet (fOp gSub (fVar 1) (fC (.int 3)))))))
def g_law_amount : GI := fun c ds P => b_law_amount (slI 1 c ds) (retI P)
def b_law_grid : FS := (fSeq (fSet 1 (fLst (fCons (fTup fNil) fNil)))
    (fSeq (fFor (fLstI (fVar 0)) (gdName 2) (fSeq (fSetF 3 (fLst fNil))
    (fSeq (fFor (fLstI (fVar 1)) (gdName 4) (fExt 3 (fLc (fLstI (fVar 2)) (gdName 5) fYes (fOp gAdd (fVar 4) (fTup (fCons (fVar 5) fNil))) [5])))
    (fSet 1 (fVar 3)))))
    (fRet (fVar 1))))
def g_law_grid : GD := fun ds P => b_law_grid (sl0 5 ds) (retP P)
def b_law_is_integer : FS := (fRet (fAndV (fCall gIsi (fCons (fVar 0) (fCons (fC (.ty "int")) fNil))) (fNotV (fCall gIsi (fCons (fVar 0) (fCons (fC (.ty "bool")) fNil))))))
def g_law_is_integer : GD := fun ds P => b_law_is_integer (sl0 0 ds) (retP P)
def b_law_before : FS := (fRet (fCall gAll (fCons (fLc (fRng1 (fCons (fCall gLen (fCons (fVar 0) fNil)) fNil)) (gdName 2) fYes (fOp gLe (fOp gIx (fVar 0) (fVar 2)) (fOp gIx (fVar 1) (fVar 2))) [2]) fNil)))
def g_law_before : GD := fun ds P => b_law_before (sl0 1 ds) (retP P)
def b_law_meet : FS := (fRet (fCall gTuple (fCons (fLc (fRng1 (fCons (fCall gLen (fCons (fVar 0) fNil)) fNil)) (gdName 2) fYes (fCall (gInt2 fun i j => if j < i then j else i) (fCons (fOp gIx (fVar 0) (fVar 2)) (fCons (fOp gIx (fVar 1) (fVar 2)) fNil))) [2]) fNil)))
def g_law_meet : GD := fun ds P => b_law_meet (sl0 1 ds) (retP P)
def b_law_join : FS := (fRet (fCall gTuple (fCons (fLc (fRng1 (fCons (fCall gLen (fCons (fVar 0) fNil)) fNil)) (gdName 2) fYes (fCall (gInt2 fun i j => if j > i then j else i) (fCons (fOp gIx (fVar 0) (fVar 2)) (fCons (fOp gIx (fVar 1) (fVar 2)) fNil))) [2]) fNil)))
def g_law_join : GD := fun ds P => b_law_join (sl0 1 ds) (retP P)
def b_law_is_corner : FS := (fSeq (fIfS (fOr (fNot (fTst (fCall gIsi (fCons (fVar 0) (fCons (fC (.ty "tuple")) fNil))))) (fTst (fOp gNe (fCall gLen (fCons (fVar 0) fNil)) (fC (.int 2))))) (fRet (fC (.bl false))) fNext)
    (fSeq (fIfS (fOr (fNot (fTst (fCall gIsi (fCons (fOp gIx (fVar 0) (fC (.int 0))) (fCons (fC (.ty "tuple")) fNil))))) (fOr (fTst (fOp gNe (fCall gLen (fCons (fOp gIx (fVar 0) (fC (.int 0))) fNil)) (fCall gLen (fCons (fVar 1) fNil)))) (fNot (fTst (fCallP 1 g_law_is_integer (fCons (fOp gIx (fVar 0) (fC (.int 1))) fNil)))))) (fRet (fC (.bl false))) fNext)
    (fSeq (fSet 2 (fC (.int 0)))
    (fSeq (fFor (fRng1 (fCons (fCall gLen (fCons (fVar 1) fNil)) fNil)) (gdName 3) (fSeq (fIfS (fOr (fNot (fTst (fCallP 1 g_law_is_integer (fCons (fOp gIx (fOp gIx (fVar 0) (fC (.int 0))) (fVar 3)) fNil)))) (fTst (fOp gLt (fOp gIx (fOp gIx (fVar 0) (fC (.int 0))) (fVar 3)) (fC (.int 0))))) (fRet (fC (.bl false))) fNext)
    (fSeq (fIfS (fAnd (fTst (fOp gNe (fOp gIx (fOp gIx (fVar 0) (fC (.int 0))) (fVar 3)) (fOp gIx (fVar 1) (fVar 3)))) (fTst (fOp gNe (fOp gIx (fOp gIx (fVar 0) (fC (.int 0))) (fVar 3)) (fOp gSub (fOp gIx (fVar 1) (fVar 3)) (fC (.int 1)))))) (fRet (fC (.bl false))) fNext)
    (fSet 2 (fOp gAdd (fVar 2) (fCall gInt (fCons (fOp gNe (fOp gIx (fOp gIx (fVar 0) (fC (.int 0))) (fVar 3)) (fOp gIx (fVar 1) (fVar 3))) fNil)))))))
    (fRet (fOp gEq (fOp gIx (fVar 0) (fC (.int 1))) (fOp gSub (fC (.int 1)) (fOp gMul (fC (.int 2)) (fOp gMod (fCall gInt (fCons (fVar 2) fNil)) (fC (.int 2)))))))))))
def g_law_is_corner : GD := fun ds P => b_law_is_corner (sl0 2 ds) (retP P)
def b_law_are_corners : FS := (fSeq (fSet 2 (fC (.int 1)))
    (fSeq (fFor (fTupI (fVar 1)) (gdName 3) (fIfS (fTst (fOp gGt (fVar 3) (fC (.int 0)))) (fSet 2 (fOp gMul (fVar 2) (fC (.int 2)))) fNext))
    (fSeq (fIfS (fOr (fNot (fTst (fCall gIsi (fCons (fVar 0) (fCons (fC (.ty "list")) fNil))))) (fTst (fOp gNe (fCall gLen (fCons (fVar 0) fNil)) (fVar 2)))) (fRet (fC (.bl false))) fNext)
    (fSeq (fIfS (fNot (fTst (fCall gAll (fCons (fLc (fLstI (fVar 0)) (gdName 5) fYes (fCallP 2 g_law_is_corner (fCons (fVar 5) (fCons (fVar 1) fNil))) [5]) fNil)))) (fRet (fC (.bl false))) fNext)
    (fRet (fCall gAll (fCons (fLc (fRng2 (fCons (fC (.int 1)) (fCons (fVar 2) fNil))) (gdName 4) fYes (fOp gLt (fOp gIx (fOp gIx (fVar 0) (fOp gSub (fVar 4) (fC (.int 1)))) (fC (.int 0))) (fOp gIx (fOp gIx (fVar 0) (fVar 4)) (fC (.int 0)))) [4]) fNil)))))))
def g_law_are_corners : GD := fun ds P => b_law_are_corners (sl0 4 ds) (retP P)
def b_law_sum_over : FS := (fRet (fCall gSumL (fCons (fLc (fLstI (fVar 0)) (gdName 2) fYes (fOp gMul (fOp gIx (fVar 2) (fC (.int 1))) (fDGet (fVar 1) (fOp gIx (fVar 2) (fC (.int 0))))) [2]) fNil)))
def g_law_sum_over : GD := fun ds P => b_law_sum_over (sl0 1 ds) (retP P)
def b_law_moved : FS := (fSeq (fSetF 2 (fLst fNil))
    (fSeq (fFor (fTupI (fVar 1)) (gdName 3) (fIfS (fTst (fOp gEq (fCallI 0 1 g_law_draw (fCons (fC (.int 2)) fNil)) (fC (.int 1)))) (fApp 2 (fOp gAdd (fVar 3) (fCallI 0 0 g_law_great fNil))) (fApp 2 (fVar 3))))
    (fRet (fCall gTuple (fCons (fVar 2) fNil)))))
def g_law_moved : GI := fun c ds P => b_law_moved (slI 2 c ds) (retI P)
def b_law_two_hold : FS := (fSeq (fSet 4 (fCallP 2 g_meet_of (fCons (fVar 0) (fCons (fVar 1) fNil))))
    (fSeq (fSet 5 (fCallP 2 g_join_of (fCons (fVar 0) (fCons (fVar 1) fNil))))
    (fSeq (fIfS (fOr (fTst (fOp gNe (fVar 4) (fCallP 2 g_law_meet (fCons (fVar 0) (fCons (fVar 1) fNil))))) (fTst (fOp gNe (fVar 5) (fCallP 2 g_law_join (fCons (fVar 0) (fCons (fVar 1) fNil)))))) (fRet (fC (.bl false))) fNext)
    (fSeq (fFor (fLstI (fLst (fCons (fVar 0) (fCons (fVar 1) (fCons (fVar 4) (fCons (fVar 5) fNil)))))) (gdName 6) (fIfS (fTst (fOp gNe (fCall gSumL (fCons (fLc (fDicI 3) (gdName 11) (fTst (fCallP 2 g_before (fCons (fVar 11) (fCons (fVar 6) fNil)))) (fDGet (fVar 3) (fVar 11)) [11]) fNil)) (fDGet (fVar 2) (fVar 6)))) (fRet (fC (.bl false))) fNext))
    (fSeq (fSet 7 (fC (.int 0)))
    (fSeq (fSet 8 (fC (.int 0)))
    (fSeq (fFor (fDicI 3) (gdName 6) (fSeq (fSet 9 (fCallP 2 g_before (fCons (fVar 6) (fCons (fVar 0) fNil))))
    (fSeq (fSet 10 (fCallP 2 g_before (fCons (fVar 6) (fCons (fVar 1) fNil))))
    (fSeq (fIfS (fAnd (fTst (fVar 9)) (fTst (fVar 10))) (fSet 7 (fOp gAdd (fVar 7) (fDGet (fVar 3) (fVar 6)))) fNext)
    (fIfS (fOr (fTst (fVar 9)) (fTst (fVar 10))) (fSeq (fSet 8 (fOp gAdd (fVar 8) (fDGet (fVar 3) (fVar 6))))
    (fIfS (fNot (fTst (fCallP 2 g_before (fCons (fVar 6) (fCons (fVar 5) fNil))))) (fRet (fC (.bl false))) fNext)) fNext)))))
    (fRet (fAndV (fOp gEq (fVar 7) (fDGet (fVar 2) (fVar 4))) (fOp gEq (fVar 8) (fOp gSub (fOp gAdd (fDGet (fVar 2) (fVar 0)) (fDGet (fVar 2) (fVar 1))) (fDGet (fVar 2) (fVar 4)))))))))))))
def g_law_two_hold : GD := fun ds P => b_law_two_hold (sl0 8 ds) (retP P)
def b_law : FS := (fSeq (fSetF 1 (fCallP 1 g_law_pot (fCons (fVar 0) fNil)))
    (fSeq (fSet 2 (fOp gAdd (fC (.int 1)) (fCallI 1 1 g_law_draw (fCons (fC (.int 4)) fNil))))
    (fSeq (fSet 3 (fLc (fRng1 (fCons (fVar 2) fNil)) (gdName 14) fYes (fCallI 1 1 g_law_draw (fCons (fOp gIx (fLst (fCons (fC (.int 8)) (fCons (fC (.int 5)) (fCons (fC (.int 4)) (fCons (fC (.int 3)) fNil))))) (fOp gSub (fVar 2) (fC (.int 1)))) fNil)) [14]))
    (fSeq (fSet 4 (fCallP 1 g_law_grid (fCons (fLc (fLstI (fVar 3)) (gdName 15) fYes (fLstRg1 (fOp gAdd (fVar 15) (fC (.int 1)))) [15]) fNil)))
    (fSeq (fSetF 5 (fC (.dT [] [])))
    (fSeq (fFor (fLstI (fVar 4)) (gdName 6) (fDPut 5 (fCallI 1 0 g_law_amount fNil) (fVar 6)))
    (fSeq (fSetF 7 (fC (.dT [] [])))
    (fSeq (fFor (fLstI (fVar 4)) (gdName 6) (fSeq (fSet 10 (fCallP 1 g_corners (fCons (fVar 6) fNil)))
    (fSeq (fIfS (fNot (fTst (fCallP 2 g_law_are_corners (fCons (fVar 10) (fCons (fVar 6) fNil))))) (fRet (fC (.bl false))) fNext)
    (fDPut 7 (fCallP 2 g_law_sum_over (fCons (fVar 10) (fCons (fVar 5) fNil))) (fVar 6)))))
    (fSeq (fSet 8 (fOp gIx (fVar 4) (fCallI 1 1 g_law_draw (fCons (fCall gLen (fCons (fVar 4) fNil)) fNil))))
    (fSeq (fSet 9 (fOp gIx (fVar 4) (fCallI 1 1 g_law_draw (fCons (fCall gLen (fCons (fVar 4) fNil)) fNil))))
    (fSeq (fIfS (fPureT (fNot (fTst (fCallP 4 g_law_two_hold (fCons (fVar 8) (fCons (fVar 9) (fCons (fVar 5) (fCons (fVar 7) fNil)))))))) (fRet (fC (.bl false))) fNext)
    (fSeq (fSet 10 (fCallK [0] 1 1 g_corners (fCons (fVar 8) fNil)))
    (fSeq (fIfS (fNot (fTst (fCallP 2 g_law_are_corners (fCons (fVar 10) (fCons (fVar 8) fNil))))) (fRet (fC (.bl false))) fNext)
    (fSeq (fSetF 11 (fC (.dT [] [])))
    (fSeq (fFor (fLstI (fVar 10)) (gdName 12) (fDPut 11 (fPure (fCall gSumL (fCons (fLc (fLstI (fVar 4)) (gdName 6) (fTst (fCallP 2 g_law_before (fCons (fVar 6) (fCons (fOp gIx (fVar 12) (fC (.int 0))) fNil)))) (fDGet (fVar 5) (fVar 6)) [6]) fNil))) (fOp gIx (fVar 12) (fC (.int 0)))))
    (fSeq (fIfS (fPureT (fTst (fOp gNe (fCallP 2 g_law_sum_over (fCons (fVar 10) (fCons (fVar 11) fNil))) (fDGet (fVar 5) (fVar 8))))) (fRet (fC (.bl false))) fNext)
    (fSeq (fSet 13 (fCallI 1 1 g_law_moved (fCons (fVar 8) fNil)))
    (fRet (fCallP 2 g_law_are_corners (fCons (fCallP 1 g_corners (fCons (fVar 13) fNil)) (fCons (fVar 13) fNil)))))))))))))))))))))
def g_law : GD := fun ds P => b_law (sl0 15 ds) (retP P)
end LK01

/-! K01W: the walk of each def (printed by gen.py). -/
namespace LK01
open PySem L2 DL
def topS (i : Nat) : Stmt := PySem.Challenge.pw_deltamill_k01_whole_corners_add_up.main.body.getD i (.Pass ⟨0, 0, 0, 0⟩)
structure Txt (mg : Str → Option Value) : Prop where
  z_all : mg "all" = none
  z_bool : mg "bool" = none
  z_int : mg "int" = none
  z_isinstance : mg "isinstance" = none
  z_len : mg "len" = none
  z_list : mg "list" = none
  z_max : mg "max" = none
  z_min : mg "min" = none
  z_range : mg "range" = none
  z_sorted : mg "sorted" = none
  z_sum : mg "sum" = none
  z_tuple : mg "tuple" = none
  z_zip : mg "zip" = none
section
variable {P : Program} {w : World} {K : PySem.W.Frag} {mg : Str → Option Value} {base : Heap}
abbrev s_before : Stmt := topS 1
theorem sc_before : FnScope ["first", "second", "left", "right"] ["first", "second"] (defScope s_before) := ⟨rfl, rfl, rfl, by decide +kernel, rfl, by decide +kernel, by decide +kernel⟩
theorem ok_before {f : Addr} {fd : FuncData} (F : Fun K "before" "before" s_before f fd) (T : Txt mg)  : FnOk P w K mg base CX0 1 f fd ["first", "second"] (spP K 2 g_before) :=
  fn_pure F sc_before g_before (by decide) (fun cdv A outer s H E hr => ⟨b_before, (pssd_one (psd_ret (pd_b cd_all (by rfl) T.z_all (pad_cons (PEF.val (pf_lc [("left", 2), ("right", 3)] sc_before.nd (pid_zip (by rfl) T.z_zip (pad_cons (pd_v 0) (pad_cons (pd_v 1) pad_nil))) (blkOk_by (own := [("left", 2), ("right", 3)]) (N := ["first", "second", "left", "right"]) (sc := defScope s_before) (by decide +kernel)) (fun _ _ _ _ _ => (pgd_tup rfl (pgsd_cons (pgd_name 2 sc_before.nd) (pgsd_cons (pgd_name 3 sc_before.nd) pgsd_nil)))) (fun _ _ _ _ _ => ptsd_nil) (fun _ _ _ _ _ => (pd_cmp od_le (pd_v 2) (pd_v 3))))) pad_nil)))), fun ds Pd _ h => h⟩)
abbrev s_join_of : Stmt := topS 2
theorem sc_join_of : FnScope ["first", "second", "left", "right"] ["first", "second"] (defScope s_join_of) := ⟨rfl, rfl, rfl, by decide +kernel, rfl, by decide +kernel, by decide +kernel⟩
theorem ok_join_of {f : Addr} {fd : FuncData} (F : Fun K "join_of" "join_of" s_join_of f fd) (T : Txt mg)  : FnOk P w K mg base CX0 1 f fd ["first", "second"] (spP K 2 g_join_of) :=
  fn_pure F sc_join_of g_join_of (by decide) (fun cdv A outer s H E hr => ⟨b_join_of, (pssd_one (psd_ret (pd_t cd_tuple (by rfl) T.z_tuple (pad_cons (PEF.val (pf_lc [("left", 2), ("right", 3)] sc_join_of.nd (pid_zip (by rfl) T.z_zip (pad_cons (pd_v 0) (pad_cons (pd_v 1) pad_nil))) (blkOk_by (own := [("left", 2), ("right", 3)]) (N := ["first", "second", "left", "right"]) (sc := defScope s_join_of) (by decide +kernel)) (fun _ _ _ _ _ => (pgd_tup rfl (pgsd_cons (pgd_name 2 sc_join_of.nd) (pgsd_cons (pgd_name 3 sc_join_of.nd) pgsd_nil)))) (fun _ _ _ _ _ => ptsd_nil) (fun _ _ _ _ _ => (pd_b cd_max (by rfl) T.z_max (pad_cons (pd_v 2) (pad_cons (pd_v 3) pad_nil)))))) pad_nil)))), fun ds Pd _ h => h⟩)
abbrev s_meet_of : Stmt := topS 3
theorem sc_meet_of : FnScope ["first", "second", "left", "right"] ["first", "second"] (defScope s_meet_of) := ⟨rfl, rfl, rfl, by decide +kernel, rfl, by decide +kernel, by decide +kernel⟩
theorem ok_meet_of {f : Addr} {fd : FuncData} (F : Fun K "meet_of" "meet_of" s_meet_of f fd) (T : Txt mg)  : FnOk P w K mg base CX0 1 f fd ["first", "second"] (spP K 2 g_meet_of) :=
  fn_pure F sc_meet_of g_meet_of (by decide) (fun cdv A outer s H E hr => ⟨b_meet_of, (pssd_one (psd_ret (pd_t cd_tuple (by rfl) T.z_tuple (pad_cons (PEF.val (pf_lc [("left", 2), ("right", 3)] sc_meet_of.nd (pid_zip (by rfl) T.z_zip (pad_cons (pd_v 0) (pad_cons (pd_v 1) pad_nil))) (blkOk_by (own := [("left", 2), ("right", 3)]) (N := ["first", "second", "left", "right"]) (sc := defScope s_meet_of) (by decide +kernel)) (fun _ _ _ _ _ => (pgd_tup rfl (pgsd_cons (pgd_name 2 sc_meet_of.nd) (pgsd_cons (pgd_name 3 sc_meet_of.nd) pgsd_nil)))) (fun _ _ _ _ _ => ptsd_nil) (fun _ _ _ _ _ => (pd_b cd_min (by rfl) T.z_min (pad_cons (pd_v 2) (pad_cons (pd_v 3) pad_nil)))))) pad_nil)))), fun ds Pd _ h => h⟩)
abbrev s_corners : Stmt := topS 4
theorem sc_corners : FnScope ["moment", "found", "coordinate", "unchanged", "lowered", "corner", "sign"] ["moment"] (defScope s_corners) := ⟨rfl, rfl, rfl, by decide +kernel, rfl, by decide +kernel, by decide +kernel⟩
theorem ok_corners {f : Addr} {fd : FuncData} (F : Fun K "corners" "corners" s_corners f fd) (T : Txt mg)  : FnOk P w K mg base CX0 1 f fd ["moment"] (spP K 1 g_corners) :=
  fn_pure F sc_corners g_corners (by decide) (fun cdv A outer s H E hr => ⟨b_corners, (pssd_cons (psd_set 1 (PEF.val (pf_lst (pad_cons (pd_tup (pad_cons (pd_tup pad_nil) (pad_cons pd_int pad_nil))) pad_nil))) sc_corners.nd)
      (pssd_cons (psd_for PassesOwn.never rfl (pid_t (pd_v 0)) (pgd_name 2 sc_corners.nd) (pssd_cons (psd_setLc 3 [("corner", 5), ("sign", 6)] sc_corners.nd (pid_l (pd_v 1)) (blkOk_by (own := [("corner", 5), ("sign", 6)]) (N := ["moment", "found", "coordinate", "unchanged", "lowered", "corner", "sign"]) (sc := defScope s_corners) (by decide +kernel)) (fun _ _ _ _ _ => (pgd_tup rfl (pgsd_cons (pgd_name 5 sc_corners.nd) (pgsd_cons (pgd_name 6 sc_corners.nd) pgsd_nil)))) (fun _ _ _ _ _ => ptsd_nil) (fun _ _ _ _ _ => (pd_tup (pad_cons (pd_op od_add (pd_v 5) (pd_tup (pad_cons (pd_v 2) pad_nil))) (pad_cons (pd_v 6) pad_nil)))))
      (pssd_cons (psd_setLc 4 [("corner", 5), ("sign", 6)] sc_corners.nd (pid_l (pd_v 1)) (blkOk_by (own := [("corner", 5), ("sign", 6)]) (N := ["moment", "found", "coordinate", "unchanged", "lowered", "corner", "sign"]) (sc := defScope s_corners) (by decide +kernel)) (fun _ _ _ _ _ => (pgd_tup rfl (pgsd_cons (pgd_name 5 sc_corners.nd) (pgsd_cons (pgd_name 6 sc_corners.nd) pgsd_nil)))) (fun _ _ _ _ _ => (ptsd_one (pt_cmpD od_gt (pd_v 2) pd_int))) (fun _ _ _ _ _ => (pd_tup (pad_cons (pd_op od_add (pd_v 5) (pd_tup (pad_cons (pd_op od_sub (pd_v 2) pd_int) pad_nil))) (pad_cons (pd_un ud_neg (pd_v 6)) pad_nil)))))
      (pssd_one (psd_set 1 (pd_op od_add (pd_v 4) (pd_v 3)) sc_corners.nd)))))
      (pssd_one (psd_ret (PEF.val (pf_b (cf_sortD hr.units) (by rfl) T.z_sorted (pad_cons (pd_v 1) pad_nil))))))), fun ds Pd _ h => h⟩)
abbrev s_law_pot : Stmt := topS 6
theorem sc_law_pot : FnScope ["_law_script", "_law_pot_here", "_law_cell"] ["_law_script"] (defScope s_law_pot) := ⟨rfl, rfl, rfl, by decide +kernel, rfl, by decide +kernel, by decide +kernel⟩
theorem ok_law_pot {f : Addr} {fd : FuncData} (F : Fun K "_law_pot" "_law_pot" s_law_pot f fd) (T : Txt mg)  : FnOk P w K mg base CX0 1 f fd ["_law_script"] (spF K 1 g_law_pot) :=
  fn_fresh F sc_law_pot g_law_pot (by decide) (fun cdv A outer s H E hr => ⟨b_law_pot, (pssd_cons (psd_setF 1 (pf_lst (pad_cons pd_int (pad_cons pd_int (pad_cons pd_int pad_nil)))) sc_law_pot.nd)
      (pssd_cons (psd_for PassesOwn.never rfl (pid_l (pd_v 0)) (pgd_name 2 sc_law_pot.nd) (pssd_cons (psd_if (pt_pure (PWD.pt (pwd_and (pt_cmpD (od_eq hr.units) (pd_ix (pd_v 1) pd_int) pd_int) (pwd_and1 (pt_cmpD od_ge (pd_v 2) (pd_op od_pow pd_int pd_int)))))) (pssd_one (psd_setO 1 (pd_v 2) pd_int)) pssd_nil)
      (pssd_one (psd_setO 1 (pd_pure (pd_op od_mod (pd_t cd_int (by rfl) T.z_int (pad_cons (pd_op od_add (pd_op od_add (pd_op od_mul (pd_ix (pd_v 1) pd_int) pd_int) (pd_op od_mul (pd_v 2) pd_int)) pd_int) pad_nil)) pd_int)) pd_int))))
      (pssd_one (psd_retF (pf_v 1))))), fun ds Pd _ h => h⟩)
abbrev s_law_draw : Stmt := topS 7
theorem sc_law_draw : FnScope ["_law_pot_here", "_law_size", "_law_digit"] ["_law_pot_here", "_law_size"] (defScope s_law_draw) := ⟨rfl, rfl, rfl, by decide +kernel, rfl, by decide +kernel, by decide +kernel⟩
theorem ok_law_draw {f : Addr} {fd : FuncData} (F : Fun K "_law_draw" "_law_draw" s_law_draw f fd) (T : Txt mg)  : FnOk P w K mg base CX0 1 f fd ["_law_pot_here", "_law_size"] (spI K 1 g_law_draw) :=
  fn_io F sc_law_draw 1 g_law_draw rfl (by decide) (fun cdv A outer s H E p hr => ⟨b_law_draw, (pssd_cons (psd_if (pt_pure (pt_cmpD od_gt (pd_ix (pd_v 0) pd_int) pd_int)) (pssd_cons (psd_set 2 (pd_pure (pd_op od_mod (pd_t cd_int (by rfl) T.z_int (pad_cons (pd_ix (pd_v 0) pd_int) pad_nil)) (pd_v 1))) sc_law_draw.nd)
      (pssd_cons (psd_setO 0 (pd_pure (pd_op od_div (pd_ix (pd_v 0) pd_int) (pd_v 1))) pd_int)
      (pssd_one (psd_ret (pd_v 2))))) pssd_nil)
      (pssd_cons (psd_setO 0 (pd_pure (pd_op od_add (pd_ix (pd_v 0) pd_int) pd_int)) pd_int)
      (pssd_cons (psd_setO 0 (pd_pure (pd_op od_mod (pd_t cd_int (by rfl) T.z_int (pad_cons (pd_op od_add (pd_op od_mul (pd_ix (pd_v 0) pd_int) pd_int) (pd_op od_mul (pd_ix (pd_v 0) pd_int) pd_int)) pad_nil)) pd_int)) pd_int)
      (pssd_one (psd_ret (pd_pure (pd_op od_mod (pd_op od_mod (pd_t cd_int (by rfl) T.z_int (pad_cons (pd_op od_add (pd_op od_mul (pd_op od_div (pd_ix (pd_v 0) pd_int) pd_int) pd_int) (pd_op od_mod (pd_t cd_int (by rfl) T.z_int (pad_cons (pd_ix (pd_v 0) pd_int) pad_nil)) pd_int)) pad_nil)) pd_int) (pd_v 1)))))))), fun c ds Pd _ h => h⟩)
abbrev s_law_great : Stmt := topS 8
theorem sc_law_great : FnScope ["_law_pot_here", "_law_high"] ["_law_pot_here"] (defScope s_law_great) := ⟨rfl, rfl, rfl, by decide +kernel, rfl, by decide +kernel, by decide +kernel⟩
theorem ok_law_great {f : Addr} {fd : FuncData} (F : Fun K "_law_great" "_law_great" s_law_great f fd) (T : Txt mg) (d_law_draw : Df P w K mg base 1 "_law_draw" ["_law_pot_here", "_law_size"] (spI K 1 g_law_draw)) : FnOk P w K mg base CX0 2 f fd ["_law_pot_here"] (spI K 0 g_law_great) :=
  fn_io F sc_law_great 0 g_law_great rfl (by decide) (fun cdv A outer s H E p hr => ⟨b_law_great, (pssd_cons (psd_set 1 (pd_i 0 d_law_draw (hr.mono (by decide)) (pad_cons (pd_op od_pow pd_int pd_int) pad_nil)) sc_law_great.nd)
      (pssd_one (psd_ret (pd_op od_add (pd_op od_mul (pd_v 1) (pd_op od_pow pd_int pd_int)) (pd_i 0 d_law_draw (hr.mono (by decide)) (pad_cons (pd_op od_pow pd_int pd_int) pad_nil)))))), fun c ds Pd _ h => h⟩)
abbrev s_law_amount : Stmt := topS 9
theorem sc_law_amount : FnScope ["_law_pot_here", "_law_pick"] ["_law_pot_here"] (defScope s_law_amount) := ⟨rfl, rfl, rfl, by decide +kernel, rfl, by decide +kernel, by decide +kernel⟩
theorem ok_law_amount {f : Addr} {fd : FuncData} (F : Fun K "_law_amount" "_law_amount" s_law_amount f fd) (T : Txt mg) (d_law_draw : Df P w K mg base 1 "_law_draw" ["_law_pot_here", "_law_size"] (spI K 1 g_law_draw)) (d_law_great : Df P w K mg base 2 "_law_great" ["_law_pot_here"] (spI K 0 g_law_great)) : FnOk P w K mg base CX0 3 f fd ["_law_pot_here"] (spI K 0 g_law_amount) :=
  fn_io F sc_law_amount 0 g_law_amount rfl (by decide) (fun cdv A outer s H E p hr => ⟨b_law_amount, (pssd_cons (psd_set 1 (pd_i 0 d_law_draw (hr.mono (by decide)) (pad_cons pd_int pad_nil)) sc_law_amount.nd)
      (pssd_cons (psd_if (pt_cmpD (od_eq hr.units) (pd_v 1) pd_int) (pssd_one (psd_ret (pd_i 0 d_law_great (hr.mono (by decide)) pad_nil))) pssd_nil)
      (pssd_cons (psd_if (pt_cmpD (od_eq hr.units) (pd_v 1) pd_int) (pssd_one (psd_ret (pd_op od_sub pd_int (pd_i 0 d_law_great (hr.mono (by decide)) pad_nil)))) pssd_nil)
      (pssd_one (psd_ret (pd_op od_sub (pd_v 1) pd_int)))))), fun c ds Pd _ h => h⟩)
abbrev s_law_grid : Stmt := topS 10
theorem sc_law_grid : FnScope ["_law_levels", "_law_grid_here", "_law_row", "_law_longer", "_law_head", "_law_level"] ["_law_levels"] (defScope s_law_grid) := ⟨rfl, rfl, rfl, by decide +kernel, rfl, by decide +kernel, by decide +kernel⟩
theorem ok_law_grid {f : Addr} {fd : FuncData} (F : Fun K "_law_grid" "_law_grid" s_law_grid f fd) (T : Txt mg)  : FnOk P w K mg base CX0 1 f fd ["_law_levels"] (spP K 1 g_law_grid) :=
  fn_pure F sc_law_grid g_law_grid (by decide) (fun cdv A outer s H E hr => ⟨b_law_grid, (pssd_cons (psd_set 1 (PEF.val (pf_lst (pad_cons (pd_tup pad_nil) pad_nil))) sc_law_grid.nd)
      (pssd_cons (psd_for PassesOwn.never rfl (pid_l (pd_v 0)) (pgd_name 2 sc_law_grid.nd) (pssd_cons (psd_setF 3 (pf_lst pad_nil) sc_law_grid.nd)
      (pssd_cons (psd_for PassesOwn.never rfl (pid_l (pd_v 1)) (pgd_name 4 sc_law_grid.nd) (pssd_one (psd_ext 3 (PEF.val (pf_lc [("_law_level", 5)] sc_law_grid.nd (pid_l (pd_v 2)) (blkOk_by (own := [("_law_level", 5)]) (N := ["_law_levels", "_law_grid_here", "_law_row", "_law_longer", "_law_head", "_law_level"]) (sc := defScope s_law_grid) (by decide +kernel)) (fun _ _ _ _ _ => (pgd_name 5 sc_law_grid.nd)) (fun _ _ _ _ _ => ptsd_nil) (fun _ _ _ _ _ => (pd_op od_add (pd_v 4) (pd_tup (pad_cons (pd_v 5) pad_nil)))))))))
      (pssd_one (psd_set 1 (pd_v 3) sc_law_grid.nd)))))
      (pssd_one (psd_ret (pd_v 1))))), fun ds Pd _ h => h⟩)
abbrev s_law_is_integer : Stmt := topS 11
theorem sc_law_is_integer : FnScope ["_law_told"] ["_law_told"] (defScope s_law_is_integer) := ⟨rfl, rfl, rfl, by decide +kernel, rfl, by decide +kernel, by decide +kernel⟩
theorem ok_law_is_integer {f : Addr} {fd : FuncData} (F : Fun K "_law_is_integer" "_law_is_integer" s_law_is_integer f fd) (T : Txt mg)  : FnOk P w K mg base CX0 1 f fd ["_law_told"] (spP K 1 g_law_is_integer) :=
  fn_pure F sc_law_is_integer g_law_is_integer (by decide) (fun cdv A outer s H E hr => ⟨b_law_is_integer, (pssd_one (psd_ret (pd_and (pd_b cd_isi (by rfl) T.z_isinstance (pad_cons (pd_v 0) (pad_cons (pd_ty (n := "int") (by rfl) T.z_int) pad_nil))) (pd_one (pd_not (pd_b cd_isi (by rfl) T.z_isinstance (pad_cons (pd_v 0) (pad_cons (pd_ty (n := "bool") (by rfl) T.z_bool) pad_nil)))))))), fun ds Pd _ h => h⟩)
abbrev s_law_before : Stmt := topS 12
theorem sc_law_before : FnScope ["_law_one", "_law_other", "_law_k"] ["_law_one", "_law_other"] (defScope s_law_before) := ⟨rfl, rfl, rfl, by decide +kernel, rfl, by decide +kernel, by decide +kernel⟩
theorem ok_law_before {f : Addr} {fd : FuncData} (F : Fun K "_law_before" "_law_before" s_law_before f fd) (T : Txt mg)  : FnOk P w K mg base CX0 1 f fd ["_law_one", "_law_other"] (spP K 2 g_law_before) :=
  fn_pure F sc_law_before g_law_before (by decide) (fun cdv A outer s H E hr => ⟨b_law_before, (pssd_one (psd_ret (pd_b cd_all (by rfl) T.z_all (pad_cons (PEF.val (pf_lc [("_law_k", 2)] sc_law_before.nd (pid_range1 (by rfl) T.z_range (pad_cons (pd_b cd_len (by rfl) T.z_len (pad_cons (pd_v 0) pad_nil)) pad_nil)) (blkOk_by (own := [("_law_k", 2)]) (N := ["_law_one", "_law_other", "_law_k"]) (sc := defScope s_law_before) (by decide +kernel)) (fun _ _ _ _ _ => (pgd_name 2 sc_law_before.nd)) (fun _ _ _ _ _ => ptsd_nil) (fun _ _ _ _ _ => (pd_cmp od_le (pd_ix (pd_v 0) (pd_v 2)) (pd_ix (pd_v 1) (pd_v 2)))))) pad_nil)))), fun ds Pd _ h => h⟩)
abbrev s_law_meet : Stmt := topS 13
theorem sc_law_meet : FnScope ["_law_one", "_law_other", "_law_k"] ["_law_one", "_law_other"] (defScope s_law_meet) := ⟨rfl, rfl, rfl, by decide +kernel, rfl, by decide +kernel, by decide +kernel⟩
theorem ok_law_meet {f : Addr} {fd : FuncData} (F : Fun K "_law_meet" "_law_meet" s_law_meet f fd) (T : Txt mg)  : FnOk P w K mg base CX0 1 f fd ["_law_one", "_law_other"] (spP K 2 g_law_meet) :=
  fn_pure F sc_law_meet g_law_meet (by decide) (fun cdv A outer s H E hr => ⟨b_law_meet, (pssd_one (psd_ret (pd_t cd_tuple (by rfl) T.z_tuple (pad_cons (PEF.val (pf_lc [("_law_k", 2)] sc_law_meet.nd (pid_range1 (by rfl) T.z_range (pad_cons (pd_b cd_len (by rfl) T.z_len (pad_cons (pd_v 0) pad_nil)) pad_nil)) (blkOk_by (own := [("_law_k", 2)]) (N := ["_law_one", "_law_other", "_law_k"]) (sc := defScope s_law_meet) (by decide +kernel)) (fun _ _ _ _ _ => (pgd_name 2 sc_law_meet.nd)) (fun _ _ _ _ _ => ptsd_nil) (fun _ _ _ _ _ => (pd_b cd_min (by rfl) T.z_min (pad_cons (pd_ix (pd_v 0) (pd_v 2)) (pad_cons (pd_ix (pd_v 1) (pd_v 2)) pad_nil)))))) pad_nil)))), fun ds Pd _ h => h⟩)
abbrev s_law_join : Stmt := topS 14
theorem sc_law_join : FnScope ["_law_one", "_law_other", "_law_k"] ["_law_one", "_law_other"] (defScope s_law_join) := ⟨rfl, rfl, rfl, by decide +kernel, rfl, by decide +kernel, by decide +kernel⟩
theorem ok_law_join {f : Addr} {fd : FuncData} (F : Fun K "_law_join" "_law_join" s_law_join f fd) (T : Txt mg)  : FnOk P w K mg base CX0 1 f fd ["_law_one", "_law_other"] (spP K 2 g_law_join) :=
  fn_pure F sc_law_join g_law_join (by decide) (fun cdv A outer s H E hr => ⟨b_law_join, (pssd_one (psd_ret (pd_t cd_tuple (by rfl) T.z_tuple (pad_cons (PEF.val (pf_lc [("_law_k", 2)] sc_law_join.nd (pid_range1 (by rfl) T.z_range (pad_cons (pd_b cd_len (by rfl) T.z_len (pad_cons (pd_v 0) pad_nil)) pad_nil)) (blkOk_by (own := [("_law_k", 2)]) (N := ["_law_one", "_law_other", "_law_k"]) (sc := defScope s_law_join) (by decide +kernel)) (fun _ _ _ _ _ => (pgd_name 2 sc_law_join.nd)) (fun _ _ _ _ _ => ptsd_nil) (fun _ _ _ _ _ => (pd_b cd_max (by rfl) T.z_max (pad_cons (pd_ix (pd_v 0) (pd_v 2)) (pad_cons (pd_ix (pd_v 1) (pd_v 2)) pad_nil)))))) pad_nil)))), fun ds Pd _ h => h⟩)
abbrev s_law_is_corner : Stmt := topS 15
theorem sc_law_is_corner : FnScope ["_law_pair", "_law_spot", "_law_lowered", "_law_k"] ["_law_pair", "_law_spot"] (defScope s_law_is_corner) := ⟨rfl, rfl, rfl, by decide +kernel, rfl, by decide +kernel, by decide +kernel⟩
theorem ok_law_is_corner {f : Addr} {fd : FuncData} (F : Fun K "_law_is_corner" "_law_is_corner" s_law_is_corner f fd) (T : Txt mg) (d_law_is_integer : Df P w K mg base 1 "_law_is_integer" ["_law_told"] (spP K 1 g_law_is_integer)) : FnOk P w K mg base CX0 2 f fd ["_law_pair", "_law_spot"] (spP K 2 g_law_is_corner) :=
  fn_pure F sc_law_is_corner g_law_is_corner (by decide) (fun cdv A outer s H E hr => ⟨b_law_is_corner, (pssd_cons (psd_if (PWD.pt (pwd_or (pt_notD (pt_valD (pd_b cd_isi (by rfl) T.z_isinstance (pad_cons (pd_v 0) (pad_cons (pd_ty (n := "tuple") (by rfl) T.z_tuple) pad_nil))))) (pwd_or1 (pt_cmpD (od_ne hr.units) (pd_b cd_len (by rfl) T.z_len (pad_cons (pd_v 0) pad_nil)) pd_int)))) (pssd_one (psd_ret pd_bl)) pssd_nil)
      (pssd_cons (psd_if (PWD.pt (pwd_or (pt_notD (pt_valD (pd_b cd_isi (by rfl) T.z_isinstance (pad_cons (pd_ix (pd_v 0) pd_int) (pad_cons (pd_ty (n := "tuple") (by rfl) T.z_tuple) pad_nil))))) (pwd_or (pt_cmpD (od_ne hr.units) (pd_b cd_len (by rfl) T.z_len (pad_cons (pd_ix (pd_v 0) pd_int) pad_nil)) (pd_b cd_len (by rfl) T.z_len (pad_cons (pd_v 1) pad_nil))) (pwd_or1 (pt_notD (pt_valD (pd_c d_law_is_integer (hr.mono (by decide)) (pad_cons (pd_ix (pd_v 0) pd_int) pad_nil)))))))) (pssd_one (psd_ret pd_bl)) pssd_nil)
      (pssd_cons (psd_set 2 pd_int sc_law_is_corner.nd)
      (pssd_cons (psd_for PassesOwn.never rfl (pid_range1 (by rfl) T.z_range (pad_cons (pd_b cd_len (by rfl) T.z_len (pad_cons (pd_v 1) pad_nil)) pad_nil)) (pgd_name 3 sc_law_is_corner.nd) (pssd_cons (psd_if (PWD.pt (pwd_or (pt_notD (pt_valD (pd_c d_law_is_integer (hr.mono (by decide)) (pad_cons (pd_ix (pd_ix (pd_v 0) pd_int) (pd_v 3)) pad_nil)))) (pwd_or1 (pt_cmpD (od_lt hr.units) (pd_ix (pd_ix (pd_v 0) pd_int) (pd_v 3)) pd_int)))) (pssd_one (psd_ret pd_bl)) pssd_nil)
      (pssd_cons (psd_if (PWD.pt (pwd_and (pt_cmpD (od_ne hr.units) (pd_ix (pd_ix (pd_v 0) pd_int) (pd_v 3)) (pd_ix (pd_v 1) (pd_v 3))) (pwd_and1 (pt_cmpD (od_ne hr.units) (pd_ix (pd_ix (pd_v 0) pd_int) (pd_v 3)) (pd_op od_sub (pd_ix (pd_v 1) (pd_v 3)) pd_int))))) (pssd_one (psd_ret pd_bl)) pssd_nil)
      (pssd_one (psd_set 2 (pd_op od_add (pd_v 2) (pd_t cd_int (by rfl) T.z_int (pad_cons (pd_cmp (od_ne hr.units) (pd_ix (pd_ix (pd_v 0) pd_int) (pd_v 3)) (pd_ix (pd_v 1) (pd_v 3))) pad_nil))) sc_law_is_corner.nd)))))
      (pssd_one (psd_ret (pd_cmp (od_eq hr.units) (pd_ix (pd_v 0) pd_int) (pd_op od_sub pd_int (pd_op od_mul pd_int (pd_op od_mod (pd_t cd_int (by rfl) T.z_int (pad_cons (pd_v 2) pad_nil)) pd_int)))))))))), fun ds Pd _ h => h⟩)
abbrev s_law_are_corners : Stmt := topS 16
theorem sc_law_are_corners : FnScope ["_law_told", "_law_spot", "_law_due", "_law_one", "_law_k", "_law_pair"] ["_law_told", "_law_spot"] (defScope s_law_are_corners) := ⟨rfl, rfl, rfl, by decide +kernel, rfl, by decide +kernel, by decide +kernel⟩
theorem ok_law_are_corners {f : Addr} {fd : FuncData} (F : Fun K "_law_are_corners" "_law_are_corners" s_law_are_corners f fd) (T : Txt mg) (d_law_is_corner : Df P w K mg base 2 "_law_is_corner" ["_law_pair", "_law_spot"] (spP K 2 g_law_is_corner)) : FnOk P w K mg base CX0 3 f fd ["_law_told", "_law_spot"] (spP K 2 g_law_are_corners) :=
  fn_pure F sc_law_are_corners g_law_are_corners (by decide) (fun cdv A outer s H E hr => ⟨b_law_are_corners, (pssd_cons (psd_set 2 pd_int sc_law_are_corners.nd)
      (pssd_cons (psd_for PassesOwn.never rfl (pid_t (pd_v 1)) (pgd_name 3 sc_law_are_corners.nd) (pssd_one (psd_if (pt_cmpD od_gt (pd_v 3) pd_int) (pssd_one (psd_set 2 (pd_op od_mul (pd_v 2) pd_int) sc_law_are_corners.nd)) pssd_nil)))
      (pssd_cons (psd_if (PWD.pt (pwd_or (pt_notD (pt_valD (pd_b cd_isi (by rfl) T.z_isinstance (pad_cons (pd_v 0) (pad_cons (pd_ty (n := "list") (by rfl) T.z_list) pad_nil))))) (pwd_or1 (pt_cmpD (od_ne hr.units) (pd_b cd_len (by rfl) T.z_len (pad_cons (pd_v 0) pad_nil)) (pd_v 2))))) (pssd_one (psd_ret pd_bl)) pssd_nil)
      (pssd_cons (psd_if (pt_notD (pt_valD (pd_b cd_all (by rfl) T.z_all (pad_cons (PEF.val (pf_lc [("_law_pair", 5)] sc_law_are_corners.nd (pid_l (pd_v 0)) (blkOk_by (own := [("_law_pair", 5)]) (N := ["_law_told", "_law_spot", "_law_due", "_law_one", "_law_k", "_law_pair"]) (sc := defScope s_law_are_corners) (by decide +kernel)) (fun _ _ _ _ _ => (pgd_name 5 sc_law_are_corners.nd)) (fun _ _ _ _ _ => ptsd_nil) (fun _ _ _ _ _ => (pd_c d_law_is_corner (hr.mono (by decide)) (pad_cons (pd_v 5) (pad_cons (pd_v 1) pad_nil)))))) pad_nil)))) (pssd_one (psd_ret pd_bl)) pssd_nil)
      (pssd_one (psd_ret (pd_b cd_all (by rfl) T.z_all (pad_cons (PEF.val (pf_lc [("_law_k", 4)] sc_law_are_corners.nd (pid_range2 (by rfl) T.z_range (pad_cons pd_int (pad_cons (pd_v 2) pad_nil))) (blkOk_by (own := [("_law_k", 4)]) (N := ["_law_told", "_law_spot", "_law_due", "_law_one", "_law_k", "_law_pair"]) (sc := defScope s_law_are_corners) (by decide +kernel)) (fun _ _ _ _ _ => (pgd_name 4 sc_law_are_corners.nd)) (fun _ _ _ _ _ => ptsd_nil) (fun _ _ _ _ _ => (pd_cmp (od_lt hr.units) (pd_ix (pd_ix (pd_v 0) (pd_op od_sub (pd_v 4) pd_int)) pd_int) (pd_ix (pd_ix (pd_v 0) (pd_v 4)) pd_int))))) pad_nil)))))))), fun ds Pd _ h => h⟩)
abbrev s_law_sum_over : Stmt := topS 17
theorem sc_law_sum_over : FnScope ["_law_told", "_law_table", "_law_pair"] ["_law_told", "_law_table"] (defScope s_law_sum_over) := ⟨rfl, rfl, rfl, by decide +kernel, rfl, by decide +kernel, by decide +kernel⟩
theorem ok_law_sum_over {f : Addr} {fd : FuncData} (F : Fun K "_law_sum_over" "_law_sum_over" s_law_sum_over f fd) (T : Txt mg)  : FnOk P w K mg base CX0 1 f fd ["_law_told", "_law_table"] (spP K 2 g_law_sum_over) :=
  fn_pure F sc_law_sum_over g_law_sum_over (by decide) (fun cdv A outer s H E hr => ⟨b_law_sum_over, (pssd_one (psd_ret (pd_b cd_sum (by rfl) T.z_sum (pad_cons (PEF.val (pf_lc [("_law_pair", 2)] sc_law_sum_over.nd (pid_l (pd_v 0)) (blkOk_by (own := [("_law_pair", 2)]) (N := ["_law_told", "_law_table", "_law_pair"]) (sc := defScope s_law_sum_over) (by decide +kernel)) (fun _ _ _ _ _ => (pgd_name 2 sc_law_sum_over.nd)) (fun _ _ _ _ _ => ptsd_nil) (fun _ _ _ _ _ => (pd_op od_mul (pd_ix (pd_v 2) pd_int) (pd_dget (hu_of hr) (pd_v 1) (pd_ix (pd_v 2) pd_int)))))) pad_nil)))), fun ds Pd _ h => h⟩)
abbrev s_law_moved : Stmt := topS 18
theorem sc_law_moved : FnScope ["_law_pot_here", "_law_spot", "_law_moved_here", "_law_one"] ["_law_pot_here", "_law_spot"] (defScope s_law_moved) := ⟨rfl, rfl, rfl, by decide +kernel, rfl, by decide +kernel, by decide +kernel⟩
theorem ok_law_moved {f : Addr} {fd : FuncData} (F : Fun K "_law_moved" "_law_moved" s_law_moved f fd) (T : Txt mg) (d_law_draw : Df P w K mg base 1 "_law_draw" ["_law_pot_here", "_law_size"] (spI K 1 g_law_draw)) (d_law_great : Df P w K mg base 2 "_law_great" ["_law_pot_here"] (spI K 0 g_law_great)) : FnOk P w K mg base CX0 3 f fd ["_law_pot_here", "_law_spot"] (spI K 1 g_law_moved) :=
  fn_io F sc_law_moved 1 g_law_moved rfl (by decide) (fun cdv A outer s H E p hr => ⟨b_law_moved, (pssd_cons (psd_setF 2 (pf_lst pad_nil) sc_law_moved.nd)
      (pssd_cons (psd_for PassesOwn.never rfl (pid_t (pd_v 1)) (pgd_name 3 sc_law_moved.nd) (pssd_one (psd_if (pt_cmpD (od_eq hr.units) (pd_i 0 d_law_draw (hr.mono (by decide)) (pad_cons pd_int pad_nil)) pd_int) (pssd_one (psd_app 2 (pd_op od_add (pd_v 3) (pd_i 0 d_law_great (hr.mono (by decide)) pad_nil)))) (pssd_one (psd_app 2 (pd_v 3))))))
      (pssd_one (psd_ret (pd_t cd_tuple (by rfl) T.z_tuple (pad_cons (pd_v 2) pad_nil)))))), fun c ds Pd _ h => h⟩)
abbrev s_law_two_hold : Stmt := topS 19
theorem sc_law_two_hold : FnScope ["_law_first", "_law_second", "_law_table", "_law_parts", "_law_lower", "_law_upper", "_law_one", "_law_both", "_law_either", "_law_to_first", "_law_to_second", "_law_other"] ["_law_first", "_law_second", "_law_table", "_law_parts"] (defScope s_law_two_hold) := ⟨rfl, rfl, rfl, by decide +kernel, rfl, by decide +kernel, by decide +kernel⟩
theorem ok_law_two_hold {f : Addr} {fd : FuncData} (F : Fun K "_law_two_hold" "_law_two_hold" s_law_two_hold f fd) (T : Txt mg) (d_law_join : Df P w K mg base 1 "_law_join" ["_law_one", "_law_other"] (spP K 2 g_law_join)) (d_law_meet : Df P w K mg base 1 "_law_meet" ["_law_one", "_law_other"] (spP K 2 g_law_meet)) (d_before : Df P w K mg base 1 "before" ["first", "second"] (spP K 2 g_before)) (d_join_of : Df P w K mg base 1 "join_of" ["first", "second"] (spP K 2 g_join_of)) (d_meet_of : Df P w K mg base 1 "meet_of" ["first", "second"] (spP K 2 g_meet_of)) : FnOk P w K mg base CX0 2 f fd ["_law_first", "_law_second", "_law_table", "_law_parts"] (spP K 4 g_law_two_hold) :=
  fn_pure F sc_law_two_hold g_law_two_hold (by decide) (fun cdv A outer s H E hr => ⟨b_law_two_hold, (pssd_cons (psd_set 4 (pd_c d_meet_of (hr.mono (by decide)) (pad_cons (pd_v 0) (pad_cons (pd_v 1) pad_nil))) sc_law_two_hold.nd)
      (pssd_cons (psd_set 5 (pd_c d_join_of (hr.mono (by decide)) (pad_cons (pd_v 0) (pad_cons (pd_v 1) pad_nil))) sc_law_two_hold.nd)
      (pssd_cons (psd_if (PWD.pt (pwd_or (pt_cmpD (od_ne hr.units) (pd_v 4) (pd_c d_law_meet (hr.mono (by decide)) (pad_cons (pd_v 0) (pad_cons (pd_v 1) pad_nil)))) (pwd_or1 (pt_cmpD (od_ne hr.units) (pd_v 5) (pd_c d_law_join (hr.mono (by decide)) (pad_cons (pd_v 0) (pad_cons (pd_v 1) pad_nil))))))) (pssd_one (psd_ret pd_bl)) pssd_nil)
      (pssd_cons (psd_for PassesOwn.never rfl (pid_l (PEF.val (pf_lst (pad_cons (pd_v 0) (pad_cons (pd_v 1) (pad_cons (pd_v 4) (pad_cons (pd_v 5) pad_nil))))))) (pgd_name 6 sc_law_two_hold.nd) (pssd_one (psd_if (pt_cmpD (od_ne hr.units) (pd_b cd_sum (by rfl) T.z_sum (pad_cons (PEF.val (pf_lcD 3 [("_law_other", 11)] sc_law_two_hold.nd (blkOk_by (own := [("_law_other", 11)]) (N := ["_law_first", "_law_second", "_law_table", "_law_parts", "_law_lower", "_law_upper", "_law_one", "_law_both", "_law_either", "_law_to_first", "_law_to_second", "_law_other"]) (sc := defScope s_law_two_hold) (by decide +kernel)) (fun _ _ _ _ _ => (pgd_name 11 sc_law_two_hold.nd)) (fun _ _ _ _ _ => (ptsd_one (pt_valD (pd_c d_before (hr.mono (by decide)) (pad_cons (pd_v 11) (pad_cons (pd_v 6) pad_nil)))))) (fun _ _ _ _ _ => (pd_dget (hu_of hr) (pd_v 3) (pd_v 11))))) pad_nil)) (pd_dget (hu_of hr) (pd_v 2) (pd_v 6))) (pssd_one (psd_ret pd_bl)) pssd_nil)))
      (pssd_cons (psd_set 7 pd_int sc_law_two_hold.nd)
      (pssd_cons (psd_set 8 pd_int sc_law_two_hold.nd)
      (pssd_cons (psd_forD 3 PassesOwn.never rfl (pgd_name 6 sc_law_two_hold.nd) (pssd_cons (psd_set 9 (pd_c d_before (hr.mono (by decide)) (pad_cons (pd_v 6) (pad_cons (pd_v 0) pad_nil))) sc_law_two_hold.nd)
      (pssd_cons (psd_set 10 (pd_c d_before (hr.mono (by decide)) (pad_cons (pd_v 6) (pad_cons (pd_v 1) pad_nil))) sc_law_two_hold.nd)
      (pssd_cons (psd_if (PWD.pt (pwd_and (pt_valD (pd_v 9)) (pwd_and1 (pt_valD (pd_v 10))))) (pssd_one (psd_set 7 (pd_op od_add (pd_v 7) (pd_dget (hu_of hr) (pd_v 3) (pd_v 6))) sc_law_two_hold.nd)) pssd_nil)
      (pssd_one (psd_if (PWD.pt (pwd_or (pt_valD (pd_v 9)) (pwd_or1 (pt_valD (pd_v 10))))) (pssd_cons (psd_set 8 (pd_op od_add (pd_v 8) (pd_dget (hu_of hr) (pd_v 3) (pd_v 6))) sc_law_two_hold.nd)
      (pssd_one (psd_if (pt_notD (pt_valD (pd_c d_before (hr.mono (by decide)) (pad_cons (pd_v 6) (pad_cons (pd_v 5) pad_nil))))) (pssd_one (psd_ret pd_bl)) pssd_nil))) pssd_nil))))))
      (pssd_one (psd_ret (pd_and (pd_cmp (od_eq hr.units) (pd_v 7) (pd_dget (hu_of hr) (pd_v 2) (pd_v 4))) (pd_one (pd_cmp (od_eq hr.units) (pd_v 8) (pd_op od_sub (pd_op od_add (pd_dget (hu_of hr) (pd_v 2) (pd_v 0)) (pd_dget (hu_of hr) (pd_v 2) (pd_v 1))) (pd_dget (hu_of hr) (pd_v 2) (pd_v 4))))))))))))))), fun ds Pd _ h => h⟩)
abbrev s_law : Stmt := topS 20
theorem sc_law : FnScope ["_law_script", "_law_pot_here", "_law_span", "_law_bounds", "_law_box", "_law_table", "_law_one", "_law_parts", "_law_first", "_law_second", "_law_told", "_law_sums", "_law_pair", "_law_moved_here", "_law_k", "_law_bound"] ["_law_script"] (defScope s_law) := ⟨rfl, rfl, rfl, by decide +kernel, rfl, by decide +kernel, by decide +kernel⟩
theorem ok_law {f : Addr} {fd : FuncData} (F : Fun K "law" "law" s_law f fd) (T : Txt mg) (d_law_amount : Df P w K mg base 3 "_law_amount" ["_law_pot_here"] (spI K 0 g_law_amount)) (d_law_are_corners : Df P w K mg base 3 "_law_are_corners" ["_law_told", "_law_spot"] (spP K 2 g_law_are_corners)) (d_law_before : Df P w K mg base 1 "_law_before" ["_law_one", "_law_other"] (spP K 2 g_law_before)) (d_law_draw : Df P w K mg base 1 "_law_draw" ["_law_pot_here", "_law_size"] (spI K 1 g_law_draw)) (d_law_grid : Df P w K mg base 1 "_law_grid" ["_law_levels"] (spP K 1 g_law_grid)) (d_law_moved : Df P w K mg base 3 "_law_moved" ["_law_pot_here", "_law_spot"] (spI K 1 g_law_moved)) (d_law_pot : Df P w K mg base 1 "_law_pot" ["_law_script"] (spF K 1 g_law_pot)) (d_law_sum_over : Df P w K mg base 1 "_law_sum_over" ["_law_told", "_law_table"] (spP K 2 g_law_sum_over)) (d_law_two_hold : Df P w K mg base 2 "_law_two_hold" ["_law_first", "_law_second", "_law_table", "_law_parts"] (spP K 4 g_law_two_hold)) (d_corners : Df P w K mg base 1 "corners" ["moment"] (spP K 1 g_corners)) (k_corners_moment : Dk P w K mg base 1 "corners" ["moment"] ["moment"] [0] (spP K 1 g_corners)) : FnOk P w K mg base CX0 4 f fd ["_law_script"] (spP K 1 g_law) :=
  fn_pure F sc_law g_law (by decide) (fun cdv A outer s H E hr => ⟨b_law, (pssd_cons (psd_setF 1 (pf_c d_law_pot (hr.mono (by decide)) (pad_cons (pd_v 0) pad_nil)) sc_law.nd)
      (pssd_cons (psd_set 2 (pd_op od_add pd_int (pd_i 1 d_law_draw (hr.mono (by decide)) (pad_cons pd_int pad_nil))) sc_law.nd)
      (pssd_cons (psd_setLc 3 [("_law_k", 14)] sc_law.nd (pid_range1 (by rfl) T.z_range (pad_cons (pd_v 2) pad_nil)) (blkOk_by (own := [("_law_k", 14)]) (N := ["_law_script", "_law_pot_here", "_law_span", "_law_bounds", "_law_box", "_law_table", "_law_one", "_law_parts", "_law_first", "_law_second", "_law_told", "_law_sums", "_law_pair", "_law_moved_here", "_law_k", "_law_bound"]) (sc := defScope s_law) (by decide +kernel)) (fun _ _ _ _ _ => (pgd_name 14 sc_law.nd)) (fun _ _ _ _ _ => ptsd_nil) (fun _ _ _ _ _ => (pd_i 1 d_law_draw (hr.mono (by decide)) (pad_cons (pd_ix (PEF.val (pf_lst (pad_cons pd_int (pad_cons pd_int (pad_cons pd_int (pad_cons pd_int pad_nil)))))) (pd_op od_sub (pd_v 2) pd_int)) pad_nil))))
      (pssd_cons (psd_set 4 (pd_c d_law_grid (hr.mono (by decide)) (pad_cons (PEF.val (pf_lc [("_law_bound", 15)] sc_law.nd (pid_l (pd_v 3)) (blkOk_by (own := [("_law_bound", 15)]) (N := ["_law_script", "_law_pot_here", "_law_span", "_law_bounds", "_law_box", "_law_table", "_law_one", "_law_parts", "_law_first", "_law_second", "_law_told", "_law_sums", "_law_pair", "_law_moved_here", "_law_k", "_law_bound"]) (sc := defScope s_law) (by decide +kernel)) (fun _ _ _ _ _ => (pgd_name 15 sc_law.nd)) (fun _ _ _ _ _ => ptsd_nil) (fun _ _ _ _ _ => (PEF.val (pf_listRg1 (by rfl) T.z_list T.z_range (pd_op od_add (pd_v 15) pd_int)))))) pad_nil)) sc_law.nd)
      (pssd_cons (psd_setF 5 pf_dnewT sc_law.nd)
      (pssd_cons (psd_for PassesOwn.never rfl (pid_l (pd_v 4)) (pgd_name 6 sc_law.nd) (pssd_one (psd_dput 5 (hu_of hr) (pd_i 1 d_law_amount (hr.mono (by decide)) pad_nil) (pd_v 6))))
      (pssd_cons (psd_setF 7 pf_dnewT sc_law.nd)
      (pssd_cons (psd_for PassesOwn.never rfl (pid_l (pd_v 4)) (pgd_name 6 sc_law.nd) (pssd_cons (psd_set 10 (pd_c d_corners (hr.mono (by decide)) (pad_cons (pd_v 6) pad_nil)) sc_law.nd)
      (pssd_cons (psd_if (pt_notD (pt_valD (pd_c d_law_are_corners (hr.mono (by decide)) (pad_cons (pd_v 10) (pad_cons (pd_v 6) pad_nil))))) (pssd_one (psd_ret pd_bl)) pssd_nil)
      (pssd_one (psd_dput 7 (hu_of hr) (pd_c d_law_sum_over (hr.mono (by decide)) (pad_cons (pd_v 10) (pad_cons (pd_v 5) pad_nil))) (pd_v 6))))))
      (pssd_cons (psd_set 8 (pd_ix (pd_v 4) (pd_i 1 d_law_draw (hr.mono (by decide)) (pad_cons (pd_b cd_len (by rfl) T.z_len (pad_cons (pd_v 4) pad_nil)) pad_nil))) sc_law.nd)
      (pssd_cons (psd_set 9 (pd_ix (pd_v 4) (pd_i 1 d_law_draw (hr.mono (by decide)) (pad_cons (pd_b cd_len (by rfl) T.z_len (pad_cons (pd_v 4) pad_nil)) pad_nil))) sc_law.nd)
      (pssd_cons (psd_if (pt_pure (pt_notD (pt_valD (pd_c d_law_two_hold (hr.mono (by decide)) (pad_cons (pd_v 8) (pad_cons (pd_v 9) (pad_cons (pd_v 5) (pad_cons (pd_v 7) pad_nil)))))))) (pssd_one (psd_ret pd_bl)) pssd_nil)
      (pssd_cons (psd_set 10 (pd_k k_corners_moment (hr.mono (by decide)) (pkd_cons (pd_v 8) pkd_nil)) sc_law.nd)
      (pssd_cons (psd_if (pt_notD (pt_valD (pd_c d_law_are_corners (hr.mono (by decide)) (pad_cons (pd_v 10) (pad_cons (pd_v 8) pad_nil))))) (pssd_one (psd_ret pd_bl)) pssd_nil)
      (pssd_cons (psd_setF 11 pf_dnewT sc_law.nd)
      (pssd_cons (psd_for PassesOwn.never rfl (pid_l (pd_v 10)) (pgd_name 12 sc_law.nd) (pssd_one (psd_dput 11 (hu_of hr) (pd_pure (pd_b cd_sum (by rfl) T.z_sum (pad_cons (PEF.val (pf_lc [("_law_one", 6)] sc_law.nd (pid_l (pd_v 4)) (blkOk_by (own := [("_law_one", 6)]) (N := ["_law_script", "_law_pot_here", "_law_span", "_law_bounds", "_law_box", "_law_table", "_law_one", "_law_parts", "_law_first", "_law_second", "_law_told", "_law_sums", "_law_pair", "_law_moved_here", "_law_k", "_law_bound"]) (sc := defScope s_law) (by decide +kernel)) (fun _ _ _ _ _ => (pgd_name 6 sc_law.nd)) (fun _ _ _ _ _ => (ptsd_one (pt_valD (pd_c d_law_before (hr.mono (by decide)) (pad_cons (pd_v 6) (pad_cons (pd_ix (pd_v 12) pd_int) pad_nil)))))) (fun _ _ _ _ _ => (pd_dget (hu_of hr) (pd_v 5) (pd_v 6))))) pad_nil))) (pd_ix (pd_v 12) pd_int))))
      (pssd_cons (psd_if (pt_pure (pt_cmpD (od_ne hr.units) (pd_c d_law_sum_over (hr.mono (by decide)) (pad_cons (pd_v 10) (pad_cons (pd_v 11) pad_nil))) (pd_dget (hu_of hr) (pd_v 5) (pd_v 8)))) (pssd_one (psd_ret pd_bl)) pssd_nil)
      (pssd_cons (psd_set 13 (pd_i 1 d_law_moved (hr.mono (by decide)) (pad_cons (pd_v 8) pad_nil)) sc_law.nd)
      (pssd_one (psd_ret (pd_c d_law_are_corners (hr.mono (by decide)) (pad_cons (pd_c d_corners (hr.mono (by decide)) (pad_cons (pd_v 13) pad_nil)) (pad_cons (pd_v 13) pad_nil)))))))))))))))))))))), fun ds Pd _ h => h⟩)
end
end LK01

/-! K01P: signed corners and sums over boxes (plain). -/
namespace LK01
open PySem L2 DL
def cstep (fs : List (List Int × Int)) (c : Int) : List (List Int × Int) := (if 0 < c then fs.map (fun p => (p.1 ++ [c - 1], -p.2)) else []) ++ fs.map (fun p => (p.1 ++ [c], p.2))
def corn (m : List Int) : List (List Int × Int) := m.foldl cstep [([], 1)]
theorem corn_snoc (m : List Int) (c : Int) : corn (m ++ [c]) = cstep (corn m) c := by unfold corn; rw [List.foldl_append]; rfl
def csum (f : List Int → Int) (cs : List (List Int × Int)) : Int := (cs.map fun p => p.2 * f p.1).sum
def Dfn (f : List Int → Int) (m : List Int) : Int := csum f (corn m)
theorem sum_cons (x : Int) (l : List Int) : (x :: l).sum = x + l.sum := List.sum_cons
theorem csum_append (f : List Int → Int) (a b : List (List Int × Int)) : csum f (a ++ b) = csum f a + csum f b := by
  unfold csum
  rw [List.map_append, List.sum_append]
theorem csum_low (f : List Int → Int) (c : Int) (fs : List (List Int × Int)) : csum f (fs.map fun p => (p.1 ++ [c], -p.2)) = -csum (fun h => f (h ++ [c])) fs := by
  unfold csum
  induction fs with
  | nil => rfl
  | cons p fs ih =>
    simp only [List.map_cons, sum_cons] at ih ⊢
    rw [ih, Int.neg_add, Int.neg_mul]
theorem csum_same (f : List Int → Int) (c : Int) (fs : List (List Int × Int)) : csum f (fs.map fun p => (p.1 ++ [c], p.2)) = csum (fun h => f (h ++ [c])) fs := by
  unfold csum
  rw [List.map_map]
  rfl
theorem D_snoc (f : List Int → Int) (m : List Int) (c : Int) : Dfn f (m ++ [c]) = Dfn (fun h => f (h ++ [c])) m - (if 0 < c then Dfn (fun h => f (h ++ [c - 1])) m else 0) := by
  unfold Dfn
  rw [corn_snoc]
  unfold cstep
  rw [csum_append, csum_same]
  by_cases h : 0 < c
  · rw [if_pos h, if_pos h, csum_low]
    omega
  · rw [if_neg h, if_neg h]
    show 0 + _ = _
    omega
theorem csum_sub (f g : List Int → Int) (cs : List (List Int × Int)) : csum (fun h => f h - g h) cs = csum f cs - csum g cs := by
  unfold csum
  induction cs with
  | nil => rfl
  | cons p cs ih =>
    simp only [List.map_cons, sum_cons] at ih ⊢
    rw [ih, Int.mul_sub]
    omega
theorem csum_congr {f g : List Int → Int} {cs : List (List Int × Int)} (h : ∀ p ∈ cs, f p.1 = g p.1) : csum f cs = csum g cs := by
  unfold csum
  rw [List.map_congr_left fun p hp => by rw [h p hp]]
theorem corn_len (m : List Int) : ∀ p ∈ corn m, p.1.length = m.length := by
  have : ∀ (r m : List Int), r = m.reverse → ∀ p ∈ corn m, p.1.length = m.length := fun r => by
    induction r with
    | nil =>
      intro m e p hp
      have : m = [] := by rw [← List.reverse_reverse m, ← e]; rfl
      subst this
      have hp : p ∈ [(([] : List Int), (1 : Int))] := hp
      rw [List.mem_singleton.mp hp]
    | cons c r ih =>
      intro m e p hp
      have : m = r.reverse ++ [c] := by rw [← List.reverse_reverse m, ← e, List.reverse_cons]
      subst this
      rw [corn_snoc] at hp
      have ih := ih r.reverse (List.reverse_reverse r).symm
      unfold cstep at hp
      rw [List.length_append, List.length_singleton]
      rcases List.mem_append.mp hp with hp | hp
      · split at hp
        · obtain ⟨q, hq, rfl⟩ := List.mem_map.mp hp
          rw [List.length_append, List.length_singleton, ih q hq]
        · cases hp
      · obtain ⟨q, hq, rfl⟩ := List.mem_map.mp hp
        rw [List.length_append, List.length_singleton, ih q hq]
  exact this _ m rfl
/-! ### boxes -/
def gstep (G : List (List Int)) (L : List Int) : List (List Int) := G.flatMap fun g => L.map fun l => g ++ [l]
def gridL (Ls : List (List Int)) : List (List Int) := Ls.foldl gstep [[]]
theorem grid_snoc (Ls : List (List Int)) (L : List Int) : gridL (Ls ++ [L]) = gstep (gridL Ls) L := by unfold gridL; rw [List.foldl_append]; rfl
def upto (b : Nat) : List Int := (List.range (b + 1)).map fun i : Nat => (i : Int)
def zs (f : List Int → Int) (G : List (List Int)) (p : List Int) : Int := (G.map fun g => if befL g p = true then f g else 0).sum
theorem befL_snoc {a b : List Int} (h : a.length = b.length) (x y : Int) : befL (a ++ [x]) (b ++ [y]) = (befL a b && decide (x ≤ y)) := by
  unfold befL
  rw [List.zipWith_append h, List.all_append]
  show (_ && (decide (x ≤ y) && true)) = _
  rw [Bool.and_true]
theorem sum_flat (h : List Int → Int) (G : List (List Int)) (L : List Int) : ((gstep G L).map h).sum = (G.map fun g => (L.map fun l => h (g ++ [l])).sum).sum := by
  unfold gstep
  induction G with
  | nil => rfl
  | cons g G ih =>
    rw [List.flatMap_cons, List.map_append, List.sum_append, ih, List.map_cons, sum_cons, List.map_map]
    rfl
theorem sum_zero {α : Type} (l : List α) : (l.map fun _ => (0 : Int)).sum = 0 := by
  induction l with
  | nil => rfl
  | cons x l ih => rw [List.map_cons, sum_cons, ih]; rfl
theorem zs_snoc (f : List Int → Int) {G : List (List Int)} {L p : List Int} (c : Int) (hG : ∀ g ∈ G, g.length = p.length) : zs f (gstep G L) (p ++ [c]) = (G.map fun g => if befL g p = true then (L.map fun l => if l ≤ c then f (g ++ [l]) else 0).sum else 0).sum := by
  unfold zs
  rw [sum_flat]
  refine congrArg List.sum (List.map_congr_left fun g hg => ?_)
  by_cases hb : befL g p = true
  · rw [if_pos hb]
    refine congrArg List.sum (List.map_congr_left fun l _ => ?_)
    rw [befL_snoc (hG g hg), hb, Bool.true_and]
    by_cases hl : l ≤ c
    · rw [if_pos hl, if_pos (decide_eq_true hl)]
    · rw [if_neg hl, decide_eq_false hl, if_neg Bool.false_ne_true]
  · rw [if_neg hb]
    refine Eq.trans (congrArg List.sum (List.map_congr_left fun l _ => ?_)) (sum_zero L)
    have hb : befL g p = false := by cases q : befL g p <;> simp_all
    rw [befL_snoc (hG g hg), hb, Bool.false_and, if_neg Bool.false_ne_true]
/-- telescoping -/
theorem tele (A : Int → Int) (c : Nat) : ∀ b : Nat, c ≤ b → ((upto b).map fun l => if l ≤ (c : Int) then A l - (if 0 < l then A (l - 1) else 0) else 0).sum = A c := by
  have key : ∀ n : Nat, ((List.range (n + 1)).map fun i : Nat => if (i : Int) ≤ (c : Int) then A i - (if 0 < (i : Int) then A ((i : Int) - 1) else 0) else 0).sum = A ((min n c : Nat) : Int) := fun n => by
    induction n with
    | zero =>
      show ((if ((0 : Nat) : Int) ≤ (c : Int) then A ((0 : Nat) : Int) - (if 0 < ((0 : Nat) : Int) then A (((0 : Nat) : Int) - 1) else 0) else 0) + 0 : Int) = _
      rw [if_pos (by omega), if_neg (by omega), Nat.zero_min]
      omega
    | succ n ih =>
      rw [List.range_succ, List.map_append, List.sum_append, ih]
      show _ + ((if ((n + 1 : Nat) : Int) ≤ (c : Int) then A ((n + 1 : Nat) : Int) - (if 0 < ((n + 1 : Nat) : Int) then A (((n + 1 : Nat) : Int) - 1) else 0) else 0) + 0 : Int) = _
      by_cases h : n + 1 ≤ c
      · rw [if_pos (by omega), if_pos (by omega), Nat.min_eq_left (by omega), Nat.min_eq_left h, show ((n + 1 : Nat) : Int) - 1 = (n : Int) by omega]
        omega
      · rw [if_neg (by omega), Nat.min_eq_right (by omega), Nat.min_eq_right (by omega)]
        omega
  intro b hb
  have := key b
  rw [Nat.min_eq_right hb] at this
  unfold upto
  rw [List.map_map]
  exact this
/-- sums of prefixes -/
theorem pre (A : Int → Int) (c : Nat) (b : Nat) (hb : c ≤ b) : ((upto b).map fun l => if l ≤ (c : Int) then A l else 0).sum = ((List.range (c + 1)).map fun i : Nat => A i).sum := by
  have key : ∀ n : Nat, ((List.range (n + 1)).map fun i : Nat => if (i : Int) ≤ (c : Int) then A i else 0).sum = ((List.range (min n c + 1)).map fun i : Nat => A i).sum := fun n => by
    induction n with
    | zero =>
      rw [Nat.zero_min]
      show ((if ((0 : Nat) : Int) ≤ (c : Int) then A ((0 : Nat) : Int) else 0) + 0 : Int) = A ((0 : Nat) : Int) + 0
      rw [if_pos (by omega)]
    | succ n ih =>
      rw [List.range_succ, List.map_append, List.sum_append, ih]
      show _ + ((if ((n + 1 : Nat) : Int) ≤ (c : Int) then A ((n + 1 : Nat) : Int) else 0) + 0 : Int) = _
      by_cases h : n + 1 ≤ c
      · rw [if_pos (by omega), Nat.min_eq_left (by omega), Nat.min_eq_left h, List.range_succ (n := n + 1), List.map_append, List.sum_append]
        rfl
      · rw [if_neg (by omega), Nat.min_eq_right (by omega), Nat.min_eq_right (by omega)]
        omega
  have := key b
  rw [Nat.min_eq_right hb] at this
  unfold upto
  rw [List.map_map]
  exact this
/-- one place alone -/
theorem tele1 (A : Int → Int) (c : Nat) (b : Nat) (hb : c ≤ b) : ((upto b).map fun l => if l ≤ (c : Int) then A l else 0).sum - (if 0 < (c : Int) then ((upto b).map fun l => if l ≤ (c : Int) - 1 then A l else 0).sum else 0) = A c := by
  cases c with
  | zero =>
    rw [if_neg (by omega), pre A 0 b hb]
    show A ((0 : Nat) : Int) + 0 - 0 = _
    omega
  | succ c =>
    rw [if_pos (by omega), pre A (c + 1) b hb, show ((c + 1 : Nat) : Int) - 1 = (c : Int) by omega, pre A c b (by omega), List.range_succ, List.map_append, List.sum_append]
    show _ + (A ((c + 1 : Nat) : Int) + 0) - _ = _
    omega
theorem grid_len (Ls : List (List Int)) : ∀ g ∈ gridL Ls, g.length = Ls.length := by
  have : ∀ (R Ls : List (List Int)), R = Ls.reverse → ∀ g ∈ gridL Ls, g.length = Ls.length := fun R => by
    induction R with
    | nil =>
      intro Ls e g hg
      have : Ls = [] := by rw [← List.reverse_reverse Ls, ← e]; rfl
      subst this
      have hg : g ∈ [([] : List Int)] := hg
      rw [List.mem_singleton.mp hg]
      rfl
    | cons L R ih =>
      intro Ls e g hg
      have : Ls = R.reverse ++ [L] := by rw [← List.reverse_reverse Ls, ← e, List.reverse_cons]
      subst this
      rw [grid_snoc] at hg
      unfold gstep at hg
      obtain ⟨h, hh, hg⟩ := List.mem_flatMap.mp hg
      obtain ⟨l, _, rfl⟩ := List.mem_map.mp hg
      rw [List.length_append, List.length_append, ih _ (List.reverse_reverse R).symm h hh]
      rfl
  exact this _ Ls rfl
/-- a place of the box -/
inductive InBox : List Nat → List Int → Prop
  | nil : InBox [] []
  | snoc {bs : List Nat} {p : List Int} {b c : Nat} : InBox bs p → c ≤ b → InBox (bs ++ [b]) (p ++ [(c : Int)])
def box (bs : List Nat) : List (List Int) := gridL (bs.map upto)
theorem box_snoc (bs : List Nat) (b : Nat) : box (bs ++ [b]) = gstep (box bs) (upto b) := by unfold box; rw [List.map_append]; exact grid_snoc _ _
theorem InBox.len {bs : List Nat} {p : List Int} (h : InBox bs p) : p.length = bs.length := by
  induction h with
  | nil => rfl
  | snoc _ _ ih => rw [List.length_append, List.length_append, ih]; rfl
theorem box_len {bs : List Nat} : ∀ g ∈ box bs, g.length = bs.length := fun g hg => by
  have := grid_len _ g hg
  rw [List.length_map] at this
  exact this
/-- the sums over what is before give the function back from its signed corners -/
theorem ZD {bs : List Nat} {p : List Int} (h : InBox bs p) : ∀ f : List Int → Int, zs (Dfn f) (box bs) p = f p := by
  induction h with
  | nil =>
    intro f
    show (if befL [] [] = true then Dfn f [] else 0) + 0 = f []
    show (1 * f [] + 0) + 0 = f []
    omega
  | @snoc bs p b c hp hc ih =>
    intro f
    rw [box_snoc, zs_snoc _ _ (fun g hg => (box_len g hg).trans hp.len.symm)]
    have : zs (Dfn (fun h => f (h ++ [(c : Int)]))) (box bs) p = f (p ++ [(c : Int)]) := ih _
    rw [← this]
    unfold zs
    refine congrArg List.sum (List.map_congr_left fun g _ => ?_)
    by_cases hb : befL g p = true
    · rw [if_pos hb, if_pos hb, ← tele (fun l => Dfn (fun h => f (h ++ [l])) g) c b hc]
      refine congrArg List.sum (List.map_congr_left fun l _ => ?_)
      rw [D_snoc]
    · rw [if_neg hb, if_neg hb]
theorem zs_sub (f g : List Int → Int) (G : List (List Int)) (p : List Int) : zs (fun h => f h - g h) G p = zs f G p - zs g G p := by
  unfold zs
  induction G with
  | nil => rfl
  | cons x G ih =>
    simp only [List.map_cons, sum_cons] at ih ⊢
    rw [ih]
    split <;> omega
theorem DZ {bs : List Nat} {p : List Int} (h : InBox bs p) : ∀ f : List Int → Int, Dfn (fun q => zs f (box bs) q) p = f p := by
  induction h with
  | nil =>
    intro f
    show 1 * ((if befL [] [] = true then f [] else 0) + 0) + 0 = f []
    show 1 * (f [] + 0) + 0 = f []
    omega
  | @snoc bs p b c hp hc ih =>
    intro f
    rw [D_snoc]
    have : Dfn (fun q => zs (fun h => f (h ++ [(c : Int)])) (box bs) q) p = f (p ++ [(c : Int)]) := ih _
    rw [← this]
    have lens := corn_len p
    have e : ∀ q : List Int, q.length = p.length → zs f (box (bs ++ [b])) (q ++ [(c : Int)]) - (if 0 < (c : Int) then zs f (box (bs ++ [b])) (q ++ [(c : Int) - 1]) else 0) = zs (fun h => f (h ++ [(c : Int)])) (box bs) q := fun q hq => by
      have hl : ∀ g ∈ box bs, g.length = q.length := fun g hg => (box_len g hg).trans (hp.len.symm.trans hq.symm)
      rw [box_snoc, zs_snoc _ _ hl, zs_snoc _ _ hl]
      unfold zs
      by_cases h0 : 0 < (c : Int)
      · rw [if_pos h0]
        have sub : ∀ (F H : List Int → Int) (G : List (List Int)), (G.map F).sum - (G.map H).sum = (G.map fun g => F g - H g).sum := fun F H G => by
          induction G with
          | nil => rfl
          | cons x G ih =>
            simp only [List.map_cons, sum_cons] at ih ⊢
            omega
        rw [sub]
        refine congrArg List.sum (List.map_congr_left fun g _ => ?_)
        by_cases hb : befL g q = true
        · rw [if_pos hb, if_pos hb, if_pos hb]
          have := tele1 (fun l => f (g ++ [l])) c b hc
          rw [if_pos h0] at this
          exact this
        · rw [if_neg hb, if_neg hb, if_neg hb]; rfl
      · rw [if_neg h0, Int.sub_zero]
        refine congrArg List.sum (List.map_congr_left fun g _ => ?_)
        by_cases hb : befL g q = true
        · rw [if_pos hb, if_pos hb]
          have := tele1 (fun l => f (g ++ [l])) c b hc
          rw [if_neg h0, Int.sub_zero] at this
          exact this
        · rw [if_neg hb, if_neg hb]
    unfold Dfn
    have e2 : csum (fun q => zs (fun h => f (h ++ [(c : Int)])) (box bs) q) (corn p) = csum (fun q => zs f (box (bs ++ [b])) (q ++ [(c : Int)]) - (if 0 < (c : Int) then zs f (box (bs ++ [b])) (q ++ [(c : Int) - 1]) else 0)) (corn p) := csum_congr fun x hx => (e x.1 (lens x hx)).symm
    rw [e2, csum_sub]
    by_cases h0 : 0 < (c : Int)
    · rw [if_pos h0]
      refine congrArg (fun z => _ - z) (csum_congr fun x _ => ?_)
      rw [if_pos h0]
    · rw [if_neg h0]
      have : csum (fun q => if 0 < (c : Int) then zs f (box (bs ++ [b])) (q ++ [(c : Int) - 1]) else 0) (corn p) = 0 := by
        unfold csum
        refine Eq.trans (congrArg List.sum (List.map_congr_left fun x _ => ?_)) (sum_zero (corn p))
        show x.2 * (if 0 < (c : Int) then zs f (box (bs ++ [b])) (x.1 ++ [(c : Int) - 1]) else 0) = 0
        rw [if_neg h0, Int.mul_zero]
      rw [this]

/-! ### the corners of a moment -/
def isC (m : List Int) (c : List Int × Int) : Prop := c.1.length = m.length ∧ (∀ i, i < m.length → 0 ≤ c.1.getD i 0 ∧ (c.1.getD i 0 = m.getD i 0 ∨ c.1.getD i 0 = m.getD i 0 - 1)) ∧
  c.2 = 1 - 2 * ((((List.range m.length).map fun i => if c.1.getD i 0 = m.getD i 0 then (0 : Int) else 1).sum) % 2)
theorem snoc_ind {P : List Int → Prop} (h0 : P []) (hs : ∀ m c, P m → P (m ++ [c])) (m : List Int) : P m := by
  have : ∀ r m : List Int, r = m.reverse → P m := fun r => by
    induction r with
    | nil =>
      intro m e
      have : m = [] := by rw [← List.reverse_reverse m, ← e]; rfl
      rw [this]; exact h0
    | cons c r ih =>
      intro m e
      have : m = r.reverse ++ [c] := by rw [← List.reverse_reverse m, ← e, List.reverse_cons]
      rw [this]
      exact hs _ _ (ih _ (List.reverse_reverse r).symm)
  exact this _ m rfl
theorem getD_lt {a : List Int} {x : Int} {i : Nat} (h : i < a.length) : (a ++ [x]).getD i 0 = a.getD i 0 := by
  rw [List.getD_eq_getElem?_getD, List.getD_eq_getElem?_getD, List.getElem?_append_left h]
theorem getD_at (a : List Int) (x : Int) {n : Nat} (h : a.length = n) : (a ++ [x]).getD n 0 = x := by
  subst h
  rw [List.getD_eq_getElem?_getD, List.getElem?_append_right (Nat.le_refl _), Nat.sub_self]
  rfl
theorem isC_snoc {m : List Int} {c : List Int × Int} {x y : Int} (h : isC m c) (hx : 0 ≤ y) (hy : y = x ∨ y = x - 1) : isC (m ++ [x]) (c.1 ++ [y], if y = x then c.2 else -c.2) := by
  obtain ⟨h1, h2, h3⟩ := h
  refine ⟨by rw [List.length_append, List.length_append, h1]; rfl, fun i hi => ?_, ?_⟩
  · rw [List.length_append, List.length_singleton] at hi
    by_cases hl : i < m.length
    · show 0 ≤ (c.1 ++ [y]).getD i 0 ∧ ((c.1 ++ [y]).getD i 0 = _ ∨ (c.1 ++ [y]).getD i 0 = _)
      rw [getD_lt (by omega), getD_lt hl]
      exact h2 i hl
    · have e : i = m.length := by omega
      subst e
      show 0 ≤ (c.1 ++ [y]).getD m.length 0 ∧ ((c.1 ++ [y]).getD m.length 0 = _ ∨ (c.1 ++ [y]).getD m.length 0 = _)
      rw [getD_at _ _ h1, getD_at _ _ rfl]
      exact ⟨hx, hy⟩
  · have e : (((List.range (m ++ [x]).length).map fun i => if (c.1 ++ [y]).getD i 0 = (m ++ [x]).getD i 0 then (0 : Int) else 1).sum) = (((List.range m.length).map fun i => if c.1.getD i 0 = m.getD i 0 then (0 : Int) else 1).sum) + (if y = x then 0 else 1) := by
      rw [List.length_append, List.length_singleton, List.range_succ, List.map_append, List.sum_append]
      refine congr (congrArg HAdd.hAdd (congrArg List.sum (List.map_congr_left fun i hi => ?_))) ?_
      · have hi := List.mem_range.mp hi
        rw [getD_lt (by omega), getD_lt hi]
      · show (if (c.1 ++ [y]).getD m.length 0 = (m ++ [x]).getD m.length 0 then (0 : Int) else 1) + 0 = _
        rw [getD_at _ _ h1, getD_at _ _ rfl, Int.add_zero]
    show (if y = x then c.2 else -c.2) = 1 - 2 * ((((List.range (m ++ [x]).length).map fun i => if (c.1 ++ [y]).getD i 0 = (m ++ [x]).getD i 0 then (0 : Int) else 1).sum) % 2)
    rw [e, h3]
    generalize (((List.range m.length).map fun i => if c.1.getD i 0 = m.getD i 0 then (0 : Int) else 1).sum) = S
    by_cases hyx : y = x
    · rw [if_pos hyx, if_pos hyx, Int.add_zero]
    · rw [if_neg hyx, if_neg hyx]
      omega
theorem corn_isC (m : List Int) : NN m → ∀ c ∈ corn m, isC m c := by
  refine snoc_ind (P := fun m => NN m → ∀ c ∈ corn m, isC m c) (fun _ c hc => ?_) (fun m x ih hN c hc => ?_) m
  · have hc : c ∈ [(([] : List Int), (1 : Int))] := hc
    rw [List.mem_singleton.mp hc]
    exact ⟨rfl, fun i hi => (nomatch hi), rfl⟩
  · have hx : 0 ≤ x := hN x (List.mem_append.mpr (.inr List.mem_cons_self))
    have ih := ih fun y hy => hN y (List.mem_append.mpr (.inl hy))
    rw [corn_snoc] at hc
    unfold cstep at hc
    rcases List.mem_append.mp hc with hc | hc
    · split at hc
      · rename_i h0
        obtain ⟨q, hq, rfl⟩ := List.mem_map.mp hc
        have := isC_snoc (x := x) (y := x - 1) (ih q hq) (by omega) (.inr rfl)
        rw [if_neg (by omega)] at this
        exact this
      · cases hc
    · obtain ⟨q, hq, rfl⟩ := List.mem_map.mp hc
      have := isC_snoc (x := x) (y := x) (ih q hq) hx (.inl rfl)
      rw [if_pos rfl] at this
      exact this
theorem corn_nd (m : List Int) : (corn m).Pairwise fun x y => x.1 ≠ y.1 := by
  refine snoc_ind (P := fun m => (corn m).Pairwise fun x y => x.1 ≠ y.1) ?_ (fun m x ih => ?_) m
  · exact List.pairwise_singleton _ _
  · rw [corn_snoc]
    unfold cstep
    have inj : ∀ (a b : List Int) (u v : Int), a ++ [u] = b ++ [v] → a = b ∧ u = v := fun a b u v e => by
      have := List.append_inj' e rfl
      exact ⟨this.1, (List.cons.inj this.2).1⟩
    rw [List.pairwise_append]
    refine ⟨?_, ?_, fun a ha b hb e => ?_⟩
    · split
      · rw [List.pairwise_map]
        exact ih.imp fun h e => h (inj _ _ _ _ e).1
      · exact .nil
    · rw [List.pairwise_map]
      exact ih.imp fun h e => h (inj _ _ _ _ e).1
    · split at ha
      · obtain ⟨q, _, rfl⟩ := List.mem_map.mp ha
        obtain ⟨r, _, rfl⟩ := List.mem_map.mp hb
        have := (inj _ _ _ _ e).2
        omega
      · cases ha
theorem corn_cnt (m : List Int) : (corn m).length = (m.map fun x => if 0 < x then (2 : Nat) else 1).foldl (· * ·) 1 := by
  refine snoc_ind (P := fun m => (corn m).length = (m.map fun x => if 0 < x then (2 : Nat) else 1).foldl (· * ·) 1) rfl (fun m x ih => ?_) m
  rw [corn_snoc, List.map_append, List.foldl_append, ← ih]
  show (cstep (corn m) x).length = (corn m).length * (if 0 < x then 2 else 1)
  unfold cstep
  rw [List.length_append, List.length_map]
  split
  · rw [List.length_map]; omega
  · rw [List.length_nil]; omega
theorem corn_le (m : List Int) : (corn m).length ≤ 2 ^ m.length := by
  refine snoc_ind (P := fun m => (corn m).length ≤ 2 ^ m.length) (by decide) (fun m x ih => ?_) m
  rw [corn_snoc, List.length_append, List.length_singleton, Nat.pow_succ]
  unfold cstep
  rw [List.length_append, List.length_map]
  split
  · rw [List.length_map]; omega
  · rw [List.length_nil]; omega

theorem filt_sum {α : Type} (t : α → Bool) (f : α → Int) (l : List α) : ((l.filter t).map f).sum = (l.map fun x => if t x = true then f x else 0).sum := by
  induction l with
  | nil => rfl
  | cons x l ih =>
    by_cases h : t x = true
    · rw [List.filter_cons_of_pos h, List.map_cons, sum_cons, List.map_cons, sum_cons, ih, if_pos h]
    · rw [List.filter_cons_of_neg h, List.map_cons, sum_cons, ih, if_neg h, Int.zero_add]
theorem keys_tupI (S : List (List Int)) : (S.map ky).map (fun k => D.tup (k.map kD)) = S.map tupI := by
  rw [List.map_map]
  refine List.map_congr_left fun p _ => ?_
  show D.tup ((p.map Sum.inl).map kD) = _
  rw [List.map_map]
  rfl

theorem meet_bef {n : Nat} {a b q : List Int} (ha : a.length = n) (hb : b.length = n) (hq : q.length = n) : befL q (meetL a b) = (befL q a && befL q b) := by
  have mg : ∀ i, i < n → (meetL a b).getD i 0 = imin (a.getD i 0) (b.getD i 0) := fun i hi => zw_getD imin ha hb hi
  have e : befL q (meetL a b) = true ↔ (befL q a && befL q b) = true := by
    rw [Bool.and_eq_true, befL_iff hq ha, befL_iff hq hb, befL_iff hq (meetL_len ha hb)]
    constructor
    · intro h
      refine ⟨fun i => ?_, fun i => ?_⟩
      · by_cases hi : i < n
        · have := h i
          rw [mg i hi] at this
          unfold imin at this
          split at this <;> omega
        · rw [getD_out (by omega), getD_out (by omega)]; exact Int.le_refl 0
      · by_cases hi : i < n
        · have := h i
          rw [mg i hi] at this
          unfold imin at this
          split at this <;> omega
        · rw [getD_out (by omega), getD_out (by omega)]; exact Int.le_refl 0
    · rintro ⟨h1, h2⟩ i
      by_cases hi : i < n
      · rw [mg i hi]
        have := h1 i
        have := h2 i
        unfold imin
        split <;> omega
      · rw [getD_out (by omega), getD_out (by rw [meetL_len ha hb]; omega)]; exact Int.le_refl 0
  cases h1 : befL q (meetL a b) <;> cases h2 : (befL q a && befL q b) <;> first | rfl | (rw [h1, h2] at e; exact absurd (e.mp rfl) (by decide)) | (rw [h1, h2] at e; exact absurd (e.mpr rfl) (by decide))
theorem either_sum {α : Type} (s t : α → Bool) (g : α → Int) (l : List α) : (l.map fun q => if (s q || t q) = true then g q else 0).sum = (l.map fun q => if s q = true then g q else 0).sum + (l.map fun q => if t q = true then g q else 0).sum - (l.map fun q => if (s q && t q) = true then g q else 0).sum := by
  induction l with
  | nil => rfl
  | cons x l ih =>
    simp only [List.map_cons, sum_cons] at ih ⊢
    rw [ih]
    cases s x <;> cases t x <;> simp only [Bool.or_true, Bool.or_false, Bool.and_true, Bool.and_false, Bool.false_eq_true, if_true, if_false] <;> omega

theorem upto_nd (b : Nat) : (upto b).Nodup := by
  unfold upto
  rw [List.nodup_iff_pairwise_ne, List.pairwise_map]
  exact (List.nodup_iff_pairwise_ne.mp List.nodup_range).imp fun h e => h (by omega)
theorem gstep_nd {G : List (List Int)} {L : List Int} (hG : G.Nodup) (hL : L.Nodup) : (gstep G L).Nodup := by
  unfold gstep
  induction G with
  | nil => exact List.nodup_nil
  | cons g G ih =>
    rw [List.nodup_cons] at hG
    rw [List.flatMap_cons, List.nodup_append]
    refine ⟨?_, ih hG.2, fun a ha b hb e => ?_⟩
    · rw [List.nodup_iff_pairwise_ne, List.pairwise_map]
      refine (List.nodup_iff_pairwise_ne.mp hL).imp fun {u v} h e => h ?_
      have e : g ++ [u] = g ++ [v] := e
      exact (List.cons.inj (List.append_inj' e rfl).2).1
    · obtain ⟨l, _, rfl⟩ := List.mem_map.mp ha
      obtain ⟨h, hh, hb⟩ := List.mem_flatMap.mp hb
      obtain ⟨l', _, rfl⟩ := List.mem_map.mp hb
      exact hG.1 ((List.append_inj' e rfl).1 ▸ hh)

theorem snocN {P : List Nat → Prop} (h0 : P []) (hs : ∀ m c, P m → P (m ++ [c])) (m : List Nat) : P m := by
  have : ∀ r m : List Nat, r = m.reverse → P m := fun r => by
    induction r with
    | nil =>
      intro m e
      have : m = [] := by rw [← List.reverse_reverse m, ← e]; rfl
      rw [this]; exact h0
    | cons c r ih =>
      intro m e
      have : m = r.reverse ++ [c] := by rw [← List.reverse_reverse m, ← e, List.reverse_cons]
      rw [this]
      exact hs _ _ (ih _ (List.reverse_reverse r).symm)
  exact this _ m rfl
theorem box_nd (bs : List Nat) : (box bs).Nodup := by
  refine snocN (P := fun bs => (box bs).Nodup) ?_ (fun bs b ih => ?_) bs
  · exact List.nodup_cons.mpr ⟨fun h => (nomatch h), List.nodup_nil⟩
  · rw [box_snoc]
    exact gstep_nd ih (upto_nd b)
theorem mem_upto {b : Nat} {x : Int} : x ∈ upto b ↔ ∃ c : Nat, c ≤ b ∧ x = (c : Int) := by
  unfold upto
  rw [List.mem_map]
  exact ⟨fun ⟨c, h, e⟩ => ⟨c, by have := List.mem_range.mp h; omega, e.symm⟩, fun ⟨c, h, e⟩ => ⟨c, List.mem_range.mpr (by omega), e.symm⟩⟩
theorem box_in (bs : List Nat) : ∀ p ∈ box bs, InBox bs p := by
  refine snocN (P := fun bs => ∀ p ∈ box bs, InBox bs p) (fun p hp => ?_) (fun bs b ih p hp => ?_) bs
  · have hp : p ∈ [([] : List Int)] := hp
    rw [List.mem_singleton.mp hp]
    exact .nil
  · rw [box_snoc] at hp
    unfold gstep at hp
    obtain ⟨g, hg, hp⟩ := List.mem_flatMap.mp hp
    obtain ⟨l, hl, rfl⟩ := List.mem_map.mp hp
    obtain ⟨c, hc, rfl⟩ := mem_upto.mp hl
    exact .snoc (ih g hg) hc
theorem in_box {bs : List Nat} {p : List Int} (h : InBox bs p) : p ∈ box bs := by
  induction h with
  | nil => exact List.mem_cons_self
  | snoc _ hc ih =>
    rw [box_snoc]
    unfold gstep
    exact List.mem_flatMap.mpr ⟨_, ih, List.mem_map.mpr ⟨_, mem_upto.mpr ⟨_, hc, rfl⟩, rfl⟩⟩

theorem inBox_to {bs : List Nat} {p : List Int} (h : InBox bs p) : p.length = bs.length ∧ ∀ i, i < bs.length → 0 ≤ p.getD i 0 ∧ p.getD i 0 ≤ (bs.getD i 0 : Nat) := by
  induction h with
  | nil => exact ⟨rfl, fun i hi => (nomatch hi)⟩
  | @snoc bs p b c hp hc ih =>
    refine ⟨by rw [List.length_append, List.length_append, ih.1]; rfl, fun i hi => ?_⟩
    rw [List.length_append, List.length_singleton] at hi
    by_cases hl : i < bs.length
    · rw [getD_lt (by omega), show (bs ++ [b]).getD i 0 = bs.getD i 0 by rw [List.getD_eq_getElem?_getD, List.getD_eq_getElem?_getD, List.getElem?_append_left hl]]
      exact ih.2 i hl
    · have e : i = bs.length := by omega
      subst e
      rw [getD_at _ _ ih.1, show (bs ++ [b]).getD bs.length 0 = b by rw [List.getD_eq_getElem?_getD, List.getElem?_append_right (Nat.le_refl _), Nat.sub_self]; rfl]
      omega
theorem inBox_of (bs : List Nat) : ∀ p : List Int, p.length = bs.length → (∀ i, i < bs.length → 0 ≤ p.getD i 0 ∧ p.getD i 0 ≤ (bs.getD i 0 : Nat)) → InBox bs p := by
  refine snocN (P := fun bs => ∀ p : List Int, p.length = bs.length → (∀ i, i < bs.length → 0 ≤ p.getD i 0 ∧ p.getD i 0 ≤ (bs.getD i 0 : Nat)) → InBox bs p) (fun p hp _ => ?_) (fun bs b ih p hp hi => ?_) bs
  · rw [List.length_eq_zero_iff.mp hp]
    exact .nil
  · rw [List.length_append, List.length_singleton] at hp
    have hne : p ≠ [] := fun e => by rw [e] at hp; cases hp
    obtain ⟨q, x, rfl⟩ : ∃ q x, p = q ++ [x] := ⟨_, _, (List.dropLast_concat_getLast hne).symm⟩
    have hq : q.length = bs.length := by rw [List.length_append, List.length_singleton] at hp; omega
    have hx := hi bs.length (by rw [List.length_append, List.length_singleton]; omega)
    rw [getD_at _ _ hq, show (bs ++ [b]).getD bs.length 0 = b by rw [List.getD_eq_getElem?_getD, List.getElem?_append_right (Nat.le_refl _), Nat.sub_self]; rfl] at hx
    obtain ⟨c, rfl⟩ := Int.eq_ofNat_of_zero_le hx.1
    refine .snoc (ih q hq fun i hl => ?_) (by omega)
    have := hi i (by rw [List.length_append, List.length_singleton]; omega)
    rw [getD_lt (by omega), show (bs ++ [b]).getD i 0 = bs.getD i 0 by rw [List.getD_eq_getElem?_getD, List.getD_eq_getElem?_getD, List.getElem?_append_left hl]] at this
    exact this

theorem in_meet {bs : List Nat} {a b : List Int} (ha : InBox bs a) (hb : InBox bs b) : InBox bs (meetL a b) := by
  obtain ⟨la, ha⟩ := inBox_to ha
  obtain ⟨lb, hb⟩ := inBox_to hb
  refine inBox_of bs _ (meetL_len la lb) fun i hi => ?_
  have e : (meetL a b).getD i 0 = imin (a.getD i 0) (b.getD i 0) := zw_getD imin la lb hi
  rw [e]
  have := ha i hi
  have := hb i hi
  unfold imin
  split <;> omega
theorem in_join {bs : List Nat} {a b : List Int} (ha : InBox bs a) (hb : InBox bs b) : InBox bs (joinL a b) := by
  obtain ⟨la, ha⟩ := inBox_to ha
  obtain ⟨lb, hb⟩ := inBox_to hb
  refine inBox_of bs _ (joinL_len la lb) fun i hi => ?_
  have e : (joinL a b).getD i 0 = imax (a.getD i 0) (b.getD i 0) := zw_getD imax la lb hi
  rw [e]
  have := ha i hi
  have := hb i hi
  unfold imax
  split <;> omega
theorem in_corn {bs : List Nat} {m : List Int} (hm : InBox bs m) {c : List Int × Int} (hc : isC m c) : InBox bs c.1 := by
  obtain ⟨lm, hm⟩ := inBox_to hm
  obtain ⟨h1, h2, _⟩ := hc
  refine inBox_of bs _ (by omega) fun i hi => ?_
  have := h2 i (by omega)
  have := hm i hi
  omega
theorem in_nn {bs : List Nat} {m : List Int} (hm : InBox bs m) : NN m := by
  obtain ⟨lm, hm⟩ := inBox_to hm
  exact NN_of fun i hi => (hm i (by omega)).1
theorem isC_sign {m : List Int} {c : List Int × Int} (h : isC m c) : c.2 = 1 ∨ c.2 = -1 := by
  obtain ⟨_, _, h3⟩ := h
  omega
theorem csum_perm {f : List Int → Int} {a b : List (List Int × Int)} (h : a.Perm b) : csum f a = csum f b := by
  unfold csum
  induction h with
  | nil => rfl
  | cons x _ ih => rw [List.map_cons, List.map_cons, sum_cons, sum_cons, ih]
  | swap x y l =>
    rw [List.map_cons, List.map_cons, List.map_cons, List.map_cons, sum_cons, sum_cons, sum_cons, sum_cons]
    omega
  | trans _ _ h1 h2 => rw [h1, h2]
theorem rangeD_upto (b : Nat) : rangeD 0 ((b : Int) + 1).toNat = (upto b).map D.int := by
  unfold rangeD upto
  rw [List.map_map, show ((b : Int) + 1).toNat = b + 1 by omega]
  refine List.map_congr_left fun i _ => ?_
  show D.int (0 + (i : Int)) = D.int (i : Int)
  rw [Int.zero_add]
end LK01

/-! K01M: the mathematics of law k01. -/
namespace LK01
open PySem L2 DL
theorem w_g_before {ds : List D} {P : D → Prop} : g_before ds P = AP1 (g_before ds) P .mk := propext (iff_of_eq rfl)
theorem w_g_join_of {ds : List D} {P : D → Prop} : g_join_of ds P = AP1 (g_join_of ds) P .mk := propext (iff_of_eq rfl)
theorem w_g_meet_of {ds : List D} {P : D → Prop} : g_meet_of ds P = AP1 (g_meet_of ds) P .mk := propext (iff_of_eq rfl)
theorem w_g_corners {ds : List D} {P : D → Prop} : g_corners ds P = AP1 (g_corners ds) P .mk := propext (iff_of_eq rfl)
theorem w_g_law_pot {ds : List D} {P : D → Prop} : g_law_pot ds P = AP1 (g_law_pot ds) P .mk := propext (iff_of_eq rfl)
theorem w_g_law_draw {c : D} {ds : List D} {P : D → D → Prop} : g_law_draw c ds P = AP2 (g_law_draw c ds) P .mk := propext (iff_of_eq rfl)
theorem w_g_law_great {c : D} {ds : List D} {P : D → D → Prop} : g_law_great c ds P = AP2 (g_law_great c ds) P .mk := propext (iff_of_eq rfl)
theorem w_g_law_amount {c : D} {ds : List D} {P : D → D → Prop} : g_law_amount c ds P = AP2 (g_law_amount c ds) P .mk := propext (iff_of_eq rfl)
theorem w_g_law_grid {ds : List D} {P : D → Prop} : g_law_grid ds P = AP1 (g_law_grid ds) P .mk := propext (iff_of_eq rfl)
theorem w_g_law_is_integer {ds : List D} {P : D → Prop} : g_law_is_integer ds P = AP1 (g_law_is_integer ds) P .mk := propext (iff_of_eq rfl)
theorem w_g_law_before {ds : List D} {P : D → Prop} : g_law_before ds P = AP1 (g_law_before ds) P .mk := propext (iff_of_eq rfl)
theorem w_g_law_meet {ds : List D} {P : D → Prop} : g_law_meet ds P = AP1 (g_law_meet ds) P .mk := propext (iff_of_eq rfl)
theorem w_g_law_join {ds : List D} {P : D → Prop} : g_law_join ds P = AP1 (g_law_join ds) P .mk := propext (iff_of_eq rfl)
theorem w_g_law_is_corner {ds : List D} {P : D → Prop} : g_law_is_corner ds P = AP1 (g_law_is_corner ds) P .mk := propext (iff_of_eq rfl)
theorem w_g_law_are_corners {ds : List D} {P : D → Prop} : g_law_are_corners ds P = AP1 (g_law_are_corners ds) P .mk := propext (iff_of_eq rfl)
theorem w_g_law_sum_over {ds : List D} {P : D → Prop} : g_law_sum_over ds P = AP1 (g_law_sum_over ds) P .mk := propext (iff_of_eq rfl)
theorem w_g_law_moved {c : D} {ds : List D} {P : D → D → Prop} : g_law_moved c ds P = AP2 (g_law_moved c ds) P .mk := propext (iff_of_eq rfl)
theorem w_g_law_two_hold {ds : List D} {P : D → Prop} : g_law_two_hold ds P = AP1 (g_law_two_hold ds) P .mk := propext (iff_of_eq rfl)
theorem w_g_law {ds : List D} {P : D → Prop} : g_law ds P = AP1 (g_law ds) P .mk := propext (iff_of_eq rfl)
local macro_rules | `(tactic| walk_at "ev") => `(tactic| (try simp -dsimp only [↓w_fVar, ↓w_fC, ↓w_fOp, ↓w_fTst, ↓w_fAnd, ↓w_fOr, ↓w_fNot, ↓w_fAndV, ↓w_fOrV, ↓w_fNotV, ↓w_fIf, ↓w_fUn, ↓w_fNil, ↓w_fCons, ↓w_fTup, ↓w_fLst, ↓w_fCall, ↓w_fVarF, ↓w_fPure, ↓w_fPureT, ↓w_fNext, ↓w_fSeq, ↓w_fBrk, ↓w_fCnt, ↓w_fDrop, ↓w_fRet, ↓w_fRetF, ↓w_fRetN, ↓w_fIfS, ↓w_fSet, ↓w_fSetF, ↓w_gdName, ↓w_gdNil, ↓w_gdCons, ↓w_gdTup, ↓w_fSeqI, ↓w_fLstI, ↓w_fTupI, ↓w_fRng1, ↓w_fRng2, ↓w_fZip, ↓w_fFor, ↓w_fYes, ↓w_fLc, ↓w_fCallP, ↓w_fCallI, ↓w_fPN, ↓w_fPS, ↓w_fSl, ↓w_fDGet, ↓w_fDIn, ↓w_fDGet2, ↓w_fSetO, ↓w_fApp, ↓w_fExt, ↓w_fDPut, ↓w_fListO, ↓w_fCallK, ↓w_fChain, ↓w_fDicI, ↓w_fLstRg1, ↓w_fLstRg2, ↓w_fAsgG, ↓w_fDisp, ↓w_fIxO, ↓w_fDGetO, ↓a_ev_retP_nx, ↓a_ev_retP_rt, ↓a_ev_retP_rf, ↓a_ev_retF_rf, ↓a_ev_retI_nx, ↓a_ev_retI_rt, ↓a_ev_retI_rf, ↓a_ev_andThen_nx, ↓a_ev_andThen_rt, ↓a_ev_andThen_rf, ↓a_ev_andThen_bk, ↓a_ev_andThen_ct, ↓w_gAdd, ↓w_gMul, ↓w_gEq, ↓w_gNe, ↓w_gLt, ↓w_gIs, ↓w_gIsNot, ↓w_gIx, ↓w_gSub, ↓w_gMod, ↓w_gDiv, ↓w_gPow, ↓w_gLe, ↓w_gGt, ↓w_gGe, ↓w_gInB, ↓w_gI, ↓w_gC, ↓w_gNeg, ↓w_gSl, ↓w_gLen, ↓w_gAll, ↓w_gAny, ↓w_gSum, ↓w_gTuple, ↓w_gList, ↓w_gInt, ↓w_gAbs, ↓w_gIsi, ↓w_gSortT, ↓w_gSortD, ↓w_gSumL, ↓w_gInt2, ↓w_asB, ↓w_asI, ↓w_lstD, ↓w_tupD, ↓w_seqD, ↓w_lstO, ↓w_keysD, ↓w_dlook, ↓w_dput, ↓w_ownD, ↓w_rng1, ↓w_rng2, ↓w_zip2, ↓w_slotO, ↓w_optP, ↓w_forGo, ↓w_lcGo, ↓w_g_before, ↓w_g_join_of, ↓w_g_meet_of, ↓w_g_corners, ↓w_g_law_pot, ↓w_g_law_draw, ↓w_g_law_great, ↓w_g_law_amount, ↓w_g_law_grid, ↓w_g_law_is_integer, ↓w_g_law_before, ↓w_g_law_meet, ↓w_g_law_join, ↓w_g_law_is_corner, ↓w_g_law_are_corners, ↓w_g_law_sum_over, ↓w_g_law_moved, ↓w_g_law_two_hold, ↓w_g_law, permL, sl0, slI, DL.isNon, wipeS, seqL_lst, seqL_tup, seqL_rol, seqL_tupI, Option.bind_some, atI_zero, atI_one, atI_two, List.map_cons, List.map_nil, List.replicate_succ, List.replicate_zero, List.cons_append, List.nil_append, List.append_nil, List.getElem?_cons_zero, List.getElem?_cons_succ, List.getElem?_nil, List.set_cons_zero, List.set_cons_succ, List.set_nil, List.length_cons, List.length_nil, List.length_map, List.filterMap_cons, List.filterMap_nil, reduceCtorEq, if_true, if_false, Bool.false_eq_true, Bool.not_true, Bool.not_false, Bool.not_eq_true, Bool.not_eq_eq_eq_not, and_true, true_and, and_false, false_and, eq_self, decide_true, decide_false, Option.some.injEq, D.tup.injEq, D.int.injEq, D.bl.injEq, D.lst.injEq, List.cons.injEq, exists_eq_left', exists_eq_left, or_true, or_false, true_or, false_or, Bool.or_false, Bool.false_or, Bool.or_true, Bool.true_or, Bool.and_true, Bool.and_false, Bool.true_and, Bool.false_and, Nat.reduceAdd, Nat.reduceLeDiff, Nat.zero_add, ↓reduceIte, Option.isSome_some, Option.isSome_none, Bool.false_bne, Bool.true_bne, Bool.and_self, Bool.or_self, Int.reduceEq, Int.reduceLT, Int.reduceLE, Nat.reduceEqDiff, Nat.reduceLT, Int.cast_ofNat_Int, c_fVar, c_fC, c_fOp, c_fTst, c_fAnd, c_fOr, c_fNot, c_fAndV, c_fOrV, c_fNotV, c_fIf, c_fUn, c_fNil, c_fCons, c_fTup, c_fLst, c_fCall, c_fVarF, c_fPure, c_fPureT, c_fNext, c_fSeq, c_fBrk, c_fCnt, c_fDrop, c_fRet, c_fRetF, c_fRetN, c_fIfS, c_fSet, c_fSetF, c_gdName, c_fSeqI, c_fLstI, c_fTupI, c_fRng1, c_fRng2, c_fZip, c_fFor, c_fYes, c_fLc, c_fCallP, c_fCallI, c_fPN, c_fPS, c_fSl, c_fDGet, c_fDIn, c_fDGet2, c_fSetO, c_fApp, c_fExt, c_fDPut, c_fListO, c_fCallK, c_fChain, c_fDicI, c_fLstRg1, c_fLstRg2, c_fAsgG, c_fDisp, c_fIxO, c_fDGetO, a_gIsi_eq, a_ev_gIx_lst, a_ev_gIx_tup, a_ev_gIx_rol, a_gAll_eq, a_gAny_eq, a_ev_asB_bl, ev_ixN_30, ev_ixN_31, ev_ixN_32, a_ev_asI_int, a_ev_gAdd_int, a_ev_gAdd_tup, a_ev_gAdd_lst, a_ev_gAdd_str, a_ev_gMul_int, a_ev_gMul_tup, a_ev_gMul_lst, a_ev_gMul_str, a_ev_gI_int, a_ev_gC_int, a_ev_gLt_int, a_ev_gNeg_int, a_ev_gIs_bl, a_ev_gIsNot_bl, a_ev_gInt_int, a_ev_gInt_bl, a_ev_gInt2_int, a_ev_gAbs_int, a_ev_gTuple_lst, a_ev_gTuple_rol, a_ev_gTuple_tup, a_ev_gList_dT, a_ev_gList_dK, a_ev_gLen_str, a_ev_gLen_dT, a_ev_gLen_dK, a_ev_lstD_lst, a_ev_lstD_rol, a_ev_tupD_tup, a_ev_lstO_lst, a_ev_gSl_lst, a_ev_gSl_rol, a_ev_gSl_tup, ev_frz_own, ev_frz_val, ev_frz_non, ev_scal_int, ev_scal_bl, ev_scal_str, ev_scal_non, a_ev_rng1_int, a_ev_rng2_int, a_ev_zip2_lst, a_ev_zip2_tup, a_ev_slotO_own, a_ev_gdCons, a_ev_gdNil, a_ev_gLen_lst, a_ev_gLen_tup, a_ev_gLen_rol, a_ev_gEq_int, a_ev_gNe_int, a_ev_gEq_bl, a_ev_gNe_bl, a_ev_gAdd_tupI1, a_ev_gAdd_tupI2, a_ev_gLen_tupI, a_ev_gLen_lstI, a_ev_tupD_tupI, a_ev_lstD_lstI, a_ev_gIx_tupI, a_ev_gIx_lstI, a_ev_lstO_lstI, a_ev_gTuple_ints, ev_pow15, ev_atI_last, a_ev_gList_lst, a_ev_gList_tup, a_ev_gList_rol, a_ev_gList_tupI, a_ev_gSl_tupI, a_ev_gLt_tupI, a_ev_gSumL, a_ev_keysD_dT, a_ev_keysD_dK, c_dlook_dT, c_dlook_dK, c_dput_dT, c_dput_dK, c_asTK_tupI, c_optP_some, c_slotQ_val, c_slotQ_own, c_ownD, c_gdTup, c_BR_true, c_BR_false, isi_int_int, isi_int_bool, isi_int_tuple, isi_int_list, isi_int_str, isi_bl_int, isi_bl_bool, isi_bl_tuple, isi_bl_list, isi_bl_str, isi_non_int, isi_non_bool, isi_non_tuple, isi_non_list, isi_non_str, isi_str_int, isi_str_bool, isi_str_tuple, isi_str_list, isi_str_str, isi_lst_int, isi_lst_bool, isi_lst_tuple, isi_lst_list, isi_lst_str, isi_tup_int, isi_tup_bool, isi_tup_tuple, isi_tup_list, isi_tup_str, isi_dK_int, isi_dK_bool, isi_dK_tuple, isi_dK_list, isi_dK_str, isi_tupI_tuple, isi_tupI_list, isi_tupI_int, isi_lstI_list, isi_lstI_tuple]; try simp -dsimp only [AP1_eq, AP2_eq, BR_eq]))
/-! ### draws -/
/-- the pot: a number, two remainders -/
def pot (a b c : Int) : D := .lst [.int a, .int b, .int c]
theorem L_draw (a b c m : Int) (P : D → D → Prop) (hm : 0 < m) (hm2 : m ≤ 10 ^ 15) (h : ∀ r a' b' c', 0 ≤ r → r < m → P (.int r) (pot a' b' c')) : g_law_draw (pot a b c) [.int m] P := by
  unfold g_law_draw b_law_draw pot
  walk_at "ev"
  refine bool_if (fun e => ?_) (fun e => ?_)
  · walk_at "ev"
    exact ⟨hm, cdivW hm (by omega), h _ _ _ _ (Int.emod_nonneg _ (by omega)) (Int.emod_lt_of_pos _ hm)⟩
  · walk_at "ev"
    exact ⟨cmul_r _ (by decide), cmul_r _ (by decide), cdivW (by decide) (by decide), cmul_r _ (by decide), hm, h _ _ _ _ (Int.emod_nonneg _ (by omega)) (Int.emod_lt_of_pos _ hm)⟩
theorem L_pot (ns : List Int) (P : D → Prop) (h : ∀ a b c, P (pot a b c)) : g_law_pot [.rol (ns.map .int)] P := by
  unfold g_law_pot b_law_pot
  walk_at "ev"
  refine for_inv (fun _ ρ => ∃ a b c x, ρ = [.val (.rol (ns.map .int)), .own (pot a b c), x]) _ 0 _ ⟨_, _, _, _, rfl⟩ (fun j d ρ hj hI k h1 h2 h3 h4 => ?_) (fun ρ hI => ?_)
  · obtain ⟨a, b, c, x, rfl⟩ := hI
    rw [List.getElem?_map] at hj
    cases q : ns[j]? with
    | none => rw [q] at hj; cases hj
    | some n =>
      rw [q] at hj
      cases hj
      unfold pot
      walk_at "ev"
      refine bool_if (fun e => ?_) (fun e => ?_)
      · walk_at "ev"
        refine ⟨cpow10 (by decide) (by decide), bool_if (fun e => ?_) (fun e => ?_)⟩
        · exact ⟨cmul_r _ (by decide), cmul_r _ (by decide), (h1 _ ⟨_, _, _, _, rfl⟩).1⟩
        · exact ⟨cmul_r _ (by decide), cmul_r _ (by decide), (h1 _ ⟨_, _, _, _, rfl⟩).1⟩
      · walk_at "ev"
        exact ⟨cmul_r _ (by decide), cmul_r _ (by decide), (h1 _ ⟨_, _, _, _, rfl⟩).1⟩
  · obtain ⟨a, b, c, x, rfl⟩ := hI
    unfold pot
    walk_at "ev"
    exact h a b c
theorem L_great (a b c : Int) (P : D → D → Prop) (h : ∀ r a' b' c', 0 ≤ r → P (.int r) (pot a' b' c')) : g_law_great (pot a b c) [] P := by
  unfold g_law_great b_law_great
  walk_at "ev"
  refine ⟨cpow10 (by decide) (by decide), L_draw _ _ _ _ _ (by decide) (by decide) fun r a1 b1 c1 h1 h2 => ?_⟩
  walk_at "ev"
  refine ⟨cpow10 (by decide) (by decide), cmul_r _ (by decide), cpow10 (by decide) (by decide), L_draw _ _ _ _ _ (by decide) (by decide) fun r2 a2 b2 c2 h3 h4 => ?_⟩
  walk_at "ev"
  exact h _ _ _ _ (by omega)
theorem L_before (a b : List Int) (P : D → Prop) (hl : a.length ≤ 100) (h : P (.bl (befL a b))) : g_before [tupI a, tupI b] P := by
  unfold g_before b_before tupI
  walk_at "ev"
  refine lc_zip (fun x y => .bl (decide (x ≤ y))) a b [] (by rw [List.length_nil]; omega) (fun x y k hk => ?_) ?_
  · walk_at "ev"
    exact hk _ rfl
  · rw [zw_map]
    walk_at "ev"
    exact h
theorem L_join_of (a b : List Int) (P : D → Prop) (hl : a.length ≤ 100) (h : P (tupI (joinL a b))) : g_join_of [tupI a, tupI b] P := by
  unfold g_join_of b_join_of tupI
  walk_at "ev"
  refine lc_zip (fun x y => .int (imax x y)) a b [] (by rw [List.length_nil]; omega) (fun x y k hk => ?_) ?_
  · walk_at "ev"
    exact hk _ rfl
  · rw [zw_map]
    walk_at "ev"
    exact h
theorem L_meet_of (a b : List Int) (P : D → Prop) (hl : a.length ≤ 100) (h : P (tupI (meetL a b))) : g_meet_of [tupI a, tupI b] P := by
  unfold g_meet_of b_meet_of tupI
  walk_at "ev"
  refine lc_zip (fun x y => .int (imin x y)) a b [] (by rw [List.length_nil]; omega) (fun x y k hk => ?_) ?_
  · walk_at "ev"
    exact hk _ rfl
  · rw [zw_map]
    walk_at "ev"
    exact h
/-- is_moment of a tuple of known things -/
theorem L_law_before (a b : List Int) (P : D → Prop) (hl : a.length ≤ 100) (hab : a.length = b.length) (h : P (.bl (befL a b))) : g_law_before [tupI a, tupI b] P := by
  unfold g_law_before b_law_before
  walk_at "ev"
  refine ⟨by omega, by omega, ?_⟩
  rw [Int.toNat_natCast]
  refine lc_range _ (fun i => .bl (decide (a.getD i 0 ≤ b.getD i 0))) (by omega) (fun i hi k hk => ?_) ?_
  · walk_at "ev"
    rw [atN_nat hi]
    walk_at "ev"
    rw [atN_nat (by omega)]
    walk_at "ev"
    exact hk _ rfl
  · rw [range_zip (fun x y => D.bl (decide (x ≤ y))) a b hab, zw_map]
    walk_at "ev"
    exact h
theorem L_law_join (a b : List Int) (P : D → Prop) (hl : a.length ≤ 100) (hab : a.length = b.length) (h : P (tupI (joinL a b))) : g_law_join [tupI a, tupI b] P := by
  unfold g_law_join b_law_join
  walk_at "ev"
  refine ⟨by omega, by omega, ?_⟩
  rw [Int.toNat_natCast]
  refine lc_range _ (fun i => .int (imax (a.getD i 0) (b.getD i 0))) (by omega) (fun i hi k hk => ?_) ?_
  · walk_at "ev"
    rw [atN_nat hi]
    walk_at "ev"
    rw [atN_nat (by omega)]
    walk_at "ev"
    exact hk _ rfl
  · rw [range_zip (fun x y => D.int (imax x y)) a b hab, zw_map]
    walk_at "ev"
    exact h
theorem gstep_take {G : List (List Int)} {L g : List Int} {i : Nat} (q : G[i]? = some g) : gstep (G.take (i + 1)) L = gstep (G.take i) L ++ L.map fun l => g ++ [l] := by
  rw [take_q q]
  unfold gstep
  rw [List.flatMap_append, List.flatMap_cons, List.flatMap_nil, List.append_nil]
theorem gstep_len (G : List (List Int)) (L : List Int) : (gstep G L).length = G.length * L.length := by
  unfold gstep
  induction G with
  | nil => rw [List.flatMap_nil, List.length_nil, Nat.zero_mul]
  | cons g G ih => rw [List.flatMap_cons, List.length_append, ih, List.length_map, List.length_cons, Nat.succ_mul, Nat.add_comm]
theorem L_grid (Ls : List (List Int)) (P : D → Prop) (hd : Ls.length ≤ 4) (hL : ∀ L ∈ Ls, L.length ≤ 8) (h : (gridL Ls).length ≤ 8 ^ Ls.length → P (.lst ((gridL Ls).map tupI))) :
    g_law_grid [.lst (Ls.map lstI)] P := by
  unfold g_law_grid b_law_grid
  walk_at "ev"
  refine for_invT lstI (fun j ρ => ∃ (x y z : Sl), ρ = [.val (.lst (Ls.map lstI)), .val (.lst ((gridL (Ls.take j)).map tupI)), x, y, z, .non] ∧ (gridL (Ls.take j)).length ≤ 8 ^ j) _ _
    ⟨_, _, _, rfl, by rw [List.take_zero]; decide⟩ (fun j L ρ q hI k k1 k2 k3 k4 => ?_) (fun ρ hI => ?_)
  · obtain ⟨x, y, z, rfl, hG⟩ := hI
    have l3 := hL L (List.mem_of_getElem? q)
    have hj4 : j < Ls.length := (List.getElem?_eq_some_iff.mp q).1
    have hpow : 8 ^ j ≤ 8 ^ 3 := Nat.pow_le_pow_right (by decide) (by omega)
    have hG4 : (gridL (Ls.take j)).length ≤ 512 := Nat.le_trans hG hpow
    have hgs : gridL (Ls.take (j + 1)) = gstep (gridL (Ls.take j)) L := by rw [take_q q, grid_snoc]
    have hGl : ∀ g ∈ gridL (Ls.take j), g.length ≤ 4 := fun g hg => by
      rw [grid_len _ g hg, List.length_take]
      omega
    revert hgs hG hG4 hGl
    generalize gridL (Ls.take j) = G
    intro hG hG4 hgs hGl
    walk_at "ev"
    refine for_invT tupI (fun i ρ => ∃ (y : Sl), ρ = [.val (.lst (Ls.map lstI)), .val (.lst (G.map tupI)), .val (lstI L), .own (.lst ((gstep (G.take i) L).map tupI)), y, .non]) _ _
      ⟨_, rfl⟩ (fun i g ρ q2 hI k k1 k2 k3 k4 => ?_) (fun ρ hI => ?_)
    · obtain ⟨y, rfl⟩ := hI
      have hi4 : i < G.length := (List.getElem?_eq_some_iff.mp q2).1
      have hi5 : (gstep (G.take i) L).length ≤ 512 * 8 := by
        rw [gstep_len, List.length_take]
        exact Nat.mul_le_mul (by omega) l3
      walk_at "ev"
      refine lc_mapT D.int (fun l => tupI (g ++ [l])) L [] (by rw [List.length_nil]; omega) (fun l hl k hk => ?_) ?_
      · walk_at "ev"
        have := hGl g (List.mem_of_getElem? q2)
        refine ⟨by omega, hk _ ?_⟩
        rfl
      · walk_at "ev"
        refine ⟨by omega, ?_⟩
        have := (k1 [.val (.lst (Ls.map lstI)), .val (.lst (G.map tupI)), .val (lstI L), .own (.lst ((gstep (G.take (i + 1)) L).map tupI)), .val (tupI g), .non] ⟨_, rfl⟩).1
        rw [gstep_take q2, List.map_append, List.map_map] at this
        exact this
    · obtain ⟨y, rfl⟩ := hI
      rw [List.take_length]
      walk_at "ev"
      refine (k1 _ ⟨_, _, _, by rw [hgs], ?_⟩).1
      rw [hgs, gstep_len, Nat.pow_succ]
      exact Nat.mul_le_mul hG l3
  · obtain ⟨x, y, z, rfl, hG⟩ := hI
    rw [List.take_length] at hG ⊢
    walk_at "ev"
    exact h hG
/-! ### corners -/
theorem lc_pc {g : FG} {t : FT} {fe : FE} {vs : List Nat} {P : List D → List Sl → Prop} {ρ : List Sl} (F : List Int × Int → List Int × Int) (p : Bool) (xs : List (List Int × Int)) (hl : xs.length ≤ 100000)
    (hs : ∀ x ∈ xs, ∀ (k : D → List Sl → Prop) (k0 : List Sl → Prop), (p = true → ∀ ρ3, wipeS ρ3 vs = ρ → k (pc (F x)) ρ3) → (p = false → ∀ ρ2, wipeS ρ2 vs = ρ → k0 ρ2) → g (.tup [tupI x.1, .int x.2]) ρ fun ρ1 => t ρ1 fun b ρ2 => if b = true then fe ρ2 k else k0 ρ2)
    (h : P ((if p = true then xs.map F else []).map pc) ρ) : lcGo g t fe vs (xs.map pc) [] ρ P := by
  refine lc_filt pc (fun x => pc (F x)) (fun _ => p) xs [] (by rw [List.length_nil]; omega) hs ?_
  cases p with
  | true =>
    rw [if_pos rfl, List.map_map] at h
    rw [List.nil_append, List.filter_eq_self.mpr (fun _ _ => rfl)]
    exact h
  | false =>
    rw [if_neg Bool.false_ne_true] at h
    rw [List.nil_append, List.filter_eq_nil_iff.mpr (fun _ _ => Bool.false_ne_true)]
    exact h
theorem cstep_len (fs : List (List Int × Int)) (c : Int) : (cstep fs c).length ≤ 2 * fs.length := by
  unfold cstep
  rw [List.length_append, List.length_map]
  split
  · rw [List.length_map]; omega
  · rw [List.length_nil]; omega
theorem L_corners (m : List Int) (P : D → Prop) (hm : m.length ≤ 4) (nd : (corn m).Pairwise fun x y => x.1 ≠ y.1) (h : ∀ cs : List (List Int × Int), cs.Perm (corn m) → cs.Pairwise (fun x y => HT.lexLt x.1 y.1 = true) → P (.lst (cs.map pc))) : g_corners [tupI m] P := by
  unfold g_corners b_corners
  walk_at "ev"
  refine for_invT D.int (fun j ρ => ∃ (x y z w v : Sl), ρ = [.val (tupI m), .val (.lst ((corn (m.take j)).map pc)), x, y, z, .non, .non] ∧ (corn (m.take j)).length ≤ 2 ^ j) _ _
    ⟨_, _, _, .non, .non, rfl, by rw [List.take_zero]; decide⟩ (fun j c ρ q hI k k1 k2 k3 k4 => ?_) (fun ρ hI => ?_)
  · obtain ⟨x, y, z, _, _, rfl, hG⟩ := hI
    have hj := (List.getElem?_eq_some_iff.mp q).1
    have hpow : 2 ^ j ≤ 2 ^ 3 := Nat.pow_le_pow_right (by decide) (by omega)
    have hl : ∀ p ∈ corn (m.take j), p.1.length ≤ 4 := fun p hp => by
      rw [corn_len _ p hp, List.length_take]
      omega
    have hgs : corn (m.take (j + 1)) = cstep (corn (m.take j)) c := by rw [take_q q, corn_snoc]
    rw [hgs] at k1
    revert hG hl k1
    generalize corn (m.take j) = G
    intro k1 hG hl
    walk_at "ev"
    refine lc_mapT pc (fun x => pc (x.1 ++ [c], x.2)) G [] (by rw [List.length_nil]; omega) (fun x hx k hk => ?_) ?_
    · have := hl x hx
      unfold pc
      walk_at "ev"
      refine ⟨by omega, hk _ ?_⟩
      rfl
    · walk_at "ev"
      refine lc_pc (fun x => (x.1 ++ [c - 1], -x.2)) (decide (0 < c)) G (by omega) (fun x hx k k0 hk hk0 => ?_) ?_
      · have := hl x hx
        walk_at "ev"
        refine bool_if (fun e => ?_) (fun e => ?_)
        · walk_at "ev"
          refine ⟨by omega, hk e _ ?_⟩
          rfl
        · refine hk0 e _ ?_
          rfl
      · walk_at "ev"
        have hc := cstep_len G c
        have e1 : (G.map fun x => pc (x.1 ++ [c], x.2)) = (G.map fun x => (x.1 ++ [c], x.2)).map pc := by rw [List.map_map]; rfl
        have e2 : ((if decide (0 < c) = true then G.map (fun x => (x.1 ++ [c - 1], -x.2)) else []).map pc ++ (G.map fun x => pc (x.1 ++ [c], x.2))) = (cstep G c).map pc := by
          unfold cstep
          rw [e1, List.map_append]
          by_cases h0 : 0 < c
          · rw [if_pos h0, if_pos (decide_eq_true h0)]
          · rw [if_neg h0, decide_eq_false h0, if_neg Bool.false_ne_true]
        have e3 : (if decide (0 < c) = true then G.map (fun x => (x.1 ++ [c - 1], -x.2)) else []).length + G.length = (cstep G c).length := by
          have := congrArg List.length e2
          rw [List.length_append, List.length_map, List.length_map, List.length_map] at this
          exact this
        rw [e2, e3]
        refine ⟨by omega, (k1 _ ⟨_, _, _, .non, .non, rfl, ?_⟩).1⟩
        rw [Nat.pow_succ]
        omega
  · obtain ⟨x, y, z, _, _, rfl, hG⟩ := hI
    rw [List.take_length]
    walk_at "ev"
    refine gSortD_pc _ _ nd fun cs h1 h2 => ?_
    walk_at "ev"
    exact h cs h1 h2
/-! ### what the law asks of corners -/
theorem L_is_integer (i : Int) (P : D → Prop) (h : P (.bl true)) : g_law_is_integer [.int i] P := by
  unfold g_law_is_integer b_law_is_integer
  walk_at "ev"
  exact h
theorem L_is_corner (m : List Int) (c : List Int × Int) (P : D → Prop) (hm : m.length ≤ 4) (hc : isC m c) (h : P (.bl true)) : g_law_is_corner [pc c, tupI m] P := by
  obtain ⟨h1, h2, h3⟩ := hc
  unfold g_law_is_corner b_law_is_corner pc
  walk_at "ev"
  rw [h1]
  walk_at "ev"
  refine L_is_integer _ _ ?_
  walk_at "ev"
  refine ⟨by omega, by omega, ?_⟩
  rw [Int.toNat_natCast]
  refine for_range (fun j ρ => ∃ (x : Sl), ρ = [.val (.tup [tupI c.1, .int c.2]), .val (tupI m), .val (.int ((List.range j).map fun i => if c.1.getD i 0 = m.getD i 0 then (0 : Int) else 1).sum), x]) 0 _ _ ⟨_, rfl⟩ (fun j ρ hj hI k k1 k2 k3 k4 => ?_) (fun ρ hI => ?_)
  · obtain ⟨x, rfl⟩ := hI
    obtain ⟨g1, g2⟩ := h2 j hj
    rw [Int.zero_add]
    walk_at "ev"
    rw [atN_nat (by omega)]
    walk_at "ev"
    refine L_is_integer _ _ ?_
    walk_at "ev"
    rw [atN_nat (by omega)]
    walk_at "ev"
    refine bool_if (fun e => absurd (of_decide_eq_true e) (by omega)) (fun e => ?_)
    have ea : atN c.1 (j : Int) = some (c.1.getD j 0) := atN_nat (by omega)
    have eb : atN m (j : Int) = some (m.getD j 0) := atN_nat (by omega)
    have es : ((List.range (j + 1)).map fun i => if c.1.getD i 0 = m.getD i 0 then (0 : Int) else 1).sum = ((List.range j).map fun i => if c.1.getD i 0 = m.getD i 0 then (0 : Int) else 1).sum + (if c.1.getD j 0 = m.getD j 0 then (0 : Int) else 1) := by
      rw [List.range_succ, List.map_append, List.sum_append]
      show _ + (_ + (0 : Int)) = _
      rw [Int.add_zero]
    rw [es] at k1
    revert g2 k1
    generalize ((List.range j).map fun i => if c.1.getD i 0 = m.getD i 0 then (0 : Int) else 1).sum = s
    revert ea eb
    generalize c.1.getD j 0 = u
    generalize m.getD j 0 = v
    intro ea eb k1 g2
    rw [ea]
    walk_at "ev"
    rw [eb]
    walk_at "ev"
    refine bool_ifF (fun e => ?_) (fun e => ?_)
    · walk_at "ev"
      rw [ea]
      walk_at "ev"
      rw [eb]
      walk_at "ev"
      have hne := of_decide_eq_false e
      have h1 : u = v - 1 := g2.elim (fun h => absurd h hne) id
      rw [decide_eq_true h1]
      walk_at "ev"
      rw [ea]
      walk_at "ev"
      rw [eb]
      walk_at "ev"
      rw [e]
      walk_at "ev"
      rw [if_neg hne] at k1
      exact (k1 _ ⟨_, rfl⟩).1
    · walk_at "ev"
      rw [ea]
      walk_at "ev"
      rw [eb]
      walk_at "ev"
      rw [e]
      walk_at "ev"
      rw [if_pos (of_decide_eq_true e)] at k1
      exact (k1 _ ⟨_, rfl⟩).1
  · obtain ⟨x, rfl⟩ := hI
    walk_at "ev"
    rw [← h3, decide_eq_true rfl]
    exact ⟨cmul_l _ (by decide), h⟩
theorem L_are_corners (m : List Int) (cs : List (List Int × Int)) (P : D → Prop) (hm : m.length ≤ 4) (hcl : cs.length ≤ 16) (hc : ∀ c ∈ cs, isC m c) (hl : cs.length = (m.map fun x => if 0 < x then (2 : Nat) else 1).foldl (· * ·) 1) (hs : cs.Pairwise fun x y => HT.lexLt x.1 y.1 = true) (h : P (.bl true)) :
    g_law_are_corners [.lst (cs.map pc), tupI m] P := by
  unfold g_law_are_corners b_law_are_corners
  walk_at "ev"
  refine for_invT D.int (fun j ρ => ∃ (x y z : Sl), ρ = [.val (.lst (cs.map pc)), .val (tupI m), .val (.int ((((m.take j).map fun x => if 0 < x then (2 : Nat) else 1).foldl (· * ·) 1 : Nat) : Int)), x, .non, .non]) _ _ ⟨_, .non, .non, rfl⟩ (fun j c ρ q hI k k1 k2 k3 k4 => ?_) (fun ρ hI => ?_)
  · obtain ⟨x, y, z, rfl⟩ := hI
    rw [take_q q, List.map_append, List.foldl_append, List.map_cons, List.map_nil, List.foldl_cons, List.foldl_nil] at k1
    revert k1
    generalize ((m.take j).map fun x => if 0 < x then (2 : Nat) else 1).foldl (· * ·) 1 = X
    intro k1
    walk_at "ev"
    refine bool_if (fun e => ?_) (fun e => ?_)
    · walk_at "ev"
      rw [if_pos (of_decide_eq_true e), Int.natCast_mul, Int.cast_ofNat_Int] at k1
      exact ⟨cmul_r _ (by decide), (k1 _ ⟨_, .non, .non, rfl⟩).1⟩
    · walk_at "ev"
      rw [if_neg (of_decide_eq_false e), Nat.mul_one] at k1
      exact (k1 _ ⟨_, .non, .non, rfl⟩).1
  · obtain ⟨x, y, z, rfl⟩ := hI
    rw [List.take_length, ← hl]
    walk_at "ev"
    refine lc_mapT pc (fun _ => .bl true) cs [] ?_ (fun c hx k hk => ?_) ?_
    · rw [List.length_nil]; omega
    · walk_at "ev"
      refine L_is_corner m c _ hm (hc c hx) ?_
      exact hk _ rfl
    · rw [show (fun _ : List Int × Int => D.bl true) = D.bl ∘ (fun _ => true) from rfl, ← List.map_map]
      walk_at "ev"
      rw [all_true _ _ fun _ _ => rfl]
      walk_at "ev"
      refine ⟨⟨by omega, by omega⟩, ?_⟩
      have hn : ((cs.length : Int) - 1).toNat = cs.length - 1 := by omega
      rw [hn]
      refine lc_rangeI (fun j acc ρ => ρ = [.val (.lst (cs.map pc)), .val (tupI m), .val (.int cs.length), x, .non, .non] ∧ acc = (List.replicate j true).map D.bl) 1 _ _ ⟨rfl, rfl⟩ (fun j acc ρ hj hI k k1 => ?_) (fun acc ρ hI => ?_)
      · obtain ⟨rfl, rfl⟩ := hI
        have q1 : cs[j]? = some cs[j] := List.getElem?_eq_getElem (by omega)
        have q2 : cs[j + 1]? = some cs[j + 1] := List.getElem?_eq_getElem (by omega)
        have lt := (List.pairwise_iff_getElem.mp hs) j (j + 1) (by omega) (by omega) (by omega)
        revert q1 q2 lt
        generalize cs[j] = u
        generalize cs[j + 1] = v
        intro q1 q2 lt
        walk_at "ev"
        rw [show (1 + (j : Int) - 1) = (j : Int) by omega, atI_mapN pc q1, show pc u = D.tup [tupI u.1, .int u.2] from rfl]
        walk_at "ev"
        rw [show (1 + (j : Int)) = ((j + 1 : Nat) : Int) by omega, atI_mapN pc q2, show pc v = D.tup [tupI v.1, .int v.2] from rfl]
        walk_at "ev"
        rw [lt]
        refine ⟨by rw [List.length_replicate]; omega, k1 _ _ ⟨rfl, ?_⟩⟩
        rw [List.replicate_succ', List.map_append]
        rfl
      · obtain ⟨rfl, rfl⟩ := hI
        walk_at "ev"
        rw [show (List.replicate (cs.length - 1) true).all id = true from List.all_eq_true.mpr fun b hb => (List.mem_replicate.mp hb).2]
        exact h
/-! ### sums, tables -/
theorem L_sum_over (cs : List (List Int × Int)) (B : List (List Int)) (f : List Int → Int) (P : D → Prop) (hl : cs.length ≤ 1000) (hB : ∀ c ∈ cs, c.1 ∈ B) (hs : ∀ c ∈ cs, c.2 = 1 ∨ c.2 = -1) (h : P (.int (csum f cs))) :
    g_law_sum_over [.lst (cs.map pc), .dT (B.map ky) (B.map fun p => .int (f p))] P := by
  unfold g_law_sum_over b_law_sum_over
  walk_at "ev"
  refine lc_mapT pc (fun c => .int (c.2 * f c.1)) cs [] (by rw [List.length_nil]; omega) (fun c hc k hk => ?_) ?_
  · unfold pc
    walk_at "ev"
    rw [show (List.map Sum.inl c.1 : List Key) = ky c.1 from rfl, look_map (fun p => .int (f p)) c.1 B (hB c hc)]
    walk_at "ev"
    refine ⟨cmul_l _ (by rcases hs c hc with e | e <;> rw [e] <;> decide), hk _ ?_⟩
    rfl
  · rw [show (fun c : List Int × Int => D.int (c.2 * f c.1)) = D.int ∘ (fun c => c.2 * f c.1) from rfl, ← List.map_map]
    walk_at "ev"
    exact h
theorem L_amount (a b c : Int) (P : D → D → Prop) (h : ∀ r a' b' c' : Int, P (.int r) (pot a' b' c')) : g_law_amount (pot a b c) [] P := by
  unfold g_law_amount b_law_amount
  walk_at "ev"
  refine L_draw _ _ _ _ _ (by decide) (by decide) fun r a1 b1 c1 h1 h2 => ?_
  walk_at "ev"
  refine bool_if (fun e => ?_) (fun e => ?_)
  · walk_at "ev"
    refine L_great _ _ _ _ fun r2 a2 b2 c2 h3 => ?_
    walk_at "ev"
    exact h _ _ _ _
  · walk_at "ev"
    refine bool_if (fun e => ?_) (fun e => ?_)
    · walk_at "ev"
      refine L_great _ _ _ _ fun r2 a2 b2 c2 h3 => ?_
      walk_at "ev"
      exact h _ _ _ _
    · walk_at "ev"
      exact h _ _ _ _
theorem L_law_meet (a b : List Int) (P : D → Prop) (hl : a.length ≤ 100) (hab : a.length = b.length) (h : P (tupI (meetL a b))) : g_law_meet [tupI a, tupI b] P := by
  unfold g_law_meet b_law_meet
  walk_at "ev"
  refine ⟨by omega, by omega, ?_⟩
  rw [Int.toNat_natCast]
  refine lc_range _ (fun i => .int (imin (a.getD i 0) (b.getD i 0))) (by omega) (fun i hi k hk => ?_) ?_
  · walk_at "ev"
    rw [atN_nat hi]
    walk_at "ev"
    rw [atN_nat (by omega)]
    walk_at "ev"
    exact hk _ rfl
  · rw [range_zip (fun x y => D.int (imin x y)) a b hab, zw_map]
    walk_at "ev"
    exact h
theorem L_moved (a b c : Int) (m : List Int) (P : D → D → Prop) (hl : m.length ≤ 100) (hm : NN m) (h : ∀ (m' : List Int) (a' b' c' : Int), okM m.length m' → P (tupI m') (pot a' b' c')) : g_law_moved (pot a b c) [tupI m] P := by
  unfold g_law_moved b_law_moved
  walk_at "ev"
  refine for_invT D.int (fun j ρ => ∃ (a b c : Int) (M : List Int) (x : Sl), ρ = [.own (pot a b c), .val (tupI m), .own (lstI M), x] ∧ M.length = j ∧ NN M) _ _ ⟨_, _, _, [], _, rfl, rfl, fun x hx => (nomatch hx)⟩ (fun j x ρ hj hI k k1 k2 k3 k4 => ?_) (fun ρ hI => ?_)
  · obtain ⟨a, b, c, M, y, rfl, hM, hN⟩ := hI
    have hj' := (List.getElem?_eq_some_iff.mp hj).1
    have hx := hm x (List.mem_of_getElem? hj)
    have app : ∀ s : Int, 0 ≤ s → ∀ (a b c : Int) (y : Sl), k (.nx [.own (pot a b c), .val (tupI m), .own (.lst (M.map D.int ++ [D.int s])), y]) := fun s hs a b c y => by
      have := (k1 [.own (pot a b c), .val (tupI m), .own (lstI (M ++ [s])), y] ⟨a, b, c, M ++ [s], y, rfl, by rw [List.length_append, List.length_singleton, hM], fun u hu => ?_⟩).1
      · unfold lstI at this
        rw [map_snoc] at this
        exact this
      · rcases List.mem_append.mp hu with hu | hu
        · exact hN u hu
        · rw [List.mem_singleton.mp hu]; exact hs
    walk_at "ev"
    refine L_draw _ _ _ _ _ (by decide) (by decide) fun r a1 b1 c1 h1 h2 => ?_
    walk_at "ev"
    refine bool_if (fun e => ?_) (fun e => ?_)
    · walk_at "ev"
      refine L_great _ _ _ _ fun r2 a2 b2 c2 h3 => ?_
      walk_at "ev"
      exact ⟨by omega, app _ (by omega) _ _ _ _⟩
    · walk_at "ev"
      exact ⟨by omega, app _ hx _ _ _ _⟩
  · obtain ⟨a, b, c, M, y, rfl, hM, hN⟩ := hI
    unfold lstI
    walk_at "ev"
    exact h _ _ _ _ ⟨hM, hN⟩
/-- a dict over the box -/
def tab (B : List (List Int)) (f : List Int → Int) : D := .dT (B.map ky) (B.map fun p => .int (f p))
theorem L_two_hold (n : Nat) (B : List (List Int)) (f g : List Int → Int) (a b : List Int) (P : D → Prop) (hn : n ≤ 4) (hB : B.length ≤ 5000) (hBl : ∀ p ∈ B, p.length = n) (ha : a ∈ B) (hb : b ∈ B) (hlo : meetL a b ∈ B) (hup : joinL a b ∈ B) (hz : ∀ p ∈ B, zs g B p = f p) (h : P (.bl true)) :
    g_law_two_hold [tupI a, tupI b, tab B f, tab B g] P := by
  have la := hBl a ha
  have lb := hBl b hb
  unfold g_law_two_hold b_law_two_hold tab
  walk_at "ev"
  refine L_meet_of a b _ (by omega) ?_
  walk_at "ev"
  refine L_join_of a b _ (by omega) ?_
  walk_at "ev"
  refine L_law_meet a b _ (by omega) (by omega) ?_
  walk_at "ev"
  rw [gNe_tupI, decide_eq_true rfl]
  walk_at "ev"
  refine L_law_join a b _ (by omega) (by omega) ?_
  walk_at "ev"
  rw [gNe_tupI, decide_eq_true rfl]
  walk_at "ev"
  have hlk : ∀ (F : List Int → Int) (p : List Int), p ∈ B → look (B.map ky) (B.map fun p => D.int (F p)) (ky p) = some (.int (F p)) := fun F p hp => look_map (fun p => .int (F p)) p B hp
  show forGo _ _ ([a, b, meetL a b, joinL a b].map tupI) _ _
  refine for_invT tupI (fun j ρ => ∃ (x : Sl), ρ = [.val (tupI a), .val (tupI b), .val (.dT (B.map ky) (B.map fun p => .int (f p))), .val (.dT (B.map ky) (B.map fun p => .int (g p))), .val (tupI (meetL a b)), .val (tupI (joinL a b)), x, .non, .non, .non, .non, .non]) _ _ ⟨_, rfl⟩ (fun j p ρ q hI k k1 k2 k3 k4 => ?_) (fun ρ hI => ?_)
  · obtain ⟨x, rfl⟩ := hI
    have hp : p ∈ B := by
      have := List.mem_of_getElem? q
      rcases List.mem_cons.mp this with rfl | this
      · exact ha
      · rcases List.mem_cons.mp this with rfl | this
        · exact hb
        · rcases List.mem_cons.mp this with rfl | this
          · exact hlo
          · rw [List.mem_singleton.mp this]; exact hup
    walk_at "ev"
    rw [keys_tupI]
    refine lc_filt tupI (fun u => .int (g u)) (fun u => befL u p) B [] (by rw [List.length_nil]; omega) (fun u hu k k0 hk hk0 => ?_) ?_
    · walk_at "ev"
      refine L_before u p _ (by rw [hBl u hu]; omega) ?_
      walk_at "ev"
      refine bool_if (fun e => ?_) (fun e => ?_)
      · walk_at "ev"
        rw [show (List.map Sum.inl u : List Key) = ky u from rfl, hlk g u hu]
        walk_at "ev"
        exact hk e _ rfl
      · exact hk0 e _ rfl
    · have e1 : (B.filter fun u => befL u p).map (fun u => D.int (g u)) = ((B.filter fun u => befL u p).map g).map D.int := by rw [List.map_map]; rfl
      rw [e1]
      walk_at "ev"
      rw [filt_sum, show (List.map Sum.inl p : List Key) = ky p from rfl, hlk f p hp]
      walk_at "ev"
      have : (B.map fun x => if befL x p = true then g x else 0).sum = f p := hz p hp
      rw [this, decide_eq_true rfl]
      walk_at "ev"
      exact (k1 _ ⟨_, rfl⟩).1
  · obtain ⟨x, rfl⟩ := hI
    walk_at "ev"
    rw [keys_tupI]
    refine for_invT tupI (fun j ρ => ∃ (x y z : Sl), ρ = [.val (tupI a), .val (tupI b), .val (.dT (B.map ky) (B.map fun p => .int (f p))), .val (.dT (B.map ky) (B.map fun p => .int (g p))), .val (tupI (meetL a b)), .val (tupI (joinL a b)), x,
      .val (.int ((B.take j).map fun q => if (befL q a && befL q b) = true then g q else 0).sum), .val (.int ((B.take j).map fun q => if (befL q a || befL q b) = true then g q else 0).sum), y, z, .non]) _ _ ⟨_, _, _, rfl⟩ (fun j p ρ q hI k k1 k2 k3 k4 => ?_) (fun ρ hI => ?_)
    · obtain ⟨x, y, z, rfl⟩ := hI
      have hp := List.mem_of_getElem? q
      have lp := hBl p hp
      rw [take_q q, List.map_append, List.map_append, List.sum_append, List.sum_append, List.map_cons, List.map_nil, List.map_cons, List.map_nil, sum_cons, sum_cons, List.sum_nil, Int.add_zero, Int.add_zero] at k1
      revert k1
      generalize ((B.take j).map fun q => if (befL q a && befL q b) = true then g q else 0).sum = s1
      generalize ((B.take j).map fun q => if (befL q a || befL q b) = true then g q else 0).sum = s2
      intro k1
      walk_at "ev"
      refine L_before p a _ (by omega) ?_
      walk_at "ev"
      refine L_before p b _ (by omega) ?_
      walk_at "ev"
      have ek : (List.map Sum.inl p : List Key) = ky p := rfl
      have up : befL p a = true ∨ befL p b = true → befL p (joinL a b) = true := fun h => (befL_iff lp (joinL_len la lb)).mpr fun i => by
        rw [jg la lb]
        rcases h with h | h
        · have := (befL_iff lp la).mp h i
          rcases imax_cases (a.getD i 0) (b.getD i 0) with ⟨e, _⟩ | ⟨e, _⟩ <;> omega
        · have := (befL_iff lp lb).mp h i
          rcases imax_cases (a.getD i 0) (b.getD i 0) with ⟨e, _⟩ | ⟨e, _⟩ <;> omega
      cases hA : befL p a <;> cases hB2 : befL p b <;> rw [hA, hB2] at k1 up
      · walk_at "ev"
        simp only [Bool.and_true, Bool.and_false, Bool.or_true, Bool.or_false, Bool.false_eq_true, if_true, if_false, Int.add_zero] at k1
        exact (k1 _ ⟨_, _, _, rfl⟩).1
      · walk_at "ev"
        rw [ek, hlk g p hp]
        walk_at "ev"
        refine L_before p (joinL a b) _ (by omega) ?_
        rw [up (by decide)]
        walk_at "ev"
        simp only [Bool.and_true, Bool.and_false, Bool.or_true, Bool.or_false, Bool.false_eq_true, if_true, if_false, Int.add_zero] at k1
        exact (k1 _ ⟨_, _, _, rfl⟩).1
      · walk_at "ev"
        rw [ek, hlk g p hp]
        walk_at "ev"
        refine L_before p (joinL a b) _ (by omega) ?_
        rw [up (by decide)]
        walk_at "ev"
        simp only [Bool.and_true, Bool.and_false, Bool.or_true, Bool.or_false, Bool.false_eq_true, if_true, if_false, Int.add_zero] at k1
        exact (k1 _ ⟨_, _, _, rfl⟩).1
      · walk_at "ev"
        rw [ek, hlk g p hp]
        walk_at "ev"
        rw [ek, hlk g p hp]
        walk_at "ev"
        refine L_before p (joinL a b) _ (by omega) ?_
        rw [up (by decide)]
        walk_at "ev"
        simp only [Bool.and_true, Bool.and_false, Bool.or_true, Bool.or_false, Bool.false_eq_true, if_true, if_false, Int.add_zero] at k1
        exact (k1 _ ⟨_, _, _, rfl⟩).1
    · obtain ⟨x, y, z, rfl⟩ := hI
      rw [List.take_length]
      have eb : (B.map fun q => if (befL q a && befL q b) = true then g q else 0).sum = f (meetL a b) := by
        rw [← hz _ hlo]
        refine congrArg List.sum (List.map_congr_left fun q hq => ?_)
        rw [meet_bef la lb (hBl q hq)]
      have ee : (B.map fun q => if (befL q a || befL q b) = true then g q else 0).sum = f a + f b - f (meetL a b) := by
        rw [either_sum, eb, ← hz _ ha, ← hz _ hb]
        rfl
      rw [eb, ee]
      walk_at "ev"
      rw [show (List.map Sum.inl (meetL a b) : List Key) = ky (meetL a b) from rfl, hlk f _ hlo]
      walk_at "ev"
      rw [show (List.map Sum.inl a : List Key) = ky a from rfl, hlk f _ ha]
      walk_at "ev"
      rw [show (List.map Sum.inl b : List Key) = ky b from rfl, hlk f _ hb]
      walk_at "ev"
      rw [show (List.map Sum.inl (meetL a b) : List Key) = ky (meetL a b) from rfl, hlk f _ hlo]
      walk_at "ev"
      exact h
theorem nd_take {B : List (List Int)} {p : List Int} {j : Nat} (hB : B.Nodup) (q : B[j]? = some p) : p ∉ B.take j := fun h => by
  obtain ⟨i, hi, e⟩ := List.mem_iff_getElem.mp h
  obtain ⟨hj, e2⟩ := List.getElem?_eq_some_iff.mp q
  rw [List.length_take] at hi
  rw [List.getElem_take] at e
  exact (List.pairwise_iff_getElem.mp (List.nodup_iff_pairwise_ne.mp hB)) i j (by omega) hj (by omega) (e.trans e2.symm)
theorem tab_put {B : List (List Int)} {p : List Int} {j : Nat} (hB : B.Nodup) (q : B[j]? = some p) (f : List Int → Int) (r : Int) (f' : List Int → Int) (hp : f' p = r) (hf : ∀ u ∈ B.take j, f' u = f u) :
    D.dT (putKs ((B.take j).map ky) (ky p)) (putVs ((B.take j).map ky) ((B.take j).map fun p => D.int (f p)) (ky p) (.int r)) = tab (B.take (j + 1)) f' := by
  obtain ⟨e1, e2⟩ := put_new (fun p => D.int (f p)) (.int r) (nd_take hB q)
  have e3 : (B.take j ++ [p]).map (fun p => D.int (f' p)) = (B.take j).map (fun p => D.int (f p)) ++ [D.int r] := by
    rw [List.map_append, List.map_cons, List.map_nil, hp]
    refine congrArg (· ++ [D.int r]) (List.map_congr_left fun u hu => ?_)
    rw [hf u hu]
  unfold tab
  rw [e1, e2, take_q q, e3]
/-! ### the law -/
theorem law_true (ns : List Int) (h : ns.length ≤ 63) : g_law [.rol (ns.map .int)] fun d => d = .bl true := by
  unfold g_law b_law
  walk_at "ev"
  refine L_pot ns _ fun a b c => ?_
  walk_at "ev"
  refine L_draw _ _ _ _ _ (by decide) (by decide) fun r a b c h1 h2 => ?_
  obtain ⟨n, rfl⟩ := Int.eq_ofNat_of_zero_le h1
  walk_at "ev"
  refine ⟨by omega, by omega, ?_⟩
  have hn : (1 + (n : Int)).toNat = n + 1 := by omega
  rw [hn]
  rw [show (1 + (n : Int)) = ((n + 1 : Nat) : Int) by omega]
  refine lc_rangeI (fun j acc ρ => ∃ (a b c : Int) (bs : List Nat), ρ = [.val (.rol (ns.map .int)), .own (pot a b c), .val (.int ((n + 1 : Nat) : Int)), .non, .non, .non, .non, .non, .non, .non, .non, .non, .non, .non, .non, .non] ∧ acc = bs.map (fun b : Nat => D.int b) ∧ bs.length = j ∧ ∀ b ∈ bs, b ≤ 7) 0 _ _
    ⟨a, b, c, [], rfl, rfl, rfl, fun _ h => (nomatch h)⟩ (fun j acc ρ hj hI k k1 => ?_) (fun acc ρ hI => ?_)
  · obtain ⟨a, b, c, bs, rfl, rfl, hL, hLs⟩ := hI
    have hsz : ∃ s : Int, atI [D.int 8, .int 5, .int 4, .int 3] (((n + 1 : Nat) : Int) - 1) = some (.int s) ∧ 1 ≤ s ∧ s ≤ 8 := by
      rw [show (((n + 1 : Nat) : Int) - 1) = ((n : Nat) : Int) by omega, atI_nn]
      have : n < 4 := by omega
      match n, this with
      | 0, _ => exact ⟨8, rfl, by decide, by decide⟩
      | 1, _ => exact ⟨5, rfl, by decide, by decide⟩
      | 2, _ => exact ⟨4, rfl, by decide, by decide⟩
      | 3, _ => exact ⟨3, rfl, by decide, by decide⟩
    obtain ⟨s, es, s1, s2⟩ := hsz
    walk_at "ev"
    rw [es]
    walk_at "ev"
    refine L_draw _ _ _ _ _ (by omega) (by omega) fun r a b c h1 h2 => ?_
    obtain ⟨r, rfl⟩ := Int.eq_ofNat_of_zero_le h1
    walk_at "ev"
    refine ⟨by omega, k1 _ _ ⟨a, b, c, bs ++ [r], rfl, ?_, by rw [List.length_append, List.length_singleton, hL], fun u hu => ?_⟩⟩
    · rw [List.map_append]; rfl
    · rcases List.mem_append.mp hu with hu | hu
      · exact hLs u hu
      · rw [List.mem_singleton.mp hu]; omega
  · obtain ⟨a, b, c, bs, rfl, rfl, hL, hLs⟩ := hI
    walk_at "ev"
    refine lc_mapT (fun b : Nat => D.int b) (fun b => lstI (upto b)) bs [] (by rw [List.length_nil]; omega) (fun b hb k hk => ?_) ?_
    · have := hLs b hb
      walk_at "ev"
      rw [rangeD_upto]
      refine ⟨by omega, by omega, hk _ ?_⟩
      rfl
    · rw [show (fun b => lstI (upto b)) = lstI ∘ upto from rfl, ← List.map_map]
      walk_at "ev"
      refine L_grid (bs.map upto) _ (by rw [List.length_map]; omega) (fun L hL => ?_) fun hG => ?_
      · obtain ⟨b, hb, rfl⟩ := List.mem_map.mp hL
        have := hLs b hb
        unfold upto
        rw [List.length_map, List.length_range]
        omega
      · rw [List.length_map, hL] at hG
        have hG2 : 8 ^ (n + 1) ≤ 8 ^ 4 := Nat.pow_le_pow_right (by decide) (by omega)
        rw [show gridL (bs.map upto) = box bs from rfl] at hG ⊢
        have hBl : (box bs).length ≤ 4096 := Nat.le_trans hG hG2
        walk_at "ev"
        have hnd := box_nd bs
        have hin := box_in bs
        have hlen : ∀ p ∈ box bs, p.length = n + 1 := fun p hp => (box_len p hp).trans hL
        have inb : ∀ {p : List Int}, InBox bs p → p ∈ box bs := in_box
        have hZD : ∀ f : List Int → Int, ∀ p ∈ box bs, zs (Dfn f) (box bs) p = f p := fun f p hp => ZD (hin p hp) f
        have hDZ : ∀ f : List Int → Int, ∀ p ∈ box bs, Dfn (fun q => zs f (box bs) q) p = f p := fun f p hp => DZ (hin p hp) f
        have hcorn : ∀ p ∈ box bs, ∀ c ∈ corn p, isC p c ∧ c.1 ∈ box bs := fun p hp c hc => by
          have := corn_isC p (in_nn (hin p hp)) c hc
          exact ⟨this, inb (in_corn (hin p hp) this)⟩
        have hmeet : ∀ a ∈ box bs, ∀ b ∈ box bs, meetL a b ∈ box bs ∧ joinL a b ∈ box bs := fun a ha b hb => ⟨inb (in_meet (hin a ha) (hin b hb)), inb (in_join (hin a ha) (hin b hb))⟩
        have hNN : ∀ p ∈ box bs, NN p := fun p hp => in_nn (hin p hp)
        have hne : 1 ≤ (box bs).length := by
          have : List.replicate bs.length (0 : Int) ∈ box bs := inb (inBox_of bs _ List.length_replicate fun i hi => by
            rw [List.getD_eq_getElem?_getD, List.getElem?_replicate, if_pos hi]
            exact ⟨Int.le_refl 0, by show (0 : Int) ≤ _; omega⟩)
          exact List.length_pos_iff.mpr fun e => by rw [e] at this; cases this
        clear hG hin inb
        revert hBl hnd hlen hZD hDZ hcorn hmeet hNN hne
        generalize box bs = B
        intro hBl hnd hlen hZD hDZ hcorn hmeet hNN hne
        refine for_invT tupI (fun j ρ => ∃ (a b c : Int) (f : List Int → Int) (x : Sl), ρ = [.val (.rol (ns.map .int)), .own (pot a b c), .val (.int ((n + 1 : Nat) : Int)), .val (.lst (bs.map fun b : Nat => D.int b)), .val (.lst (B.map tupI)), .own (tab (B.take j) f), x, .non, .non, .non, .non, .non, .non, .non, .non, .non]) _ _ ⟨a, b, c, fun _ => 0, _, rfl⟩ (fun j p ρ q hI k k1 k2 k3 k4 => ?_) (fun ρ hI => ?_)
        · obtain ⟨a, b, c, f, x, rfl⟩ := hI
          have hj := (List.getElem?_eq_some_iff.mp q).1
          unfold tab
          walk_at "ev"
          refine L_amount _ _ _ _ fun r a b c => ?_
          walk_at "ev"
          rw [show (List.map Sum.inl p : List Key) = ky p from rfl, tab_put hnd q f r (fun u => if u = p then r else f u) (if_pos rfl) fun u hu => if_neg (show ¬ u = p from fun e => nd_take hnd q (by rw [← e]; exact hu))]
          refine ⟨by rw [List.length_take]; omega, (k1 _ ⟨_, _, _, _, _, rfl⟩).1⟩
        · obtain ⟨a, b, c, f, x, rfl⟩ := hI
          rw [List.take_length]
          walk_at "ev"
          refine for_invT tupI (fun j ρ => ∃ (s5 x y : Sl), (s5 = .own (tab B f) ∨ s5 = .val (tab B f)) ∧ ρ = [.val (.rol (ns.map .int)), .own (pot a b c), .val (.int ((n + 1 : Nat) : Int)), .val (.lst (bs.map fun b : Nat => D.int b)), .val (.lst (B.map tupI)), s5, x, .own (tab (B.take j) (Dfn f)), .non, .non, y, .non, .non, .non, .non, .non]) _ _ ⟨_, _, _, .inl rfl, rfl⟩ (fun j p ρ q hI k k1 k2 k3 k4 => ?_) (fun ρ hI => ?_)
          · obtain ⟨s5, x, y, h5, rfl⟩ := hI
            have hj := (List.getElem?_eq_some_iff.mp q).1
            have hp := List.mem_of_getElem? q
            have lp := hlen p hp
            walk_at "ev"
            refine L_corners p _ (by omega) (corn_nd p) fun cs hcs hso => ?_
            have hle : cs.length ≤ 16 := by
              rw [hcs.length_eq]
              exact Nat.le_trans (corn_le p) (Nat.pow_le_pow_right (n := 2) (by decide) (show p.length ≤ 4 by omega))
            walk_at "ev"
            refine L_are_corners p cs _ (by omega) hle (fun c hc => (hcorn p hp c (hcs.mem_iff.mp hc)).1) (by rw [hcs.length_eq]; exact corn_cnt p) hso ?_
            walk_at "ev"
            have fin : k (.nx [.val (.rol (ns.map .int)), .own (pot a b c), .val (.int ((n + 1 : Nat) : Int)), .val (.lst (bs.map fun b : Nat => D.int b)), .val (.lst (B.map tupI)), .val (tab B f), .val (tupI p), .own (tab (B.take (j + 1)) (Dfn f)), .non, .non, .val (.lst (cs.map pc)), .non, .non, .non, .non, .non]) := (k1 _ ⟨_, _, _, .inr rfl, rfl⟩).1
            have sum : ∀ Q : D → Prop, Q (.int (Dfn f p)) → g_law_sum_over [.lst (cs.map pc), tab B f] Q := fun Q hQ => by
              refine L_sum_over cs B f Q (by omega) (fun c hc => (hcorn p hp c (hcs.mem_iff.mp hc)).2) (fun c hc => isC_sign (hcorn p hp c (hcs.mem_iff.mp hc)).1) ?_
              rw [csum_perm hcs]
              exact hQ
            have put := tab_put hnd q (Dfn f) (Dfn f p) (Dfn f) rfl (fun _ _ => rfl)
            rcases h5 with rfl | rfl
            · walk_at "ev"
              refine sum _ ?_
              unfold tab
              walk_at "ev"
              rw [show (List.map Sum.inl p : List Key) = ky p from rfl, put]
              exact ⟨by rw [List.length_take]; omega, fin⟩
            · walk_at "ev"
              refine sum _ ?_
              unfold tab
              walk_at "ev"
              rw [show (List.map Sum.inl p : List Key) = ky p from rfl, put]
              exact ⟨by rw [List.length_take]; omega, fin⟩
          · obtain ⟨s5, x, y, h5, rfl⟩ := hI
            have hs5 : frz s5 = .val (tab B f) := by rcases h5 with rfl | rfl <;> rfl
            rw [List.take_length]
            have pick : ∀ r : Int, 0 ≤ r → r < (B.length : Int) → ∃ p, atI (B.map tupI) r = some (tupI p) ∧ p ∈ B := fun r h0 h1 => by
              obtain ⟨r, rfl⟩ := Int.eq_ofNat_of_zero_le h0
              have hr : r < B.length := by omega
              exact ⟨_, atI_mapN tupI (List.getElem?_eq_getElem hr), List.getElem_mem hr⟩
            walk_at "ev"
            refine L_draw _ _ _ _ _ (by omega) (by omega) fun r a b c r1 r2 => ?_
            obtain ⟨p, ep, hp⟩ := pick r r1 r2
            walk_at "ev"
            rw [ep]
            walk_at "ev"
            refine L_draw _ _ _ _ _ (by omega) (by omega) fun r a b c r1 r2 => ?_
            obtain ⟨p2, ep2, hp2⟩ := pick r r1 r2
            walk_at "ev"
            rw [ep2]
            walk_at "ev"
            rw [hs5]
            walk_at "ev"
            obtain ⟨m1, m2⟩ := hmeet p hp p2 hp2
            refine L_two_hold (n + 1) B f (Dfn f) p p2 _ (by omega) (by omega) hlen hp hp2 m1 m2 (hZD f) ?_
            walk_at "ev"
            have lp := hlen p hp
            refine L_corners p _ (by omega) (corn_nd p) fun cs hcs hso => ?_
            have hle : cs.length ≤ 16 := by
              rw [hcs.length_eq]
              exact Nat.le_trans (corn_le p) (Nat.pow_le_pow_right (n := 2) (by decide) (show p.length ≤ 4 by omega))
            have hcs1 : ∀ c ∈ cs, isC p c ∧ c.1 ∈ B := fun c hc => hcorn p hp c (hcs.mem_iff.mp hc)
            walk_at "ev"
            refine L_are_corners p cs _ (by omega) hle (fun c hc => (hcs1 c hc).1) (by rw [hcs.length_eq]; exact corn_cnt p) hso ?_
            walk_at "ev"
            have ndc : (cs.map (·.1)).Nodup := by
              rw [List.nodup_iff_pairwise_ne, List.pairwise_map]
              refine hso.imp fun {u v} huv e => ?_
              rw [e, lexLt_lt] at huv
              exact absurd (of_decide_eq_true huv) (List.lt_irrefl _)
            refine for_invT pc (fun j ρ => ∃ (z : Sl), ρ = [.val (.rol (ns.map .int)), .own (pot a b c), .val (.int ((n + 1 : Nat) : Int)), .val (.lst (bs.map fun b : Nat => D.int b)), .val (.lst (B.map tupI)), s5, x, .own (tab B (Dfn f)), .val (tupI p), .val (tupI p2), .val (.lst (cs.map pc)), .own (tab ((cs.map (·.1)).take j) (fun q => zs f B q)), z, .non, .non, .non]) _ _ ⟨_, rfl⟩ (fun j c0 ρ q hI k k1 k2 k3 k4 => ?_) (fun ρ hI => ?_)
            · obtain ⟨z, rfl⟩ := hI
              have hc0 := hcs1 c0 (List.mem_of_getElem? q)
              have q1 : (cs.map (·.1))[j]? = some c0.1 := by rw [List.getElem?_map, q]; rfl
              have lc0 := hlen c0.1 hc0.2
              have put := tab_put ndc q1 (fun q => zs f B q) (zs f B c0.1) (fun q => zs f B q) rfl (fun _ _ => rfl)
              have fin := (k1 _ ⟨.val (.tup [tupI c0.1, .int c0.2]), rfl⟩).1
              unfold pc
              walk_at "ev"
              rw [hs5]
              walk_at "ev"
              refine lc_filt tupI (fun u => .int (f u)) (fun u => befL u c0.1) B [] (by rw [List.length_nil]; omega) (fun u hu k k0 hk hk0 => ?_) ?_
              · walk_at "ev"
                refine L_law_before u c0.1 _ (by rw [hlen u hu]; omega) (by rw [hlen u hu, lc0]) ?_
                walk_at "ev"
                refine bool_if (fun e => ?_) (fun e => ?_)
                · unfold tab
                  walk_at "ev"
                  rw [show (List.map Sum.inl u : List Key) = ky u from rfl, look_map (fun p => .int (f p)) u B hu]
                  walk_at "ev"
                  exact hk e _ rfl
                · exact hk0 e _ rfl
              · have e1 : (B.filter fun u => befL u c0.1).map (fun u => D.int (f u)) = ((B.filter fun u => befL u c0.1).map f).map D.int := by rw [List.map_map]; rfl
                rw [e1]
                walk_at "ev"
                rw [filt_sum]
                unfold tab
                walk_at "ev"
                rw [show (List.map Sum.inl c0.1 : List Key) = ky c0.1 from rfl]
                refine ⟨by rw [List.length_take, List.length_map]; omega, ?_⟩
                have put2 : D.dT (putKs (((cs.map (·.1)).take j).map ky) (ky c0.1)) (putVs (((cs.map (·.1)).take j).map ky) (((cs.map (·.1)).take j).map fun p => D.int (zs f B p)) (ky c0.1) (.int ((B.map fun x => if befL x c0.1 = true then f x else 0).sum))) = tab ((cs.map (·.1)).take (j + 1)) fun q => zs f B q := put
                rw [put2]
                exact fin
            · obtain ⟨z, rfl⟩ := hI
              rw [show (cs.map (·.1)).take cs.length = cs.map (·.1) from by rw [← List.length_map (f := (·.1)), List.take_length]]
              walk_at "ev"
              rw [hs5]
              walk_at "ev"
              refine L_sum_over cs (cs.map (·.1)) (fun q => zs f B q) _ (by omega) (fun c hc => List.mem_map.mpr ⟨c, hc, rfl⟩) (fun c hc => isC_sign (hcs1 c hc).1) ?_
              rw [csum_perm hcs]
              have e := hDZ f p hp
              unfold Dfn at e
              rw [e]
              unfold tab
              walk_at "ev"
              rw [show (List.map Sum.inl p : List Key) = ky p from rfl, look_map (fun p => .int (f p)) p B hp]
              walk_at "ev"
              refine L_moved a b c p _ (by omega) (hNN p hp) fun m' a b c hm' => ?_
              walk_at "ev"
              have lm : m'.length = n + 1 := by rw [hm'.1, lp]
              refine L_corners m' _ (by omega) (corn_nd m') fun cs2 hcs2 hso2 => ?_
              have hle2 : cs2.length ≤ 16 := by
                rw [hcs2.length_eq]
                exact Nat.le_trans (corn_le m') (Nat.pow_le_pow_right (n := 2) (by decide) (show m'.length ≤ 4 by omega))
              walk_at "ev"
              refine L_are_corners m' cs2 _ (by omega) hle2 (fun c hc => corn_isC m' hm'.2 c (hcs2.mem_iff.mp hc)) (by rw [hcs2.length_eq]; exact corn_cnt m') hso2 ?_
              rfl
end LK01

/-! K01E: the end (printed by gen.py). -/
namespace LK01
open PySem L2 DL
theorem all_mk {l : PySem.W.OpenLaw} {w : World} {K : PySem.W.Frag} {h : Heap} {mg : Str → Option Value} {fa : Addr} (X : K.In h) (G : h.Ns mainGlobals mg) (hfa : mg "law" = some (.ref fa))
    (A_before : At K "before" s_before)
    (A_join_of : At K "join_of" s_join_of)
    (A_meet_of : At K "meet_of" s_meet_of)
    (A_corners : At K "corners" s_corners)
    (A_law_pot : At K "_law_pot" s_law_pot)
    (A_law_draw : At K "_law_draw" s_law_draw)
    (A_law_great : At K "_law_great" s_law_great)
    (A_law_amount : At K "_law_amount" s_law_amount)
    (A_law_grid : At K "_law_grid" s_law_grid)
    (A_law_is_integer : At K "_law_is_integer" s_law_is_integer)
    (A_law_before : At K "_law_before" s_law_before)
    (A_law_meet : At K "_law_meet" s_law_meet)
    (A_law_join : At K "_law_join" s_law_join)
    (A_law_is_corner : At K "_law_is_corner" s_law_is_corner)
    (A_law_are_corners : At K "_law_are_corners" s_law_are_corners)
    (A_law_sum_over : At K "_law_sum_over" s_law_sum_over)
    (A_law_moved : At K "_law_moved" s_law_moved)
    (A_law_two_hold : At K "_law_two_hold" s_law_two_hold)
    (A_law : At K "law" s_law)
    (z_all : PySem.W.nsIn K mainGlobals "all" = some none)
    (z_bool : PySem.W.nsIn K mainGlobals "bool" = some none)
    (z_int : PySem.W.nsIn K mainGlobals "int" = some none)
    (z_isinstance : PySem.W.nsIn K mainGlobals "isinstance" = some none)
    (z_len : PySem.W.nsIn K mainGlobals "len" = some none)
    (z_list : PySem.W.nsIn K mainGlobals "list" = some none)
    (z_max : PySem.W.nsIn K mainGlobals "max" = some none)
    (z_min : PySem.W.nsIn K mainGlobals "min" = some none)
    (z_range : PySem.W.nsIn K mainGlobals "range" = some none)
    (z_sorted : PySem.W.nsIn K mainGlobals "sorted" = some none)
    (z_sum : PySem.W.nsIn K mainGlobals "sum" = some none)
    (z_tuple : PySem.W.nsIn K mainGlobals "tuple" = some none)
    (z_zip : PySem.W.nsIn K mainGlobals "zip" = some none)
    : ∃ fd : FuncData, (∀ (s : Shared) (v : Value), BindsTo s fd ⟨[v], []⟩ [("_law_script", v)]) ∧ ∀ base : Heap, K.In base → base.Ns mainGlobals mg → FnOk l.prog w K mg base CX0 4 fa fd ["_law_script"] (spP K 1 g_law) := by
  have T : Txt mg := ⟨PySem.W.mg_none_of X G z_all, PySem.W.mg_none_of X G z_bool, PySem.W.mg_none_of X G z_int, PySem.W.mg_none_of X G z_isinstance, PySem.W.mg_none_of X G z_len, PySem.W.mg_none_of X G z_list, PySem.W.mg_none_of X G z_max, PySem.W.mg_none_of X G z_min, PySem.W.mg_none_of X G z_range, PySem.W.mg_none_of X G z_sorted, PySem.W.mg_none_of X G z_sum, PySem.W.mg_none_of X G z_tuple, PySem.W.mg_none_of X G z_zip⟩
  obtain ⟨f0, fd, F, a0⟩ := A_law
  have e := hfa.symm.trans (PySem.W.mg_of X G a0)
  cases e
  refine ⟨fd, fun s v => ?_, fun base _ _ => ?_⟩
  · obtain ⟨oc, od, kV, doc, pm, an, cdv, ct, osl, rfl, _, _⟩ := F.ex
    exact .of_eq rfl
  · have d_law_draw : Df l.prog w K mg base 1 "_law_draw" ["_law_pot_here", "_law_size"] (spI K 1 g_law_draw) := df_mk A_law_draw X G (fun _ _ _ _ _ _ us hl => match us, hl with | [_, _], _ => rfl) (fun f fd F => ok_law_draw F T )
    have d_law_great : Df l.prog w K mg base 2 "_law_great" ["_law_pot_here"] (spI K 0 g_law_great) := df_mk A_law_great X G (fun _ _ _ _ _ _ us hl => match us, hl with | [_], _ => rfl) (fun f fd F => ok_law_great F T d_law_draw)
    have d_law_amount : Df l.prog w K mg base 3 "_law_amount" ["_law_pot_here"] (spI K 0 g_law_amount) := df_mk A_law_amount X G (fun _ _ _ _ _ _ us hl => match us, hl with | [_], _ => rfl) (fun f fd F => ok_law_amount F T d_law_draw d_law_great)
    have d_law_is_integer : Df l.prog w K mg base 1 "_law_is_integer" ["_law_told"] (spP K 1 g_law_is_integer) := df_mk A_law_is_integer X G (fun _ _ _ _ _ _ us hl => match us, hl with | [_], _ => rfl) (fun f fd F => ok_law_is_integer F T )
    have d_law_is_corner : Df l.prog w K mg base 2 "_law_is_corner" ["_law_pair", "_law_spot"] (spP K 2 g_law_is_corner) := df_mk A_law_is_corner X G (fun _ _ _ _ _ _ us hl => match us, hl with | [_, _], _ => rfl) (fun f fd F => ok_law_is_corner F T d_law_is_integer)
    have d_law_are_corners : Df l.prog w K mg base 3 "_law_are_corners" ["_law_told", "_law_spot"] (spP K 2 g_law_are_corners) := df_mk A_law_are_corners X G (fun _ _ _ _ _ _ us hl => match us, hl with | [_, _], _ => rfl) (fun f fd F => ok_law_are_corners F T d_law_is_corner)
    have d_law_before : Df l.prog w K mg base 1 "_law_before" ["_law_one", "_law_other"] (spP K 2 g_law_before) := df_mk A_law_before X G (fun _ _ _ _ _ _ us hl => match us, hl with | [_, _], _ => rfl) (fun f fd F => ok_law_before F T )
    have d_law_grid : Df l.prog w K mg base 1 "_law_grid" ["_law_levels"] (spP K 1 g_law_grid) := df_mk A_law_grid X G (fun _ _ _ _ _ _ us hl => match us, hl with | [_], _ => rfl) (fun f fd F => ok_law_grid F T )
    have d_law_moved : Df l.prog w K mg base 3 "_law_moved" ["_law_pot_here", "_law_spot"] (spI K 1 g_law_moved) := df_mk A_law_moved X G (fun _ _ _ _ _ _ us hl => match us, hl with | [_, _], _ => rfl) (fun f fd F => ok_law_moved F T d_law_draw d_law_great)
    have d_law_pot : Df l.prog w K mg base 1 "_law_pot" ["_law_script"] (spF K 1 g_law_pot) := df_mk A_law_pot X G (fun _ _ _ _ _ _ us hl => match us, hl with | [_], _ => rfl) (fun f fd F => ok_law_pot F T )
    have d_law_sum_over : Df l.prog w K mg base 1 "_law_sum_over" ["_law_told", "_law_table"] (spP K 2 g_law_sum_over) := df_mk A_law_sum_over X G (fun _ _ _ _ _ _ us hl => match us, hl with | [_, _], _ => rfl) (fun f fd F => ok_law_sum_over F T )
    have d_law_join : Df l.prog w K mg base 1 "_law_join" ["_law_one", "_law_other"] (spP K 2 g_law_join) := df_mk A_law_join X G (fun _ _ _ _ _ _ us hl => match us, hl with | [_, _], _ => rfl) (fun f fd F => ok_law_join F T )
    have d_law_meet : Df l.prog w K mg base 1 "_law_meet" ["_law_one", "_law_other"] (spP K 2 g_law_meet) := df_mk A_law_meet X G (fun _ _ _ _ _ _ us hl => match us, hl with | [_, _], _ => rfl) (fun f fd F => ok_law_meet F T )
    have d_before : Df l.prog w K mg base 1 "before" ["first", "second"] (spP K 2 g_before) := df_mk A_before X G (fun _ _ _ _ _ _ us hl => match us, hl with | [_, _], _ => rfl) (fun f fd F => ok_before F T )
    have d_join_of : Df l.prog w K mg base 1 "join_of" ["first", "second"] (spP K 2 g_join_of) := df_mk A_join_of X G (fun _ _ _ _ _ _ us hl => match us, hl with | [_, _], _ => rfl) (fun f fd F => ok_join_of F T )
    have d_meet_of : Df l.prog w K mg base 1 "meet_of" ["first", "second"] (spP K 2 g_meet_of) := df_mk A_meet_of X G (fun _ _ _ _ _ _ us hl => match us, hl with | [_, _], _ => rfl) (fun f fd F => ok_meet_of F T )
    have d_law_two_hold : Df l.prog w K mg base 2 "_law_two_hold" ["_law_first", "_law_second", "_law_table", "_law_parts"] (spP K 4 g_law_two_hold) := df_mk A_law_two_hold X G (fun _ _ _ _ _ _ us hl => match us, hl with | [_, _, _, _], _ => rfl) (fun f fd F => ok_law_two_hold F T d_law_join d_law_meet d_before d_join_of d_meet_of)
    have d_corners : Df l.prog w K mg base 1 "corners" ["moment"] (spP K 1 g_corners) := df_mk A_corners X G (fun _ _ _ _ _ _ us hl => match us, hl with | [_], _ => rfl) (fun f fd F => ok_corners F T )
    have k_corners_moment : Dk l.prog w K mg base 1 "corners" ["moment"] ["moment"] [0] (spP K 1 g_corners) := dk_mk A_corners X G (fun _ _ _ _ _ _ us hl => match us, hl with | [_], _ => rfl) (fun f fd F => ok_corners F T )
    exact ok_law F T d_law_amount d_law_are_corners d_law_before d_law_draw d_law_grid d_law_moved d_law_pot d_law_sum_over d_law_two_hold d_corners k_corners_moment
end LK01
open PySem PySem.W PyProof.Rows in
set_option maxRecDepth 100000 in
set_option maxHeartbeats 0 in
theorem PySem.Challenge.cw_deltamill_k01_whole_corners_add_up_holds : PySem.Challenge.rw_deltamill_k01_whole_corners_add_up.Holds := by
  w_on; o_law; k_head; (case hw => w_witness2)
  k_fill
  refine L2.walk_of (l := PySem.Challenge.rw_deltamill_k01_whole_corners_add_up) (n := 63) (k := 4) (x := "_law_script") (CX := fun _ => L2.CX0) (sp := fun w => DL.spP _ 1 LK01.g_law) rfl (by decide) rfl ⟨rfl, by decide, by decide⟩ (fun w h Y => PySem.W.kIn_of Y) ?F (fun _ _ a ns hl _ hS => DL.law_sp LK01.law_true hl hS) (fun _ _ _ _ _ h => h)
  case F =>
    intro w mg fa h KX G hmg
    refine' LK01.all_mk KX G hmg (DL.at_mk ?a0 ?l0 ?c0 ?k0) (DL.at_mk ?a1 ?l1 ?c1 ?k1) (DL.at_mk ?a2 ?l2 ?c2 ?k2) (DL.at_mk ?a3 ?l3 ?c3 ?k3) (DL.at_mk ?a4 ?l4 ?c4 ?k4) (DL.at_mk ?a5 ?l5 ?c5 ?k5) (DL.at_mk ?a6 ?l6 ?c6 ?k6) (DL.at_mk ?a7 ?l7 ?c7 ?k7) (DL.at_mk ?a8 ?l8 ?c8 ?k8) (DL.at_mk ?a9 ?l9 ?c9 ?k9) (DL.at_mk ?a10 ?l10 ?c10 ?k10) (DL.at_mk ?a11 ?l11 ?c11 ?k11) (DL.at_mk ?a12 ?l12 ?c12 ?k12) (DL.at_mk ?a13 ?l13 ?c13 ?k13) (DL.at_mk ?a14 ?l14 ?c14 ?k14) (DL.at_mk ?a15 ?l15 ?c15 ?k15) (DL.at_mk ?a16 ?l16 ?c16 ?k16) (DL.at_mk ?a17 ?l17 ?c17 ?k17) (DL.at_mk ?a18 ?l18 ?c18 ?k18) ?z_all ?z_bool ?z_int ?z_isinstance ?z_len ?z_list ?z_max ?z_min ?z_range ?z_sorted ?z_sum ?z_tuple ?z_zip 
    (case a0 => k_is); (case l0 => k_is); (case c0 => k_is); (case k0 => k_is)
    (case a1 => k_is); (case l1 => k_is); (case c1 => k_is); (case k1 => k_is)
    (case a2 => k_is); (case l2 => k_is); (case c2 => k_is); (case k2 => k_is)
    (case a3 => k_is); (case l3 => k_is); (case c3 => k_is); (case k3 => k_is)
    (case a4 => k_is); (case l4 => k_is); (case c4 => k_is); (case k4 => k_is)
    (case a5 => k_is); (case l5 => k_is); (case c5 => k_is); (case k5 => k_is)
    (case a6 => k_is); (case l6 => k_is); (case c6 => k_is); (case k6 => k_is)
    (case a7 => k_is); (case l7 => k_is); (case c7 => k_is); (case k7 => k_is)
    (case a8 => k_is); (case l8 => k_is); (case c8 => k_is); (case k8 => k_is)
    (case a9 => k_is); (case l9 => k_is); (case c9 => k_is); (case k9 => k_is)
    (case a10 => k_is); (case l10 => k_is); (case c10 => k_is); (case k10 => k_is)
    (case a11 => k_is); (case l11 => k_is); (case c11 => k_is); (case k11 => k_is)
    (case a12 => k_is); (case l12 => k_is); (case c12 => k_is); (case k12 => k_is)
    (case a13 => k_is); (case l13 => k_is); (case c13 => k_is); (case k13 => k_is)
    (case a14 => k_is); (case l14 => k_is); (case c14 => k_is); (case k14 => k_is)
    (case a15 => k_is); (case l15 => k_is); (case c15 => k_is); (case k15 => k_is)
    (case a16 => k_is); (case l16 => k_is); (case c16 => k_is); (case k16 => k_is)
    (case a17 => k_is); (case l17 => k_is); (case c17 => k_is); (case k17 => k_is)
    (case a18 => k_is); (case l18 => k_is); (case c18 => k_is); (case k18 => k_is)
    (case z_all => k_is)
    (case z_bool => k_is)
    (case z_int => k_is)
    (case z_isinstance => k_is)
    (case z_len => k_is)
    (case z_list => k_is)
    (case z_max => k_is)
    (case z_min => k_is)
    (case z_range => k_is)
    (case z_sorted => k_is)
    (case z_sum => k_is)
    (case z_tuple => k_is)
    (case z_zip => k_is)
#print axioms PySem.Challenge.cw_deltamill_k01_whole_corners_add_up_holds
